import PyProof.Rows.All
import Wide.All
import OpenK.AllK
import Wide.FinOn
import PyProof.EqAt
import PyProof.EqKinds
import PyProof.TupleCall
import HandS.Base
import HandS.Call
import HandS.List
import HandS.Comp
import HandS.Ends
import HandS.Dict
import HandS.Iter
import HandS.Text
import HandS.Words
import HandS.Exc
import HandS.TupAny
import HandS.TupLe
import HandS.Deep
import HandS.Wide
import HandS.IsInst
import HandS.More
import HandS.WordsDict
import HandS.SetFor
import HandS.SortInts
import HandS.TupMul
import PySem.Challenge.RW_pathask_k07_what_is_a_pattern
set_option Elab.async false
set_option linter.all false
set_option maxRecDepth 100000
set_option maxHeartbeats 4000000
/-! Dat1: the data layer's base. A value is a plain tree (a tuple is its items); lists, dicts, instances stand at
addresses of a data heap. Readings are over slots of such values and the data heap. -/
namespace Dt
open PySem PySem.Spec L2

/-! ### the abstract heap grows -/
structure LeH (H H' : Hp) : Prop where
  tup : ∀ p xs, H p = some (.tup xs) → H' p = some (.tup xs)
  fl : ∀ p o xs, H p = some (.frz o (.lst xs)) → H' p = some (.frz o (.lst xs))
  ft : ∀ p o xs, H p = some (.frz o (.tup xs)) → H' p = some (.frz o (.tup xs))
theorem LeH.refl (H : Hp) : LeH H H := ⟨fun _ _ h => h, fun _ _ _ h => h, fun _ _ _ h => h⟩
theorem LeH.trans {H1 H2 H3 : Hp} (a : LeH H1 H2) (b : LeH H2 H3) : LeH H1 H3 :=
  ⟨fun p xs h => b.tup p xs (a.tup p xs h), fun p o xs h => b.fl p o xs (a.fl p o xs h), fun p o xs h => b.ft p o xs (a.ft p o xs h)⟩
theorem LeH.new {H : Hp} {p : Addr} {o : HO} (h : H p = none) : LeH H (upd H p o) :=
  ⟨fun q xs e => by rw [upd_ne (ne_of_none e h)]; exact e, fun q u xs e => by rw [upd_ne (ne_of_none e h)]; exact e, fun q u xs e => by rw [upd_ne (ne_of_none e h)]; exact e⟩
theorem LeH.put {H : Hp} {p : Addr} {o u : HO} (h : H p = some u) (m : Mut (some u)) : LeH H (upd H p o) := by
  have k : ∀ q v, H q = some v → ¬ Mut (some v) → q ≠ p := fun q v e n z => by
    subst z
    rw [h] at e
    cases e
    exact n m
  exact ⟨fun q xs e => by rw [upd_ne (k q _ e fun z => z)]; exact e, fun q u xs e => by rw [upd_ne (k q _ e fun z => z)]; exact e, fun q u xs e => by rw [upd_ne (k q _ e fun z => z)]; exact e⟩

/-! ### data -/
inductive D where
  | non | bl (b : Bool) | int (i : Int) | str (x : Str) | tup (xs : List D) | rol (xs : List D) | ref (a : Addr)

/-- a list that is read alone, for good -/
def SqR (K : PySem.W.Frag) (H : Hp) (a : Addr) (xs : List V) : Prop :=
  (∃ o, H a = some (.frz o (.lst xs))) ∨
    ∃ (o : Obj) (its : Array Value) (n : Nat), K.lookup a = some o ∧ o.cls = .type "list" ∧ o.dict = none ∧ o.data = .seq its n ∧ its.size ≤ sizeLine ∧ Vals xs its.toList
theorem SqR.l {K : PySem.W.Frag} {H : Hp} {a : Addr} {xs : List V} (h : SqR K H a xs) : SqL K H a xs := h.elim (fun z => .inl (.inr z)) .inr
theorem SqR.le {K : PySem.W.Frag} {H H' : Hp} {a : Addr} {xs : List V} (le : LeH H H') (h : SqR K H a xs) : SqR K H' a xs :=
  h.elim (fun ⟨o, e⟩ => .inl ⟨o, le.fl _ _ _ e⟩) .inr
theorem sqT_le {K : PySem.W.Frag} {H H' : Hp} {a : Addr} {xs : List V} (le : LeH H H') (h : SqT K H a xs) : SqT K H' a xs := by
  rcases h with (h | ⟨o, h⟩) | h
  · exact .inl (.inl (le.tup _ _ h))
  · exact .inl (.inr ⟨o, le.ft _ _ _ h⟩)
  · exact .inr h

mutual
def RD (K : PySem.W.Frag) (H : Hp) : D → V → Prop
  | .non, v => v = .non
  | .bl b, v => v = .bl b
  | .int i, v => v = .int i
  | .str x, v => v = .str x
  | .tup ds, v => ∃ p xs, v = .ref p ∧ SqT K H p xs ∧ RDs K H ds xs
  | .rol ds, v => ∃ p xs, v = .ref p ∧ SqR K H p xs ∧ RDs K H ds xs
  | .ref a, v => v = .ref a
def RDs (K : PySem.W.Frag) (H : Hp) : List D → List V → Prop
  | [], vs => vs = []
  | d :: ds, vs => ∃ v r, vs = v :: r ∧ RD K H d v ∧ RDs K H ds r
end

section
variable {K : PySem.W.Frag} {H H' : Hp}
mutual
theorem RD.le (le : LeH H H') : ∀ {d : D} {v : V}, RD K H d v → RD K H' d v
  | .non, _, h => h
  | .bl _, _, h => h
  | .int _, _, h => h
  | .str _, _, h => h
  | .tup ds, _, h => by
    obtain ⟨p, xs, e, t, r⟩ : ∃ p xs, _ = V.ref p ∧ SqT K H p xs ∧ RDs K H ds xs := h
    exact ⟨p, xs, e, sqT_le le t, RDs.le le r⟩
  | .rol ds, _, h => by
    obtain ⟨p, xs, e, t, r⟩ : ∃ p xs, _ = V.ref p ∧ SqR K H p xs ∧ RDs K H ds xs := h
    exact ⟨p, xs, e, t.le le, RDs.le le r⟩
  | .ref _, _, h => h
theorem RDs.le (le : LeH H H') : ∀ {ds : List D} {vs : List V}, RDs K H ds vs → RDs K H' ds vs
  | [], _, h => h
  | _ :: _, _, h => by
    obtain ⟨v, r, e, h1, h2⟩ := h
    exact ⟨v, r, e, RD.le le h1, RDs.le le h2⟩
end
theorem RDs.nil : RDs K H [] [] := rfl
theorem RDs.cons {d : D} {ds : List D} {v : V} {vs : List V} (a : RD K H d v) (b : RDs K H ds vs) : RDs K H (d :: ds) (v :: vs) := ⟨v, vs, rfl, a, b⟩
theorem RDs.length : ∀ {ds : List D} {vs : List V}, RDs K H ds vs → ds.length = vs.length
  | [], _, h => by cases h; rfl
  | _ :: ds, _, h => by
    obtain ⟨v, r, rfl, _, h2⟩ := h
    simp [RDs.length h2]
theorem RDs.get : ∀ {ds : List D} {vs : List V} {i : Nat} {d : D}, RDs K H ds vs → ds[i]? = some d → ∃ v, vs[i]? = some v ∧ RD K H d v
  | [], _, _, _, _, e => by simp at e
  | _ :: _, _, 0, _, h, e => by
    obtain ⟨v, r, rfl, h1, h2⟩ := h
    simp at e
    subst e
    exact ⟨v, rfl, h1⟩
  | _ :: ds, _, i + 1, _, h, e => by
    obtain ⟨v, r, rfl, h1, h2⟩ := h
    obtain ⟨u, e1, e2⟩ := RDs.get (i := i) h2 (by simpa using e)
    exact ⟨u, by simpa using e1, e2⟩
theorem RDs.got : ∀ {ds : List D} {vs : List V} {i : Nat} {v : V}, RDs K H ds vs → vs[i]? = some v → ∃ d, ds[i]? = some d ∧ RD K H d v
  | [], _, _, _, h, e => by cases h; simp at e
  | _ :: _, _, 0, _, h, e => by
    obtain ⟨v, r, rfl, h1, h2⟩ := h
    simp at e
    subst e
    exact ⟨_, rfl, h1⟩
  | _ :: ds, _, i + 1, _, h, e => by
    obtain ⟨v, r, rfl, h1, h2⟩ := h
    obtain ⟨u, e1, e2⟩ := RDs.got (i := i) h2 (by simpa using e)
    exact ⟨u, by simpa using e1, e2⟩
theorem RDs.append : ∀ {ds es : List D} {vs us : List V}, RDs K H ds vs → RDs K H es us → RDs K H (ds ++ es) (vs ++ us)
  | [], _, _, _, h, k => by cases h; exact k
  | _ :: _, _, _, _, h, k => by
    obtain ⟨v, r, rfl, h1, h2⟩ := h
    exact ⟨v, r ++ _, rfl, h1, RDs.append h2 k⟩
theorem RDs.snoc {ds : List D} {vs : List V} {d : D} {v : V} (h : RDs K H ds vs) (k : RD K H d v) : RDs K H (ds ++ [d]) (vs ++ [v]) := h.append (.cons k .nil)
theorem RDs.set : ∀ {ds : List D} {vs : List V} {d : D} {v : V} (i : Nat), RDs K H ds vs → RD K H d v → RDs K H (ds.set i d) (vs.set i v)
  | [], _, _, _, _, h, _ => by cases h; rfl
  | _ :: _, _, _, _, 0, h, k => by
    obtain ⟨v, r, rfl, h1, h2⟩ := h
    exact ⟨_, r, rfl, k, h2⟩
  | _ :: _, _, _, _, i + 1, h, k => by
    obtain ⟨v, r, rfl, h1, h2⟩ := h
    exact ⟨v, _, rfl, h1, RDs.set i h2 k⟩
theorem RDs.take : ∀ {ds : List D} {vs : List V} (n : Nat), RDs K H ds vs → RDs K H (ds.take n) (vs.take n)
  | [], _, _, h => by cases h; simp [RDs]
  | _ :: _, _, 0, h => by simp [RDs]
  | _ :: _, _, n + 1, h => by
    obtain ⟨v, r, rfl, h1, h2⟩ := h
    exact ⟨v, _, rfl, h1, RDs.take n h2⟩
theorem RDs.drop : ∀ {ds : List D} {vs : List V} (n : Nat), RDs K H ds vs → RDs K H (ds.drop n) (vs.drop n)
  | [], _, _, h => by cases h; simp [RDs]
  | _ :: _, _, 0, h => h
  | _ :: _, _, n + 1, h => by
    obtain ⟨v, r, rfl, h1, h2⟩ := h
    exact RDs.drop n h2
theorem RDs.reverse : ∀ {ds : List D} {vs : List V}, RDs K H ds vs → RDs K H ds.reverse vs.reverse
  | [], _, h => by cases h; rfl
  | _ :: _, _, h => by
    obtain ⟨v, r, rfl, h1, h2⟩ := h
    rw [List.reverse_cons, List.reverse_cons]
    exact (RDs.reverse h2).snoc h1
theorem RDs.dropLast : ∀ {ds : List D} {vs : List V}, RDs K H ds vs → RDs K H ds.dropLast vs.dropLast := fun {ds vs} h => by
  rw [List.dropLast_eq_take, List.dropLast_eq_take, h.length]
  exact h.take _
theorem RDs.eraseIdx : ∀ {ds : List D} {vs : List V} (n : Nat), RDs K H ds vs → RDs K H (ds.eraseIdx n) (vs.eraseIdx n)
  | [], _, _, h => by cases h; rfl
  | _ :: _, _, 0, h => by
    obtain ⟨v, r, rfl, h1, h2⟩ := h
    exact h2
  | _ :: _, _, n + 1, h => by
    obtain ⟨v, r, rfl, h1, h2⟩ := h
    exact ⟨v, _, rfl, h1, RDs.eraseIdx n h2⟩
theorem RDs.ints : ∀ {ns : List Int} {vs : List V}, RDs K H (ns.map D.int) vs ↔ vs = ns.map V.int
  | [], _ => Iff.rfl
  | n :: ns, vs => by
    constructor
    · rintro ⟨v, r, rfl, h1, h2⟩
      cases h1
      rw [RDs.ints.mp h2]
      rfl
    · rintro rfl
      exact ⟨_, _, rfl, rfl, RDs.ints.mpr rfl⟩
theorem RDs.strs : ∀ {ns : List Str} {vs : List V}, RDs K H (ns.map D.str) vs ↔ vs = ns.map V.str
  | [], _ => Iff.rfl
  | n :: ns, vs => by
    constructor
    · rintro ⟨v, r, rfl, h1, h2⟩
      cases h1
      rw [RDs.strs.mp h2]
      rfl
    · rintro rfl
      exact ⟨_, _, rfl, rfl, RDs.strs.mpr rfl⟩
theorem RDs.bls : ∀ {ns : List Bool} {vs : List V}, RDs K H (ns.map D.bl) vs ↔ vs = ns.map V.bl
  | [], _ => Iff.rfl
  | n :: ns, vs => by
    constructor
    · rintro ⟨v, r, rfl, h1, h2⟩
      cases h1
      rw [RDs.bls.mp h2]
      rfl
    · rintro rfl
      exact ⟨_, _, rfl, rfl, RDs.bls.mpr rfl⟩
end

/-! ### tables -/
section
variable {κ α : Type} [DecidableEq κ]
def lk : List (κ × α) → κ → Option α
  | [], _ => none
  | (j, v) :: r, k => if j = k then some v else lk r k
def pt (l : List (κ × α)) (k : κ) (v : α) : List (κ × α) :=
  if (lk l k).isSome then l.map (fun q => if q.1 = k then (q.1, v) else q) else l ++ [(k, v)]
def dr (l : List (κ × α)) (k : κ) : List (κ × α) := l.filter fun q => decide (q.1 ≠ k)
end
def RKs {κ : Type} (K : PySem.W.Frag) (H : Hp) : List (κ × D) → List (κ × V) → Prop
  | [], ws => ws = []
  | (k, d) :: r, ws => ∃ v s, ws = (k, v) :: s ∧ RD K H d v ∧ RKs K H r s
section
variable {K : PySem.W.Frag} {H H' : Hp} {κ : Type}
theorem RKs.le (le : LeH H H') : ∀ {kvs : List (κ × D)} {ws : List (κ × V)}, RKs K H kvs ws → RKs K H' kvs ws
  | [], _, h => h
  | (_, _) :: _, _, h => by
    obtain ⟨v, r, e, h1, h2⟩ := h
    exact ⟨v, r, e, h1.le le, RKs.le le h2⟩
theorem RKs.length : ∀ {kvs : List (κ × D)} {ws : List (κ × V)}, RKs K H kvs ws → kvs.length = ws.length
  | [], _, h => by cases h; rfl
  | (_, _) :: _, _, h => by
    obtain ⟨v, r, rfl, h1, h2⟩ := h
    simp [RKs.length h2]
theorem RKs.append : ∀ {kvs ls : List (κ × D)} {ws us : List (κ × V)}, RKs K H kvs ws → RKs K H ls us → RKs K H (kvs ++ ls) (ws ++ us)
  | [], _, _, _, h, k => by cases h; exact k
  | (_, _) :: _, _, _, _, h, k => by
    obtain ⟨v, r, rfl, h1, h2⟩ := h
    exact ⟨v, r ++ _, rfl, h1, RKs.append h2 k⟩
theorem RKs.get : ∀ {kvs : List (κ × D)} {ws : List (κ × V)} {i : Nat} {k : κ} {v : V}, RKs K H kvs ws → ws[i]? = some (k, v) → ∃ d, kvs[i]? = some (k, d) ∧ RD K H d v
  | [], _, _, _, _, h, e => by cases h; simp at e
  | (_, _) :: _, _, 0, _, _, h, e => by
    obtain ⟨v, r, rfl, h1, h2⟩ := h
    simp at e
    obtain ⟨rfl, rfl⟩ := e
    exact ⟨_, rfl, h1⟩
  | (_, _) :: _, _, i + 1, _, _, h, e => by
    obtain ⟨v, r, rfl, h1, h2⟩ := h
    obtain ⟨u, e1, e2⟩ := RKs.get (i := i) h2 (by simpa using e)
    exact ⟨u, by simpa using e1, e2⟩
variable [DecidableEq κ]
theorem RKs.lk : ∀ {kvs : List (κ × D)} {ws : List (κ × V)} (k : κ), RKs K H kvs ws → match Dt.lk kvs k, valV ws k with | some d, some v => RD K H d v | none, none => True | _, _ => False
  | [], _, k, h => by cases h; simp [Dt.lk, valV]
  | (j, d) :: r, _, k, h => by
    obtain ⟨v, s, rfl, h1, h2⟩ := h
    by_cases e : j = k
    · rw [valV_pos e]
      simp [Dt.lk, e, h1]
    · rw [valV_neg e]
      simp only [Dt.lk, if_neg e]
      exact RKs.lk k h2
theorem RKs.nn {kvs : List (κ × D)} {ws : List (κ × V)} {k : κ} (h : RKs K H kvs ws) (e : Dt.lk kvs k = none) : valV ws k = none := by
  have := h.lk k
  rw [e] at this
  cases q : valV ws k with
  | none => rfl
  | some v => rw [q] at this; exact this.elim
theorem RKs.ss {kvs : List (κ × D)} {ws : List (κ × V)} {k : κ} {d : D} (h : RKs K H kvs ws) (e : Dt.lk kvs k = some d) : ∃ v, valV ws k = some v ∧ RD K H d v := by
  have := h.lk k
  rw [e] at this
  cases q : valV ws k with
  | none => rw [q] at this; exact this.elim
  | some v => rw [q] at this; exact ⟨v, rfl, this⟩
theorem RKs.isSome {kvs : List (κ × D)} {ws : List (κ × V)} (k : κ) (h : RKs K H kvs ws) : (valV ws k).isSome = (Dt.lk kvs k).isSome := by
  cases e : Dt.lk kvs k with
  | none => rw [h.nn e]; rfl
  | some d =>
    obtain ⟨v, q, _⟩ := h.ss e
    rw [q]
    rfl
theorem RKs.mapv {k : κ} {d : D} {v : V} (rv : RD K H d v) : ∀ {kvs : List (κ × D)} {ws : List (κ × V)}, RKs K H kvs ws →
    RKs K H (kvs.map fun q => if q.1 = k then (q.1, d) else q) (ws.map fun q => if q.1 = k then (q.1, v) else q)
  | [], _, h => by cases h; rfl
  | (j, _) :: _, _, h => by
    obtain ⟨w, s, rfl, h1, h2⟩ := h
    by_cases e : j = k
    · simp only [List.map_cons, if_pos e]
      exact ⟨v, _, rfl, rv, RKs.mapv rv h2⟩
    · simp only [List.map_cons, if_neg e]
      exact ⟨w, _, rfl, h1, RKs.mapv rv h2⟩
theorem RKs.pt {kvs : List (κ × D)} {ws : List (κ × V)} {k : κ} {d : D} {v : V} (h : RKs K H kvs ws) (rv : RD K H d v) : RKs K H (Dt.pt kvs k d) (putK ws k v) := by
  unfold Dt.pt putK
  rw [valV_any, h.isSome k]
  split
  · exact RKs.mapv rv h
  · exact h.append ⟨v, [], rfl, rv, rfl⟩
theorem RKs.dr {k : κ} : ∀ {kvs : List (κ × D)} {ws : List (κ × V)}, RKs K H kvs ws → RKs K H (Dt.dr kvs k) (dropK ws k)
  | [], _, h => by cases h; rfl
  | (j, _) :: _, _, h => by
    obtain ⟨w, s, rfl, h1, h2⟩ := h
    unfold Dt.dr dropK
    by_cases e : j = k
    · simp only [List.filter_cons, decide_eq_true_eq, ne_eq, e, not_true, decide_false, Bool.false_eq_true, if_false]
      exact RKs.dr h2
    · simp only [List.filter_cons, decide_eq_true_eq, ne_eq, e, not_false_eq_true, decide_true, if_true]
      exact ⟨w, _, rfl, h1, RKs.dr h2⟩
end

/-! ### the data heap -/
inductive Ob where
  | lst (xs : List D) | dK (kvs : List (Key × D)) | dT (kvs : List (List Key × D)) | ins (C : Addr) (fs : List (Str × D))
abbrev DH := Addr → Option Ob
def upo (S : DH) (a : Addr) (o : Ob) : DH := fun b => if b = a then some o else S b
@[simp] theorem upo_same {S : DH} {a : Addr} {o : Ob} : upo S a o a = some o := if_pos rfl
theorem upo_ne {S : DH} {a b : Addr} {o : Ob} (h : b ≠ a) : upo S a o b = S b := if_neg h
@[simp] theorem upo_upo {S : DH} {a : Addr} {o u : Ob} : upo (upo S a o) a u = upo S a u := by
  funext b
  unfold upo
  split <;> rfl
/-- a new object o: p its address, the heap with it -/
def newO (S : DH) (o : Ob) (Q : Addr → DH → Prop) : Prop := ∀ p, S p = none → Q p (upo S p o)
theorem newO_mono {S : DH} {o : Ob} {Q Q' : Addr → DH → Prop} (k : ∀ p S', Q p S' → Q' p S') (h : newO S o Q) : newO S o Q' := fun p hp => k _ _ (h p hp)
def ROb (K : PySem.W.Frag) (H : Hp) (a : Addr) : Ob → Prop
  | .lst ds => ∃ xs, H a = some (.lst xs) ∧ RDs K H ds xs
  | .dK kvs => ∃ ws, H a = some (.dK ws) ∧ RKs K H kvs ws
  | .dT kvs => ∃ ws, H a = some (.dT ws) ∧ RKs K H kvs ws
  | .ins C fs => ∃ dx ws, H a = some (.ins C dx ws) ∧ RKs K H fs ws
def Rep (K : PySem.W.Frag) (S : DH) (H : Hp) : Prop := ∀ a o, S a = some o → ROb K H a o
section
variable {K : PySem.W.Frag} {H H' : Hp} {S : DH} {a p : Addr} {o : Ob}
theorem ROb.mut (h : ROb K H a o) : ∃ u, H a = some u ∧ Mut (some u) := by
  cases o with
  | lst _ => obtain ⟨xs, e, _⟩ := h; exact ⟨_, e, trivial⟩
  | dK _ => obtain ⟨xs, e, _⟩ := h; exact ⟨_, e, trivial⟩
  | dT _ => obtain ⟨xs, e, _⟩ := h; exact ⟨_, e, trivial⟩
  | ins _ _ => obtain ⟨dx, xs, e, _⟩ := h; exact ⟨_, e, trivial⟩
theorem ROb.at (h : ROb K H a o) (le : LeH H H') (e : H' a = H a) : ROb K H' a o := by
  cases o with
  | lst _ => obtain ⟨xs, q, r⟩ := h; exact ⟨xs, e.trans q, r.le le⟩
  | dK _ => obtain ⟨xs, q, r⟩ := h; exact ⟨xs, e.trans q, r.le le⟩
  | dT _ => obtain ⟨xs, q, r⟩ := h; exact ⟨xs, e.trans q, r.le le⟩
  | ins _ _ => obtain ⟨dx, xs, q, r⟩ := h; exact ⟨dx, xs, e.trans q, r.le le⟩
theorem Rep.free (r : Rep K S H) (h : H p = none) : S p = none := by
  cases e : S p with
  | none => rfl
  | some o =>
    obtain ⟨u, q, _⟩ := (r p o e).mut
    rw [h] at q
    cases q
/-- a new object that the data heap does not tell -/
theorem Rep.garb {u : HO} (r : Rep K S H) (h : H p = none) : Rep K S (upd H p u) := fun b o e => by
  obtain ⟨v, q, _⟩ := (r b o e).mut
  exact (r b o e).at (LeH.new h) (upd_ne (ne_of_none q h))
theorem Rep.new {u : HO} (r : Rep K S H) (h : H p = none) (n : ROb K (upd H p u) p o) : Rep K (upo S p o) (upd H p u) := fun b ob e => by
  by_cases z : b = p
  · subst z
    rw [upo_same] at e
    cases e
    exact n
  · rw [upo_ne z] at e
    exact (r b ob e).at (LeH.new h) (upd_ne z)
theorem Rep.put {u v : HO} (r : Rep K S H) (h : H p = some v) (m : Mut (some v)) (n : ROb K (upd H p u) p o) : Rep K (upo S p o) (upd H p u) := fun b ob e => by
  by_cases z : b = p
  · subst z
    rw [upo_same] at e
    cases e
    exact n
  · rw [upo_ne z] at e
    exact (r b ob e).at (LeH.put h m) (upd_ne z)
end

/-! ### slots -/
abbrev DSt := List (Option D)
abbrev DK := D → DH → Prop
/-- what is wanted of an exception: its class, its fields, the slots, the heap -/
abbrev DW := Addr → List (Str × D) → DSt → DH → Prop
abbrev DTE := DW → DSt → DH → DK → Prop
abbrev DTT := DW → DSt → DH → (Bool → DH → Prop) → Prop
abbrev DTA := DW → DSt → DH → (List D → DH → Prop) → Prop
structure RSt (K : PySem.W.Frag) (H : Hp) (τ : DSt) (σ : St) : Prop where
  len : τ.length = σ.length
  get : ∀ (i : Nat) d, τ[i]? = some (some d) → ∃ v, σ[i]? = some (some v) ∧ RD K H d v
structure Rel (K : PySem.W.Frag) (τ : DSt) (S : DH) (σ : St) (H : Hp) : Prop where
  st : RSt K H τ σ
  rep : Rep K S H
theorem RSt.le {K : PySem.W.Frag} {H H' : Hp} {τ : DSt} {σ : St} (le : LeH H H') (r : RSt K H τ σ) : RSt K H' τ σ := ⟨r.len, fun i d e => by
  obtain ⟨v, q, rv⟩ := r.get i d e
  exact ⟨v, q, rv.le le⟩⟩
theorem RSt.set {K : PySem.W.Frag} {H : Hp} {τ : DSt} {σ : St} (r : RSt K H τ σ) (i : Nat) {d : D} {v : V} (rv : RD K H d v) : RSt K H (τ.set i (some d)) (σ.set i (some v)) := by
  refine ⟨by simp [r.len], fun j e h => ?_⟩
  rw [List.getElem?_set] at h ⊢
  by_cases z : i = j
  · subst z
    rw [if_pos rfl] at h
    rw [if_pos rfl]
    by_cases l : i < τ.length
    · rw [if_pos l] at h
      cases h
      rw [if_pos (by rw [← r.len]; exact l)]
      exact ⟨v, rfl, rv⟩
    · rw [if_neg l] at h
      cases h
  · rw [if_neg z] at h
    rw [if_neg z]
    exact r.get j e h
theorem Rel.le {K : PySem.W.Frag} {H H' : Hp} {τ : DSt} {S S' : DH} {σ : St} (r : Rel K τ S σ H) (le : LeH H H') (h : Rep K S' H') : Rel K τ S' σ H' := ⟨r.st.le le, h⟩

/-! ### wishes, lifts -/
def upW (K : PySem.W.Frag) (E : DW) (H0 : Hp) : WX := fun cls d σ H => ∃ (C : Addr) (fs : List (Str × D)) (τ : DSt) (S : DH) (dd : Addr) (ws : List (Str × V)),
  cls = .ref C ∧ d = some dd ∧ LeH H0 H ∧ Rel K τ S σ H ∧ H dd = some (.xd ws) ∧ RKs K H fs ws ∧ E C fs τ S
theorem upW.imp {K : PySem.W.Frag} {E E' : DW} {H0 H1 : Hp} (le : LeH H0 H1) (k : ∀ C fs τ S, E C fs τ S → E' C fs τ S) {cls : Value} {d : Option Addr} {σ : St} {H : Hp} (h : upW K E H1 cls d σ H) : upW K E' H0 cls d σ H := by
  obtain ⟨C, fs, τ, S, dd, ws, e1, e2, l, r, x, y, q⟩ := h
  exact ⟨C, fs, τ, S, dd, ws, e1, e2, le.trans l, r, x, y, k _ _ _ _ q⟩
def Wish (X : Cx) (E : DW) (H0 : Hp) : Prop := Takes X (upW X.K E H0)
theorem Wish.le {X : Cx} {E : DW} {H0 H1 : Hp} (w : Wish X E H0) (le : LeH H0 H1) : Wish X E H1 := Takes.imp w fun _ _ _ _ h => upW.imp le (fun _ _ _ _ q => q) h
abbrev DW0 : DW := fun _ _ _ _ => False
theorem wish0 {X : Cx} {H0 : Hp} : Wish X DW0 H0 := fun u s' ⟨a, B, sI, pins, σ, H, cls, d, e, I, nb, up, sky, na, os, ag, w⟩ => by
  obtain ⟨_, _, _, _, _, _, _, _, _, _, _, _, q⟩ := w
  exact q.elim

def upE (X : Cx) (t : DTE) : TE := fun σ H Q => ∃ E τ S, Wish X E H ∧ Rel X.K τ S σ H ∧ t E τ S fun d S' => ∀ v H', LeH H H' → Rep X.K S' H' → RD X.K H' d v → Q v H'
def upT (X : Cx) (t : DTT) : TT := fun σ H Q => ∃ E τ S, Wish X E H ∧ Rel X.K τ S σ H ∧ t E τ S fun b S' => ∀ H', LeH H H' → Rep X.K S' H' → Q b H'
def upA (X : Cx) (t : DTA) : TA := fun σ H Q => ∃ E τ S, Wish X E H ∧ Rel X.K τ S σ H ∧ t E τ S fun ds S' => ∀ vs H', LeH H H' → Rep X.K S' H' → RDs X.K H' ds vs → Q vs H'
structure DE (X : Cx) (e : Expr) (t : DTE) : Prop where
  mono : ∀ (E E' : DW) τ S (Q Q' : DK), (∀ C fs τ S, E C fs τ S → E' C fs τ S) → (∀ d S', Q d S' → Q' d S') → t E τ S Q → t E' τ S Q'
  run : PE X e (upE X t)
structure DT (X : Cx) (e : Expr) (t : DTT) : Prop where
  mono : ∀ (E E' : DW) τ S (Q Q' : Bool → DH → Prop), (∀ C fs τ S, E C fs τ S → E' C fs τ S) → (∀ d S', Q d S' → Q' d S') → t E τ S Q → t E' τ S Q'
  run : PT X e (upT X t)
structure DWt (X : Cx) (e : Expr) (t : DTT) : Prop where
  mono : ∀ (E E' : DW) τ S (Q Q' : Bool → DH → Prop), (∀ C fs τ S, E C fs τ S → E' C fs τ S) → (∀ d S', Q d S' → Q' d S') → t E τ S Q → t E' τ S Q'
  run : PW X e (upT X t)
structure DA (X : Cx) (es : List Expr) (t : DTA) : Prop where
  mono : ∀ (E E' : DW) τ S (Q Q' : List D → DH → Prop), (∀ C fs τ S, E C fs τ S → E' C fs τ S) → (∀ d S', Q d S' → Q' d S') → t E τ S Q → t E' τ S Q'
  run : PA X es (upA X t)
theorem pE_imp {X : Cx} {e : Expr} {t t' : TE} (h : PE X e t) (k : ∀ σ H Q, t' σ H Q → t σ H Q) : PE X e t' := ⟨fun pins s σ H Q I q => h.run pins s σ H Q I (k σ H Q q)⟩
theorem pT_imp {X : Cx} {e : Expr} {t t' : TT} (h : PT X e t) (k : ∀ σ H Q, t' σ H Q → t σ H Q) : PT X e t' := ⟨fun pins s σ H Q I q => h.run pins s σ H Q I (k σ H Q q)⟩
theorem pW_imp {X : Cx} {e : Expr} {t t' : TT} (h : PW X e t) (k : ∀ σ H Q, t' σ H Q → t σ H Q) : PW X e t' := ⟨fun wh pins s σ H Q I q => h.run wh pins s σ H Q I (k σ H Q q)⟩
theorem pA_imp {X : Cx} {e : List Expr} {t t' : TA} (h : PA X e t) (k : ∀ σ H Q, t' σ H Q → t σ H Q) : PA X e t' := ⟨fun pos pins s σ H Q I q => h.run pos pins s σ H Q I (k σ H Q q)⟩
theorem pS_imp {X : Cx} {e : Stmt} {t t' : TS} (h : PS X e t) (k : ∀ D σ H, t' D σ H → t D σ H) : PS X e t' := ⟨fun pins s σ H D I q => h.run pins s σ H D I (k D σ H q)⟩
theorem pSs_imp {X : Cx} {e : List Stmt} {t t' : TS} (h : PSs X e t) (k : ∀ D σ H, t' D σ H → t D σ H) : PSs X e t' := ⟨fun pins s σ H D I q => h.run pins s σ H D I (k D σ H q)⟩

section
variable {X : Cx} {e : Expr} {es : List Expr} {E : DW} {τ : DSt} {S : DH} {σ : St} {H : Hp}
/-- from a data reading to the layer's, the end weakened -/
theorem DE.to {t : DTE} (h : DE X e t) {Q0 : DK} {Q : VK} (w : Wish X E H) (r : Rel X.K τ S σ H) (q : t E τ S Q0)
    (k : ∀ d S' v H', LeH H H' → Wish X E H' → Rel X.K τ S' σ H' → RD X.K H' d v → Q0 d S' → Q v H') : upE X t σ H Q :=
  ⟨E, τ, S, w, r, h.mono _ _ _ _ _ _ (fun _ _ _ _ z => z) (fun d S' z v H' le rp rd => k d S' v H' le (w.le le) (r.le le rp) rd z) q⟩
theorem DT.to {t : DTT} (h : DT X e t) {Q0 : Bool → DH → Prop} {Q : Bool → Hp → Prop} (w : Wish X E H) (r : Rel X.K τ S σ H) (q : t E τ S Q0)
    (k : ∀ b S' H', LeH H H' → Wish X E H' → Rel X.K τ S' σ H' → Q0 b S' → Q b H') : upT X t σ H Q :=
  ⟨E, τ, S, w, r, h.mono _ _ _ _ _ _ (fun _ _ _ _ z => z) (fun d S' z H' le rp => k d S' H' le (w.le le) (r.le le rp) z) q⟩
theorem DWt.to {t : DTT} (h : DWt X e t) {Q0 : Bool → DH → Prop} {Q : Bool → Hp → Prop} (w : Wish X E H) (r : Rel X.K τ S σ H) (q : t E τ S Q0)
    (k : ∀ b S' H', LeH H H' → Wish X E H' → Rel X.K τ S' σ H' → Q0 b S' → Q b H') : upT X t σ H Q :=
  ⟨E, τ, S, w, r, h.mono _ _ _ _ _ _ (fun _ _ _ _ z => z) (fun d S' z H' le rp => k d S' H' le (w.le le) (r.le le rp) z) q⟩
theorem DA.to {t : DTA} (h : DA X es t) {Q0 : List D → DH → Prop} {Q : List V → Hp → Prop} (w : Wish X E H) (r : Rel X.K τ S σ H) (q : t E τ S Q0)
    (k : ∀ ds S' vs H', LeH H H' → Wish X E H' → Rel X.K τ S' σ H' → RDs X.K H' ds vs → Q0 ds S' → Q vs H') : upA X t σ H Q :=
  ⟨E, τ, S, w, r, h.mono _ _ _ _ _ _ (fun _ _ _ _ z => z) (fun d S' z vs H' le rp rd => k d S' vs H' le (w.le le) (r.le le rp) rd z) q⟩
end

/-! ### names, constants -/
@[simp] def dVar (i : Nat) : DTE := fun _ τ S Q => match τ[i]? with | some (some d) => Q d S | _ => False
@[simp] def dC (d : D) : DTE := fun _ _ S Q => Q d S
section
variable {X : Cx}
theorem de_var {e : Expr} {i : Nat} (h : PE X e (tVar i)) : DE X e (dVar i) := by
  refine ⟨fun E E' τ S Q Q' _ k q => ?_, pE_imp h fun σ H Q ⟨E, τ, S, w, r, q⟩ => ?_⟩
  · unfold dVar at q ⊢
    split at q
    · exact k _ _ q
    · exact q
  · unfold dVar at q
    split at q
    · rename_i d e'
      obtain ⟨v, e2, rv⟩ := r.st.get i d e'
      exact ⟨v, e2, q v H (LeH.refl H) r.rep rv⟩
    · exact q.elim
theorem de_c {e : Expr} {d : D} {v : V} (h : PE X e (tC v)) (hv : ∀ H, RD X.K H d v) : DE X e (dC d) :=
  ⟨fun E E' τ S Q Q' _ k q => k _ _ q, pE_imp h fun σ H Q ⟨E, τ, S, w, r, q⟩ => q v H (LeH.refl H) r.rep (hv H)⟩
theorem dv (i : Nat) {x : Str} {pos : Pos} (hN : X.N[i]? = some x := by rfl) (hv : Vis X.env.scope x := by first | exact Or.inl rfl | exact Or.inr (Or.inl rfl) | exact Or.inr (Or.inr rfl)) (hd : (x == ("__debug__" : Str)) = false := by decide)
    (hcd : (x == ("__classdict__" : Str)) = false := by decide) : DE X (.Name x pos) (dVar i) := de_var (pe_var hN hv hd hcd)
theorem de_int {i : Int} {j pos} : DE X (.Constant (.int i) j pos) (dC (.int i)) := de_c pe_int fun _ => rfl
theorem de_bl {b : Bool} {j pos} : DE X (.Constant (.bool b) j pos) (dC (.bl b)) := de_c pe_bl fun _ => rfl
theorem de_non {j pos} : DE X (.Constant .none j pos) (dC .non) := de_c pe_non fun _ => rfl
theorem de_str {x : Str} {j pos} : DE X (.Constant (.str x) j pos) (dC (.str x)) := de_c pe_str fun _ => rfl
end

/-! ### operators -/
abbrev R2D := D → D → DH → DK → Prop
def Mono2 (r : R2D) : Prop := ∀ x y S (Q Q' : DK), (∀ d S', Q d S' → Q' d S') → r x y S Q → r x y S Q'
def upO (K : PySem.W.Frag) (r : R2D) : R2 := fun x y H Q => ∃ d e S, Rep K S H ∧ RD K H d x ∧ RD K H e y ∧ r d e S fun z S' => ∀ v H', LeH H H' → Rep K S' H' → RD K H' z v → Q v H'
structure OpD (X : Cx) (f : Value → Value → Sem Value) (r : R2D) : Prop where
  mono : Mono2 r
  run : OpR X f (upO X.K r)
theorem opR_imp {X : Cx} {f : Value → Value → Sem Value} {r r' : R2} (h : OpR X f r) (k : ∀ x y H Q, r' x y H Q → r x y H Q) : OpR X f r' := fun pins s σ H x y v u Q I rx ry q => h pins s σ H x y v u Q I rx ry (k _ _ _ _ q)
@[simp] def dOp (r : R2D) (ta tb : DTE) : DTE := fun E τ S Q => ta E τ S fun d S1 => tb E τ S1 fun e S2 => r d e S2 Q
section
variable {X : Cx} {a b : Expr} {ta tb : DTE} {pos : Pos} {r : R2D}
theorem dOp_mono {E E' : DW} {τ : DSt} {S : DH} {Q Q' : DK} (ma : DE X a ta) (mb : DE X b tb) (mr : Mono2 r) (he : ∀ C fs τ S, E C fs τ S → E' C fs τ S) (k : ∀ d S', Q d S' → Q' d S') (q : dOp r ta tb E τ S Q) : dOp r ta tb E' τ S Q' :=
  ma.mono _ _ _ _ _ _ he (fun _ _ h => mb.mono _ _ _ _ _ _ he (fun _ _ h => mr _ _ _ _ _ k h) h) q
theorem dOp_up {σ : St} {H : Hp} {Q : VK} (ha : DE X a ta) (hb : DE X b tb) (mr : Mono2 r) (h : upE X (dOp r ta tb) σ H Q) : tOp (upO X.K r) (upE X ta) (upE X tb) σ H Q := by
  obtain ⟨E, τ, S, w, rl, q⟩ := h
  refine ha.to w rl q fun d S1 x H1 le1 w1 r1 rd q1 => ?_
  refine hb.to w1 r1 q1 fun e S2 y H2 le2 w2 r2 re q2 => ?_
  exact ⟨d, e, S2, r2.rep, rd.le le2, re, mr _ _ _ _ _ (fun z S' k v H' le rp rz => k v H' (le1.trans (le2.trans le)) rp rz) q2⟩
theorem de_op {op : Operator} (ho : OpD X (binaryOp op) r) (ha : DE X a ta) (hb : DE X b tb) : DE X (.BinOp a op b pos) (dOp r ta tb) :=
  ⟨fun _ _ _ _ _ _ he k q => dOp_mono ha hb ho.mono he k q, pE_imp (pe_op ho.run ha.run hb.run) fun _ _ _ h => dOp_up ha hb ho.mono h⟩
theorem de_cmp {op : CmpOp} (ho : OpD X (compareOp op) r) (ha : DE X a ta) (hb : DE X b tb) (hm : behindInMarks op b = false) : DE X (.Compare a [op] [b] pos) (dOp r ta tb) :=
  ⟨fun _ _ _ _ _ _ he k q => dOp_mono ha hb ho.mono he k q, pE_imp (pe_cmpR ho.run ha.run hb.run hm) fun _ _ _ h => dOp_up ha hb ho.mono h⟩
/-- a test: a value that is a truth -/
@[simp] def dTest (t : DTE) : DTT := fun E τ S Q => t E τ S fun d S' => match d with | .bl b => Q b S' | _ => False
theorem dTest_mono {e : Expr} {t : DTE} (m : DE X e t) (E E' : DW) (τ : DSt) (S : DH) (Q Q' : Bool → DH → Prop) (he : ∀ C fs τ S, E C fs τ S → E' C fs τ S) (k : ∀ d S', Q d S' → Q' d S') (q : dTest t E τ S Q) : dTest t E' τ S Q' :=
  m.mono _ _ _ _ _ _ he (fun d S' h => by
    cases d with
    | bl b => exact k _ _ h
    | _ => exact h) q
theorem dt_cmp {op : CmpOp} (ho : OpD X (compareOp op) r) (ha : DE X a ta) (hb : DE X b tb) (hm : behindInMarks op b = false) : DT X (.Compare a [op] [b] pos) (dTest (dOp r ta tb)) := by
  refine ⟨dTest_mono (de_cmp ho ha hb hm (pos := pos)), pT_imp (pt_cmpR ho.run ha.run hb.run hm) fun σ H Q ⟨E, τ, S, w, rl, q⟩ => ?_⟩
  refine dOp_up ha hb ho.mono ⟨E, τ, S, w, rl, dOp_mono ha hb ho.mono (fun _ _ _ _ z => z) (fun d S' h v H' le rp rd => ?_) q⟩
  cases d with
  | bl b => exact ⟨b, rd, h H' le rp⟩
  | _ => exact h.elim
theorem dt_val {e : Expr} {t : DTE} (h : DE X e t) (he : ∀ whole, isTrue e X.env whole = (do let v ← whole; standAt e.pos; holding [v] (truthy v)) := by intro _; rfl) : DT X e (dTest t) := by
  refine ⟨dTest_mono h, pT_imp (pt_val h.run he) fun σ H Q ⟨E, τ, S, w, rl, q⟩ => ?_⟩
  refine h.to w rl q fun d S' v H' le w' r' rd q' => ?_
  cases d with
  | bl b => exact ⟨b, rd, q' H' le r'.rep⟩
  | _ => exact q'.elim
end
end Dt
set_option maxRecDepth 100000
set_option maxHeartbeats 4000000
/-! Dat2: tests, statements, loops, comprehensions. -/
namespace Dt
open PySem PySem.Spec L2

/-! ### arguments -/
@[simp] def dNil : DTA := fun _ _ S Q => Q [] S
@[simp] def dCons (ta : DTE) (tr : DTA) : DTA := fun E τ S Q => ta E τ S fun d S1 => tr E τ S1 fun ds S2 => Q (d :: ds) S2
section
variable {X : Cx} {e : Expr} {es : List Expr} {te : DTE} {t : DTA} {pos : Pos}
theorem da_nil : DA X [] dNil := ⟨fun _ _ _ _ _ _ _ k q => k _ _ q, pA_imp pa_nil fun σ H Q ⟨E, τ, S, w, r, q⟩ => q [] H (LeH.refl H) r.rep .nil⟩
theorem da_cons (ha : DE X e te) (hr : DA X es t) (hs : starEach (e :: es) X.env = (false, eval e X.env) :: starEach es X.env := by rfl) : DA X (e :: es) (dCons te t) := by
  refine ⟨fun _ _ _ _ _ _ he k q => ha.mono _ _ _ _ _ _ he (fun _ _ h => hr.mono _ _ _ _ _ _ he (fun _ _ h => k _ _ h) h) q, pA_imp (pa_cons ha.run hr.run hs) fun σ H Q ⟨E, τ, S, w, r, q⟩ => ?_⟩
  refine ha.to w r q fun d S1 v H1 le1 w1 r1 rd q1 => ?_
  exact hr.to w1 r1 q1 fun ds S2 vs H2 le2 w2 r2 rds q2 => q2 (v :: vs) H2 (le1.trans le2) r2.rep (.cons (rd.le le2) rds)
end

/-! ### tests -/
section
variable {X : Cx} {a b : Expr} {rest : List Expr} {ta tb : DTT} {te : DTE} {pos : Pos}
@[simp] def dAnd (t u : DTT) : DTT := fun E τ S Q => t E τ S fun c S1 => if c = true then u E τ S1 Q else Q false S1
@[simp] def dOr (t u : DTT) : DTT := fun E τ S Q => t E τ S fun c S1 => if c = true then Q true S1 else u E τ S1 Q
@[simp] def dNot (t : DTT) : DTT := fun E τ S Q => t E τ S fun c S1 => Q (!c) S1
theorem DWt.pt (h : DWt X a ta) : DT X a ta := ⟨h.mono, h.run.pt⟩
theorem dw_and1 (ha : DT X a ta) : DWt X (.BoolOp .And [a] pos) ta := ⟨ha.mono, pw_and1 ha.run⟩
theorem dw_or1 (ha : DT X a ta) : DWt X (.BoolOp .Or [a] pos) ta := ⟨ha.mono, pw_or1 ha.run⟩
theorem dw_and (ha : DT X a ta) (hb : DWt X (.BoolOp .And (b :: rest) pos) tb) : DWt X (.BoolOp .And (a :: b :: rest) pos) (dAnd ta tb) := by
  refine ⟨fun E E' τ S Q Q' he k q => ha.mono _ _ _ _ _ _ he (fun c S1 h => ?_) q, pW_imp (pw_and ha.run hb.run) fun σ H Q ⟨E, τ, S, w, r, q⟩ => ?_⟩
  · split at h
    · rename_i hc
      rw [if_pos hc]
      exact hb.mono _ _ _ _ _ _ he k h
    · rename_i hc
      rw [if_neg hc]
      exact k _ _ h
  · refine ha.to w r q fun c S1 H1 le w1 r1 h => ?_
    cases c with
    | true => exact hb.to w1 r1 h fun b S2 H2 le2 _ r2 q2 => q2 H2 (le.trans le2) r2.rep
    | false => exact h H1 le r1.rep
theorem dw_or (ha : DT X a ta) (hb : DWt X (.BoolOp .Or (b :: rest) pos) tb) : DWt X (.BoolOp .Or (a :: b :: rest) pos) (dOr ta tb) := by
  refine ⟨fun E E' τ S Q Q' he k q => ha.mono _ _ _ _ _ _ he (fun c S1 h => ?_) q, pW_imp (pw_or ha.run hb.run) fun σ H Q ⟨E, τ, S, w, r, q⟩ => ?_⟩
  · split at h
    · rename_i hc
      rw [if_pos hc]
      exact k _ _ h
    · rename_i hc
      rw [if_neg hc]
      exact hb.mono _ _ _ _ _ _ he k h
  · refine ha.to w r q fun c S1 H1 le w1 r1 h => ?_
    cases c with
    | true => exact h H1 le r1.rep
    | false => exact hb.to w1 r1 h fun b S2 H2 le2 _ r2 q2 => q2 H2 (le.trans le2) r2.rep
theorem dt_not (ha : DT X a ta) : DT X (.UnaryOp .Not a pos) (dNot ta) :=
  ⟨fun _ _ _ _ _ _ he k q => ha.mono _ _ _ _ _ _ he (fun _ _ h => k _ _ h) q, pT_imp (pt_not ha.run) fun σ H Q ⟨E, τ, S, w, r, q⟩ => ha.to w r q fun c S1 H1 le w1 r1 h => h H1 le r1.rep⟩
/-- and, or, not as values, of truths -/
def dBV (t : DTE) (k : Bool → DH → DK → Prop) : DTE := fun E τ S Q => t E τ S fun d S1 => match d with | .bl c => k c S1 Q | _ => False
@[simp] def dAndV (ta tb : DTE) : DTE := fun E τ S Q => ta E τ S fun d S1 => match d with | .bl c => (if c = true then tb E τ S1 Q else Q (.bl false) S1) | _ => False
@[simp] def dOrV (ta tb : DTE) : DTE := fun E τ S Q => ta E τ S fun d S1 => match d with | .bl c => (if c = true then Q (.bl true) S1 else tb E τ S1 Q) | _ => False
@[simp] def dNotV (ta : DTE) : DTE := fun E τ S Q => ta E τ S fun d S1 => match d with | .bl c => Q (.bl (!c)) S1 | _ => False
variable {va vb : DTE}
theorem de_one {op} (h : DE X a te) : DE X (.BoolOp op [a] pos) te := ⟨h.mono, pe_one h.run⟩
theorem de_and (ha : DE X a va) (hb : DE X (.BoolOp .And (b :: rest) pos) vb) : DE X (.BoolOp .And (a :: b :: rest) pos) (dAndV va vb) := by
  refine ⟨fun E E' τ S Q Q' he k q => ha.mono _ _ _ _ _ _ he (fun d S1 h => ?_) q, pE_imp (pe_and ha.run hb.run) fun σ H Q ⟨E, τ, S, w, r, q⟩ => ?_⟩
  · cases d with
    | bl c =>
      cases c with
      | true => exact hb.mono _ _ _ _ _ _ he k h
      | false => exact k _ _ h
    | _ => exact h
  · refine ha.to w r q fun d S1 v H1 le w1 r1 rd h => ?_
    cases d with
    | bl c =>
      refine ⟨c, rd, ?_⟩
      cases c with
      | true => exact hb.to w1 r1 h fun z S2 u H2 le2 _ r2 rz q2 => q2 u H2 (le.trans le2) r2.rep rz
      | false => exact h _ H1 le r1.rep rfl
    | _ => exact h.elim
theorem de_or (ha : DE X a va) (hb : DE X (.BoolOp .Or (b :: rest) pos) vb) : DE X (.BoolOp .Or (a :: b :: rest) pos) (dOrV va vb) := by
  refine ⟨fun E E' τ S Q Q' he k q => ha.mono _ _ _ _ _ _ he (fun d S1 h => ?_) q, pE_imp (pe_or ha.run hb.run) fun σ H Q ⟨E, τ, S, w, r, q⟩ => ?_⟩
  · cases d with
    | bl c =>
      cases c with
      | true => exact k _ _ h
      | false => exact hb.mono _ _ _ _ _ _ he k h
    | _ => exact h
  · refine ha.to w r q fun d S1 v H1 le w1 r1 rd h => ?_
    cases d with
    | bl c =>
      refine ⟨c, rd, ?_⟩
      cases c with
      | true => exact h _ H1 le r1.rep rfl
      | false => exact hb.to w1 r1 h fun z S2 u H2 le2 _ r2 rz q2 => q2 u H2 (le.trans le2) r2.rep rz
    | _ => exact h.elim
theorem de_not (ha : DE X a va) : DE X (.UnaryOp .Not a pos) (dNotV va) := by
  refine ⟨fun E E' τ S Q Q' he k q => ha.mono _ _ _ _ _ _ he (fun d S1 h => ?_) q, pE_imp (pe_not ha.run) fun σ H Q ⟨E, τ, S, w, r, q⟩ => ?_⟩
  · cases d with
    | bl c => exact k _ _ h
    | _ => exact h
  · refine ha.to w r q fun d S1 v H1 le w1 r1 rd h => ?_
    cases d with
    | bl c => exact ⟨c, rd, h _ H1 le r1.rep rfl⟩
    | _ => exact h.elim
@[simp] def dIfE (t : DTT) (ta tb : DTE) : DTE := fun E τ S Q => t E τ S fun c S1 => if c = true then ta E τ S1 Q else tb E τ S1 Q
theorem de_if {c : Expr} (hc : DT X c ta) (ha : DE X a va) (hb : DE X b vb) : DE X (.IfExp c a b pos) (dIfE ta va vb) := by
  refine ⟨fun E E' τ S Q Q' he k q => hc.mono _ _ _ _ _ _ he (fun c S1 h => ?_) q, pE_imp (pe_ifExp hc.run ha.run hb.run) fun σ H Q ⟨E, τ, S, w, r, q⟩ => ?_⟩
  · cases c with
    | true => exact ha.mono _ _ _ _ _ _ he k h
    | false => exact hb.mono _ _ _ _ _ _ he k h
  · refine hc.to w r q fun c S1 H1 le w1 r1 h => ?_
    cases c with
    | true => exact ha.to w1 r1 h fun z S2 u H2 le2 _ r2 rz q2 => q2 u H2 (le.trans le2) r2.rep rz
    | false => exact hb.to w1 r1 h fun z S2 u H2 le2 _ r2 rz q2 => q2 u H2 (le.trans le2) r2.rep rz
end

/-! ### statements -/
structure DEnds where
  nx : DSt → DH → Prop
  rt : DK
  bk : DSt → DH → Prop := fun _ _ => False
  ct : DSt → DH → Prop := fun _ _ => False
  xe : DW := fun _ _ _ _ => False
abbrev DTS := DEnds → DSt → DH → Prop
structure DEnds.Le (A B : DEnds) : Prop where
  nx : ∀ τ S, A.nx τ S → B.nx τ S
  rt : ∀ d S, A.rt d S → B.rt d S
  bk : ∀ τ S, A.bk τ S → B.bk τ S
  ct : ∀ τ S, A.ct τ S → B.ct τ S
  xe : ∀ C fs τ S, A.xe C fs τ S → B.xe C fs τ S
def dnE (K : PySem.W.Frag) (H : Hp) (D : Ends) (E : DW) : DEnds where
  nx := fun τ S => ∀ σ H', LeH H H' → Rel K τ S σ H' → D.nx σ H'
  rt := fun d S => ∀ v H', LeH H H' → Rep K S H' → RD K H' d v → D.rt v H'
  bk := fun τ S => ∀ σ H', LeH H H' → Rel K τ S σ H' → D.bk σ H'
  ct := fun τ S => ∀ σ H', LeH H H' → Rel K τ S σ H' → D.ct σ H'
  xe := E
def upS (X : Cx) (t : DTS) : TS := fun D σ H => ∃ E τ S, Wish X E H ∧ Rel X.K τ S σ H ∧ t (dnE X.K H D E) τ S
structure DS (X : Cx) (st : Stmt) (t : DTS) : Prop where
  mono : ∀ A B τ S, DEnds.Le A B → t A τ S → t B τ S
  run : PS X st (upS X t)
structure DSs (X : Cx) (st : List Stmt) (t : DTS) : Prop where
  mono : ∀ A B τ S, DEnds.Le A B → t A τ S → t B τ S
  run : PSs X st (upS X t)
section
variable {X : Cx} {st : Stmt} {sts : List Stmt} {t u : DTS} {E : DW} {τ : DSt} {S : DH} {σ : St} {H : Hp} {pos : Pos}
theorem dn_le {K : PySem.W.Frag} {D : Ends} {H H' : Hp} (le : LeH H H') : DEnds.Le (dnE K H D E) (dnE K H' D E) :=
  ⟨fun τ S h σ H2 l => h σ H2 (le.trans l), fun d S h v H2 l => h v H2 (le.trans l), fun τ S h σ H2 l => h σ H2 (le.trans l), fun τ S h σ H2 l => h σ H2 (le.trans l), fun _ _ _ _ h => h⟩
theorem DS.to (h : DS X st t) {A : DEnds} {D : Ends} (w : Wish X E H) (r : Rel X.K τ S σ H) (q : t A τ S) (k : DEnds.Le A (dnE X.K H D E)) : upS X t D σ H := ⟨E, τ, S, w, r, h.mono _ _ _ _ k q⟩
theorem DSs.to (h : DSs X sts t) {A : DEnds} {D : Ends} (w : Wish X E H) (r : Rel X.K τ S σ H) (q : t A τ S) (k : DEnds.Le A (dnE X.K H D E)) : upS X t D σ H := ⟨E, τ, S, w, r, h.mono _ _ _ _ k q⟩
@[simp] def dNx : DTS := fun A τ S => A.nx τ S
@[simp] def dSeq (t u : DTS) : DTS := fun A τ S => t { A with nx := u A } τ S
theorem dss_nil : DSs X [] dNx := ⟨fun _ _ _ _ le q => le.nx _ _ q, pSs_imp pss_nil fun D σ H ⟨E, τ, S, w, r, q⟩ => q σ H (LeH.refl H) r⟩
theorem dss_one (h : DS X st t) : DSs X [st] t := ⟨h.mono, pss_one h.run⟩
theorem dss_cons (h1 : DS X st t) (h2 : DSs X sts u) : DSs X (st :: sts) (dSeq t u) := by
  refine ⟨fun A B τ S le q => h1.mono { A with nx := u A } { B with nx := u B } _ _ ⟨fun τ S z => h2.mono _ _ _ _ le z, le.rt, le.bk, le.ct, le.xe⟩ q, pSs_imp (pss_cons h1.run h2.run) fun D σ H ⟨E, τ, S, w, r, q⟩ => ?_⟩
  exact h1.to w r q ⟨fun τ' S' z σ' H' le r' => h2.to (w.le le) r' z (dn_le le), fun _ _ z => z, fun _ _ z => z, fun _ _ z => z, fun _ _ _ _ z => z⟩
theorem ds_pass : DS X (.Pass pos) dNx := ⟨fun _ _ _ _ le q => le.nx _ _ q, pS_imp ps_pass fun D σ H ⟨E, τ, S, w, r, q⟩ => q σ H (LeH.refl H) r⟩
@[simp] def dBk : DTS := fun A τ S => A.bk τ S
@[simp] def dCt : DTS := fun A τ S => A.ct τ S
theorem ds_break : DS X (.Break pos) dBk := ⟨fun _ _ _ _ le q => le.bk _ _ q, pS_imp ps_break fun D σ H ⟨E, τ, S, w, r, q⟩ => q σ H (LeH.refl H) r⟩
theorem ds_continue : DS X (.Continue pos) dCt := ⟨fun _ _ _ _ le q => le.ct _ _ q, pS_imp ps_continue fun D σ H ⟨E, τ, S, w, r, q⟩ => q σ H (LeH.refl H) r⟩
theorem ds_doc {x : Str} {j pos'} : DS X (.Expr (.Constant (.str x) j pos) pos') dNx := ⟨fun _ _ _ _ le q => le.nx _ _ q, pS_imp ps_doc fun D σ H ⟨E, τ, S, w, r, q⟩ => q σ H (LeH.refl H) r⟩
def dNever : DTS := fun _ _ _ => False
theorem ds_never : DS X st dNever := ⟨fun _ _ _ _ _ q => q.elim, pS_imp (ps_never) fun D σ H ⟨E, τ, S, w, r, q⟩ => q.elim⟩
variable {e c : Expr} {te : DTE} {tc : DTT} {as bs : List Stmt}
@[simp] def dDrop (te : DTE) : DTS := fun A τ S => te A.xe τ S fun _ S' => A.nx τ S'
theorem ds_expr (h : DE X e te) (hs : swapsWith e none pos.line X.env = pure false := by rfl) : DS X (.Expr e pos) (dDrop te) :=
  ⟨fun _ _ _ _ le q => h.mono _ _ _ _ _ _ le.xe (fun _ _ z => le.nx _ _ z) q, pS_imp (ps_expr h.run hs) fun D σ H ⟨E, τ, S, w, r, q⟩ => h.to w r q fun d S' v H' le w' r' rd z => z σ H' le r'⟩
@[simp] def dRet (te : DTE) : DTS := fun A τ S => te A.xe τ S A.rt
theorem ds_ret (h : DE X e te) : DS X (.Return (some e) pos) (dRet te) :=
  ⟨fun _ _ _ _ le q => h.mono _ _ _ _ _ _ le.xe le.rt q, pS_imp (ps_ret h.run) fun D σ H ⟨E, τ, S, w, r, q⟩ => h.to w r q fun d S' v H' le w' r' rd z => z v H' le r'.rep rd⟩
@[simp] def dRetN : DTS := fun A _ S => A.rt .non S
theorem ds_retN : DS X (.Return none pos) dRetN := ⟨fun _ _ _ _ le q => le.rt _ _ q, pS_imp ps_retN fun D σ H ⟨E, τ, S, w, r, q⟩ => q _ H (LeH.refl H) r.rep rfl⟩
@[simp] def dIf (tc : DTT) (t u : DTS) : DTS := fun A τ S => tc A.xe τ S fun b S' => if b = true then t A τ S' else u A τ S'
theorem ds_if (hc : DT X c tc) (ha : DSs X as t) (hb : DSs X bs u) : DS X (.If c as bs pos) (dIf tc t u) := by
  refine ⟨fun A B τ S le q => hc.mono _ _ _ _ _ _ le.xe (fun b S' z => ?_) q, pS_imp (ps_if hc.run ha.run hb.run) fun D σ H ⟨E, τ, S, w, r, q⟩ => ?_⟩
  · cases b with
    | true => exact ha.mono _ _ _ _ le z
    | false => exact hb.mono _ _ _ _ le z
  · refine hc.to w r q fun b S' H' le w' r' z => ?_
    cases b with
    | true => exact ha.to w' r' z (dn_le le)
    | false => exact hb.to w' r' z (dn_le le)
end

/-! ### targets -/
abbrev DTG := D → DSt → DH → (DSt → DH → Prop) → Prop
abbrev DTGs := List D → DSt → DH → (DSt → DH → Prop) → Prop
def upG (X : Cx) (t : DTG) : TG := fun v σ H Q => ∃ d τ S, Rel X.K τ S σ H ∧ RD X.K H d v ∧ t d τ S fun τ' S' => ∀ σ' H', LeH H H' → Rel X.K τ' S' σ' H' → Q σ' H'
def upGs (X : Cx) (t : DTGs) : TGs := fun vs σ H Q => ∃ ds τ S, Rel X.K τ S σ H ∧ RDs X.K H ds vs ∧ t ds τ S fun τ' S' => ∀ σ' H', LeH H H' → Rel X.K τ' S' σ' H' → Q σ' H'
structure DG (X : Cx) (tg : Expr) (t : DTG) : Prop where
  mono : ∀ d τ S (Q Q' : DSt → DH → Prop), (∀ τ S, Q τ S → Q' τ S) → t d τ S Q → t d τ S Q'
  run : PG X tg (upG X t)
structure DGs (X : Cx) (tg : List Expr) (t : DTGs) : Prop where
  mono : ∀ d τ S (Q Q' : DSt → DH → Prop), (∀ τ S, Q τ S → Q' τ S) → t d τ S Q → t d τ S Q'
  run : PGs X tg (upGs X t)
theorem pG_imp {X : Cx} {e : Expr} {t t' : TG} (h : PG X e t) (k : ∀ v σ H Q, t' v σ H Q → t v σ H Q) : PG X e t' := ⟨fun pins s σ H v u Q I r q => h.run pins s σ H v u Q I r (k v σ H Q q)⟩
theorem pGs_imp {X : Cx} {e : List Expr} {t t' : TGs} (h : PGs X e t) (k : ∀ v σ H Q, t' v σ H Q → t v σ H Q) : PGs X e t' := ⟨fun pins s σ H v u Q I r q => h.run pins s σ H v u Q I r (k v σ H Q q)⟩
section
variable {X : Cx} {tg e : Expr} {tgs : List Expr} {t : DTG} {ts : DTGs} {te : DTE} {pos : Pos}
theorem DG.to (h : DG X tg t) {d : D} {v : V} {τ : DSt} {S : DH} {σ : St} {H : Hp} {Q0 : DSt → DH → Prop} {Q : St → Hp → Prop} (r : Rel X.K τ S σ H) (rd : RD X.K H d v) (q : t d τ S Q0) (k : ∀ τ' S' σ' H', LeH H H' → Rel X.K τ' S' σ' H' → Q0 τ' S' → Q σ' H') : upG X t v σ H Q :=
  ⟨d, τ, S, r, rd, h.mono _ _ _ _ _ (fun τ' S' z σ' H' le r' => k _ _ _ _ le r' z) q⟩
@[simp] def dGN (i : Nat) : DTG := fun d τ S Q => Q (τ.set i (some d)) S
theorem dg_name {i : Nat} {x : Str} (hN : X.N.Nodup) (hi : X.N[i]? = some x) (hx : Loc X.env.scope x) (hf : X.fn x = true ∨ X.env.scope.names.lookup x = some .local := by first | exact .inl rfl | exact .inr rfl | assumption) : DG X (.Name x pos) (dGN i) :=
  ⟨fun _ _ _ _ _ k q => k _ _ q, pG_imp (pg_name hN hi hx hf) fun v σ H Q ⟨d, τ, S, r, rd, q⟩ => q _ _ (LeH.refl H) ⟨r.st.set i rd, r.rep⟩⟩
@[simp] def dGNil : DTGs := fun ds τ S Q => match ds with | [] => Q τ S | _ => False
@[simp] def dGCons (t : DTG) (u : DTGs) : DTGs := fun ds τ S Q => match ds with | d :: r => t d τ S fun τ' S' => u r τ' S' Q | _ => False
theorem dgs_nil : DGs X [] dGNil := by
  refine ⟨fun ds _ _ _ _ k q => ?_, pGs_imp pgs_nil fun vs σ H Q ⟨ds, τ, S, r, rd, q⟩ => ?_⟩
  · cases ds with
    | nil => exact k _ _ q
    | cons _ _ => exact q
  · cases ds with
    | nil => exact ⟨rd, q σ H (LeH.refl H) r⟩
    | cons _ _ => exact q.elim
theorem dgs_cons (h1 : DG X tg t) (h2 : DGs X tgs ts) (hs : (assignEach (tg :: tgs) X.env).map (·.2) = assign tg X.env :: (assignEach tgs X.env).map (·.2) := by rfl) : DGs X (tg :: tgs) (dGCons t ts) := by
  refine ⟨fun ds _ _ _ _ k q => ?_, pGs_imp (pgs_cons h1.run h2.run hs) fun vs σ H Q ⟨ds, τ, S, r, rd, q⟩ => ?_⟩
  · cases ds with
    | nil => exact q
    | cons d r => exact h1.mono _ _ _ _ _ (fun _ _ z => h2.mono _ _ _ _ _ k z) q
  · cases ds with
    | nil => exact q.elim
    | cons d ds =>
      obtain ⟨v, s, rfl, rd1, rd2⟩ := rd
      refine ⟨v, s, rfl, h1.to r rd1 q fun τ' S' σ' H' le r' z => ?_⟩
      exact ⟨ds, τ', S', r', rd2.le le, h2.mono _ _ _ _ _ (fun τ2 S2 z2 σ2 H2 le2 r2 => z2 σ2 H2 (le.trans le2) r2) z⟩
@[simp] def dGTup (n : Nat) (t : DTGs) : DTG := fun d τ S Q => match d with | .tup ds => ds.length = n ∧ t ds τ S Q | _ => False
theorem dg_tup {es : List Expr} {k : Nat} {n : Nat} (hc : X.calm = true) (h : DGs X es ts) (hn : (assignEach es X.env).length = n := by rfl) (hst : (assignEach es X.env).findIdx? (·.1) = none := by rfl) : DG X (.Tuple es k pos) (dGTup n ts) := by
  refine ⟨fun d _ _ _ _ k q => ?_, pG_imp (pg_tup hc h.run hn hst) fun v σ H Q ⟨d, τ, S, r, rd, q⟩ => ?_⟩
  · cases d with
    | tup ds => exact ⟨q.1, h.mono _ _ _ _ _ k q.2⟩
    | _ => exact q
  · cases d with
    | tup ds =>
      obtain ⟨p, xs, rfl, sq, rds⟩ : ∃ p xs, v = V.ref p ∧ SqT X.K H p xs ∧ RDs X.K H ds xs := rd
      exact ⟨p, xs, rfl, sq, by rw [← rds.length]; exact q.1, ds, τ, S, r, rds, q.2⟩
    | _ => exact q.elim
@[simp] def dAsg (te : DTE) (t : DTG) : DTS := fun A τ S => te A.xe τ S fun d S' => t d τ S' A.nx
theorem ds_asg (he : DE X e te) (hg : DG X tg t) (hs : swapsWithSole [tg] e pos.line X.env = pure false := by rfl) (hw : swappedStores [tg] e X.env = pure none := by rfl) (h1 : (assignEach [tg] X.env).map (·.2) = [assign tg X.env] := by rfl) : DS X (.Assign [tg] e pos) (dAsg te t) := by
  refine ⟨fun A B τ S le q => he.mono _ _ _ _ _ _ le.xe (fun _ _ z => hg.mono _ _ _ _ _ le.nx z) q, pS_imp (ps_asg he.run hg.run hs hw h1) fun D σ H ⟨E, τ, S, w, r, q⟩ => ?_⟩
  exact he.to w r q fun d S' v H' le w' r' rd z => hg.to r' rd z fun τ2 S2 σ2 H2 le2 r2 z2 => z2 σ2 H2 (le.trans le2) r2
theorem ds_set {i : Nat} {x : Str} {pos' : Pos} (hN : X.N.Nodup) (hi : X.N[i]? = some x) (hx : Loc X.env.scope x) (he : DE X e te) (hs : swapsWith e (some (.Name x pos')) pos.line X.env = pure false := by rfl)
    (hf : X.fn x = true ∨ X.env.scope.names.lookup x = some .local := by first | exact .inl rfl | exact .inr rfl | assumption) : DS X (.Assign [.Name x pos'] e pos) (dAsg te (dGN i)) := by
  refine ⟨fun A B τ S le q => he.mono _ _ _ _ _ _ le.xe (fun _ _ z => le.nx _ _ z) q, pS_imp (ps_set hN hi hx he.run hs hf) fun D σ H ⟨E, τ, S, w, r, q⟩ => ?_⟩
  exact he.to w r q fun d S' v H' le w' r' rd z => z _ H' le ⟨r'.st.set i rd, r'.rep⟩
end

/-! ### while -/
def dWh (c : DTT) (tb : DTS) (A : DEnds) : Nat → DSt → DH → Prop
  | 0, _, _ => False
  | n + 1, τ, S => c A.xe τ S fun b S' => if b = true then tb { A with nx := dWh c tb A n, ct := dWh c tb A n, bk := A.nx } τ S' else A.nx τ S'
def dWhile (c : DTT) (tb : DTS) : DTS := fun A τ S => ∃ n, dWh c tb A n τ S
section
variable {X : Cx} {c : Expr} {body : List Stmt} {tc : DTT} {tb : DTS} {pos : Pos}
theorem dWh_mono (hc : DT X c tc) (hb : DSs X body tb) {A B : DEnds} (le : DEnds.Le A B) : ∀ (n : Nat) (τ : DSt) (S : DH), dWh tc tb A n τ S → dWh tc tb B n τ S
  | 0, _, _, q => q
  | n + 1, τ, S, q => hc.mono _ _ _ _ _ _ le.xe (fun b S' z => by
      cases b with
      | true => exact hb.mono { A with nx := dWh tc tb A n, ct := dWh tc tb A n, bk := A.nx } { B with nx := dWh tc tb B n, ct := dWh tc tb B n, bk := B.nx } _ _ ⟨fun τ S w => dWh_mono hc hb le n τ S w, le.rt, le.nx, fun τ S w => dWh_mono hc hb le n τ S w, le.xe⟩ z
      | false => exact le.nx _ _ z) q
theorem ds_while (hp : PassesOwn (model X.prog X.w) X.A X.env X.xe) (hc : DT X c tc) (hb : DSs X body tb) : DS X (.While c body [] pos) (dWhile tc tb) := by
  refine ⟨fun A B τ S le ⟨n, q⟩ => ⟨n, dWh_mono hc hb le n τ S q⟩, pS_imp (ps_while hp hc.run hb.run) fun D σ H ⟨E, τ, S, w, r, n, q⟩ => ?_⟩
  refine ⟨fun m σ' H' => LeH H H' ∧ ∃ τ' S', Rel X.K τ' S' σ' H' ∧ dWh tc tb (dnE X.K H D E) m τ' S', ⟨n, LeH.refl H, τ, S, r, q⟩, ?_⟩
  rintro m σ1 H1 ⟨le1, τ1, S1, r1, q1⟩
  cases m with
  | zero => exact q1.elim
  | succ m =>
    refine hc.to (w.le le1) r1 q1 fun b S2 H2 le2 w2 r2 z => ?_
    cases b with
    | false => exact z σ1 H2 (le1.trans le2) r2
    | true =>
      rw [if_pos rfl]
      have again : ∀ τ3 S3, dWh tc tb (dnE X.K H D E) m τ3 S3 → ∀ σ3 H3, LeH H2 H3 → Rel X.K τ3 S3 σ3 H3 → LeH H H3 ∧ ∃ τ' S', Rel X.K τ' S' σ3 H3 ∧ dWh tc tb (dnE X.K H D E) m τ' S' :=
        fun τ3 S3 y σ3 H3 le3 r3 => ⟨le1.trans (le2.trans le3), τ3, S3, r3, y⟩
      refine ⟨fun σ3 H3 => LeH H H3 ∧ ∃ τ' S', Rel X.K τ' S' σ3 H3 ∧ dWh tc tb (dnE X.K H D E) m τ' S', fun σ3 H3 y => ⟨m, Nat.lt_succ_self m, y⟩, hb.to w2 r2 z ⟨again, ?_, ?_, again, fun _ _ _ _ y => y⟩⟩
      · exact fun d S3 y v H3 le3 r3 rd => y v H3 (le1.trans (le2.trans le3)) r3 rd
      · exact fun τ3 S3 y σ3 H3 le3 r3 => y σ3 H3 (le1.trans (le2.trans le3)) r3
end

/-! ### what is walked -/
structure Feeds (K : PySem.W.Frag) (H0 : Hp) (J : It) (G : DH → Prop) (ds : List D) : Prop where
  go : ∀ i S H, LeH H0 H → Rep K S H → G S → i < ds.length → J.go i H
  yld : ∀ i S H x H', LeH H0 H → Rep K S H → G S → i < ds.length → J.yld i H x H' → LeH H H' ∧ Rep K S H' ∧ ∃ d, ds[i]? = some d ∧ RD K H' d x
  stop : ∀ S H, LeH H0 H → Rep K S H → G S → J.stop ds.length H
abbrev DTI := DW → DSt → DH → ((DH → Prop) → List D → DH → Prop) → Prop
def upI (X : Cx) (ti : DTI) : TI := fun σ H R => ∃ E τ S, Wish X E H ∧ Rel X.K τ S σ H ∧ ti E τ S fun G ds S' => ∀ J H', LeH H H' → Rep X.K S' H' → Feeds X.K H' J G ds → R J H'
structure DI (X : Cx) (tg iter : Expr) (ti : DTI) : Prop where
  mono : ∀ (E E' : DW) τ S (Q Q' : (DH → Prop) → List D → DH → Prop), (∀ C fs τ S, E C fs τ S → E' C fs τ S) → (∀ G d S', Q G d S' → Q' G d S') → ti E τ S Q → ti E' τ S Q'
  run : PI X tg iter (upI X ti)
theorem pI_imp {X : Cx} {tg e : Expr} {t t' : TI} (h : PI X tg e t) (k : ∀ σ H R, t' σ H R → t σ H R) : PI X tg e t' := ⟨fun pins s σ H R I q => h.run pins s σ H R I (k σ H R q)⟩
@[simp] def dLoop (g : DTG) (tb : DTS) (A : DEnds) (G : DH → Prop) : List D → DSt → DH → Prop
  | [], τ, S => G S ∧ A.nx τ S
  | d :: ds, τ, S => G S ∧ g d τ S fun τ1 S1 => tb { A with nx := dLoop g tb A G ds, ct := dLoop g tb A G ds, bk := A.nx } τ1 S1
@[simp] def dFor (ti : DTI) (g : DTG) (tb : DTS) : DTS := fun A τ S => ti A.xe τ S fun G ds S' => dLoop g tb A G ds τ S'
section
variable {X : Cx} {tg iter : Expr} {body : List Stmt} {ti : DTI} {g : DTG} {tb : DTS} {pos : Pos}
theorem DI.to (h : DI X tg iter ti) {E : DW} {τ : DSt} {S : DH} {σ : St} {H : Hp} {Q0 : (DH → Prop) → List D → DH → Prop} {R : It → Hp → Prop} (w : Wish X E H) (r : Rel X.K τ S σ H) (q : ti E τ S Q0)
    (k : ∀ G ds S' J H', LeH H H' → Wish X E H' → Rel X.K τ S' σ H' → Feeds X.K H' J G ds → Q0 G ds S' → R J H') : upI X ti σ H R :=
  ⟨E, τ, S, w, r, h.mono _ _ _ _ _ _ (fun _ _ _ _ z => z) (fun G ds S' z J H' le rp f => k G ds S' J H' le (w.le le) (r.le le rp) f z) q⟩
theorem dLoop_mono (hg : DG X tg g) (hb : DSs X body tb) {A B : DEnds} (le : DEnds.Le A B) {G : DH → Prop} : ∀ (ds : List D) (τ : DSt) (S : DH), dLoop g tb A G ds τ S → dLoop g tb B G ds τ S
  | [], _, _, q => ⟨q.1, le.nx _ _ q.2⟩
  | d :: ds, τ, S, q => ⟨q.1, hg.mono _ _ _ _ _ (fun τ1 S1 z => hb.mono { A with nx := dLoop g tb A G ds, ct := dLoop g tb A G ds, bk := A.nx } { B with nx := dLoop g tb B G ds, ct := dLoop g tb B G ds, bk := B.nx } _ _ ⟨fun τ S w => dLoop_mono hg hb le ds τ S w, le.rt, le.nx, fun τ S w => dLoop_mono hg hb le ds τ S w, le.xe⟩ z) q.2⟩
theorem drop_at {α : Type} {ds : List α} {i : Nat} {d : α} (h : ds[i]? = some d) : ds.drop i = d :: ds.drop (i + 1) := by
  obtain ⟨hi, e⟩ := List.getElem?_eq_some_iff.mp h
  rw [List.drop_eq_getElem_cons hi, e]
theorem ds_for (hp : PassesOwn (model X.prog X.w) X.A X.env X.xe) (hc : X.calm = true) (hi : DI X tg iter ti) (hg : DG X tg g) (hb : DSs X body tb) (hs : ∀ x, foldedSetIterable iter X.env x = pure x := by intro _; rfl) :
    DS X (.For tg iter body [] pos) (dFor ti g tb) := by
  refine ⟨fun A B τ S le q => hi.mono _ _ _ _ _ _ le.xe (fun G ds S' z => dLoop_mono hg hb le ds τ S' z) q, pS_imp (ps_for hp hc hi.run hg.run hb.run hs) fun D σ H ⟨E, τ, S, w, r, q⟩ => ?_⟩
  refine hi.to w r q fun G ds S0 J H0 le0 w0 r0 f z => ?_
  refine ⟨fun i m σ' H' => m = ds.length - i ∧ i ≤ ds.length ∧ LeH H0 H' ∧ ∃ τ' S', Rel X.K τ' S' σ' H' ∧ dLoop g tb (dnE X.K H D E) G (ds.drop i) τ' S', ⟨ds.length, by omega, Nat.zero_le _, LeH.refl H0, τ, S0, r0, z⟩, ?_⟩
  rintro i m σ1 H1 ⟨rfl, hle, le1, τ1, S1, r1, q1⟩
  by_cases hlt : i < ds.length
  · have e0 : ds[i]? = some ds[i] := List.getElem?_eq_getElem hlt
    rw [drop_at e0] at q1
    obtain ⟨hG, q1⟩ := q1
    refine .inr ⟨f.go i S1 H1 le1 r1.rep hG hlt, fun σ2 H2 => LeH H0 H2 ∧ ∃ τ' S', Rel X.K τ' S' σ2 H2 ∧ dLoop g tb (dnE X.K H D E) G (ds.drop (i + 1)) τ' S', fun σ2 H2 ⟨l, y⟩ => ⟨ds.length - (i + 1), by omega, rfl, hlt, l, y⟩, fun x H2 hy => ?_⟩
    obtain ⟨le2, rp2, d, ed, rd⟩ := f.yld i S1 H1 x H2 le1 r1.rep hG hlt hy
    rw [e0] at ed
    cases ed
    refine hg.to (r1.le le2 rp2) rd q1 fun τ3 S3 σ3 H3 le3 r3 q3 => ?_
    have l03 := le1.trans (le2.trans le3)
    refine hb.to (w0.le l03) r3 q3 ⟨?_, ?_, ?_, ?_, fun _ _ _ _ y => y⟩
    · exact fun τ4 S4 y σ4 H4 le4 r4 => ⟨l03.trans le4, τ4, S4, r4, y⟩
    · exact fun d S4 y v H4 le4 r4 rd => y v H4 (le0.trans (l03.trans le4)) r4 rd
    · exact fun τ4 S4 y σ4 H4 le4 r4 => y σ4 H4 (le0.trans (l03.trans le4)) r4
    · exact fun τ4 S4 y σ4 H4 le4 r4 => ⟨l03.trans le4, τ4, S4, r4, y⟩
  · have e : i = ds.length := by omega
    subst e
    rw [List.drop_length] at q1
    exact .inl ⟨f.stop S1 H1 le1 r1.rep q1.1, q1.2 σ1 H1 (le0.trans le1) r1⟩
end
/-! ### comprehensions -/
@[simp] def wipeD (τ : DSt) : List Nat → DSt
  | [] => τ
  | v :: vs => (wipeD τ vs).set v none
theorem RSt.wipe {K : PySem.W.Frag} {H : Hp} {τ : DSt} {σ : St} (r : RSt K H τ σ) : ∀ vs : List Nat, RSt K H (wipeD τ vs) (L2.wipe σ vs)
  | [] => r
  | v :: vs => by
    have q := RSt.wipe r vs
    refine ⟨by simp only [wipeD, L2.wipe, List.length_set]; exact q.len, fun i d e => ?_⟩
    simp only [wipeD, L2.wipe, List.getElem?_set] at e ⊢
    by_cases z : v = i
    · rw [if_pos z] at e
      split at e <;> cases e
    · rw [if_neg z] at e
      rw [if_neg z]
      exact q.get i d e
@[simp] def dLcL (g : DTG) (tt : DTT) (te : DTE) (E : DW) (τ : DSt) (G : DH → Prop) (p : Addr) (Q : DH → Prop) : List D → DH → Prop
  | [], S => G S ∧ Q S
  | d :: ds, S => G S ∧ g d τ S fun τ1 S1 => tt E τ1 S1 fun b S2 => if b = true then te E τ1 S2 fun y S3 => (match S3 p with | some (.lst acc) => acc.length < sizeLine ∧ dLcL g tt te E τ G p Q ds (upo S3 p (.lst (acc ++ [y]))) | _ => False) else dLcL g tt te E τ G p Q ds S2
@[simp] def dLc (ti : DTI) (g : DTG) (tt : DTT) (te : DTE) (vs : List Nat) : DTE := fun E τ S Q => ti E τ S fun G ds S' => newO S' (.lst []) fun p S1 => dLcL g tt te DW0 (wipeD τ vs) G p (Q (.ref p)) ds S1
structure DTs (X : Cx) (ifs : List Expr) (t : DTT) : Prop where
  mono : ∀ (E E' : DW) τ S (Q Q' : Bool → DH → Prop), (∀ C fs τ S, E C fs τ S → E' C fs τ S) → (∀ d S', Q d S' → Q' d S') → t E τ S Q → t E' τ S Q'
  run : PTs X ifs (upT X t)
@[simp] def dYes : DTT := fun _ _ S Q => Q true S
section
variable {X : Cx} {c : Expr} {t : DTT}
theorem pTs_imp {ifs : List Expr} {t t' : TT} (h : PTs X ifs t) (k : ∀ σ H Q, t' σ H Q → t σ H Q) : PTs X ifs t' := ⟨fun pins s σ H Q I q => h.run pins s σ H Q I (k σ H Q q)⟩
theorem dts_nil : DTs X [] dYes := ⟨fun _ _ _ _ _ _ _ k q => k _ _ q, pTs_imp pts_nil fun σ H Q ⟨E, τ, S, w, r, q⟩ => q H (LeH.refl H) r.rep⟩
theorem dts_one (h : DT X c t) : DTs X [c] t := ⟨h.mono, pts_one h.run⟩
end
def upT0 (K : PySem.W.Frag) (t : DTT) : TT := fun σ H Q => ∃ τ S, Rel K τ S σ H ∧ t DW0 τ S fun b S' => ∀ H', LeH H H' → Rep K S' H' → Q b H'
def upE0 (K : PySem.W.Frag) (t : DTE) : TE := fun σ H Q => ∃ τ S, Rel K τ S σ H ∧ t DW0 τ S fun d S' => ∀ v H', LeH H H' → Rep K S' H' → RD K H' d v → Q v H'
theorem DTs.zero {X : Cx} {ifs : List Expr} {t : DTT} (h : DTs X ifs t) : PTs X ifs (upT0 X.K t) := pTs_imp h.run fun σ H Q ⟨τ, S, r, q⟩ => ⟨DW0, τ, S, wish0, r, q⟩
theorem DE.zero {X : Cx} {e : Expr} {t : DTE} (h : DE X e t) : PE X e (upE0 X.K t) := pE_imp h.run fun σ H Q ⟨τ, S, r, q⟩ => ⟨DW0, τ, S, wish0, r, q⟩
theorem wipe_get (σ : L2.St) (j : Nat) : ∀ vs : List Nat, (L2.wipe σ vs)[j]? = if j ∈ vs then σ[j]?.map (fun _ => none) else σ[j]?
  | [] => by simp [L2.wipe]
  | v :: vs => by
    rw [L2.wipe, List.getElem?_set, L2.wipe_length, wipe_get σ j vs]
    by_cases e : v = j
    · subst e
      by_cases l : v < σ.length
      · simp [l]
      · simp [l]
    · have e' : ¬ j = v := fun z => e z.symm
      rw [if_neg e]
      by_cases m : j ∈ vs
      · simp [m]
      · simp [m, e']
theorem wipe_set {σ : L2.St} {i : Nat} {x : Option V} {vs : List Nat} (h : i ∈ vs) : L2.wipe (σ.set i x) vs = L2.wipe σ vs := by
  refine List.ext_getElem? fun j => ?_
  rw [wipe_get, wipe_get, List.getElem?_set]
  by_cases e : i = j
  · subst e
    rw [if_pos h, if_pos h, if_pos rfl]
    by_cases l : i < σ.length
    · simp [l]
    · simp [l]
  · rw [if_neg e]
theorem wipe_wipe (σ : L2.St) (vs : List Nat) : L2.wipe (L2.wipe σ vs) vs = L2.wipe σ vs := by
  refine List.ext_getElem? fun j => ?_
  rw [wipe_get, wipe_get]
  by_cases m : j ∈ vs
  · rw [if_pos m, if_pos m]
    cases σ[j]? <;> rfl
  · rw [if_neg m]
/-- a target that stores in vs alone -/
def upGw (K : PySem.W.Frag) (vs : List Nat) (t : DTG) : TG := fun v σ H Q => ∃ d τ S, Rel K τ S σ H ∧ RD K H d v ∧ t d τ S fun τ' S' => ∀ σ' H', LeH H H' → Rel K τ' S' σ' H' → L2.wipe σ' vs = L2.wipe σ vs → Q σ' H'
def upGsw (K : PySem.W.Frag) (vs : List Nat) (t : DTGs) : TGs := fun us σ H Q => ∃ ds τ S, Rel K τ S σ H ∧ RDs K H ds us ∧ t ds τ S fun τ' S' => ∀ σ' H', LeH H H' → Rel K τ' S' σ' H' → L2.wipe σ' vs = L2.wipe σ vs → Q σ' H'
structure DGw (X : Cx) (vs : List Nat) (tg : Expr) (t : DTG) : Prop where
  mono : ∀ d τ S (Q Q' : DSt → DH → Prop), (∀ τ S, Q τ S → Q' τ S) → t d τ S Q → t d τ S Q'
  run : PG X tg (upGw X.K vs t)
structure DGsw (X : Cx) (vs : List Nat) (tg : List Expr) (t : DTGs) : Prop where
  mono : ∀ d τ S (Q Q' : DSt → DH → Prop), (∀ τ S, Q τ S → Q' τ S) → t d τ S Q → t d τ S Q'
  run : PGs X tg (upGsw X.K vs t)
section
variable {X : Cx} {tg e : Expr} {tgs : List Expr} {t : DTG} {ts : DTGs} {te : DTE} {pos : Pos} {vs : List Nat}
theorem dw_name {i : Nat} {x : Str} (hN : X.N.Nodup) (hi : X.N[i]? = some x) (hx : Loc X.env.scope x) (hv : i ∈ vs) (hf : X.fn x = true ∨ X.env.scope.names.lookup x = some .local := by first | exact .inl rfl | exact .inr rfl | assumption) : DGw X vs (.Name x pos) (dGN i) :=
  ⟨fun _ _ _ _ _ k q => k _ _ q, pG_imp (pg_name hN hi hx hf) fun v σ H Q ⟨d, τ, S, r, rd, q⟩ => q _ _ (LeH.refl H) ⟨r.st.set i rd, r.rep⟩ (wipe_set hv)⟩
theorem dws_nil : DGsw X vs [] dGNil := by
  refine ⟨dgs_nil.mono (X := X), pGs_imp pgs_nil fun us σ H Q ⟨ds, τ, S, r, rd, q⟩ => ?_⟩
  cases ds with
  | nil => exact ⟨rd, q σ H (LeH.refl H) r rfl⟩
  | cons _ _ => exact q.elim
theorem dws_cons (h1 : DGw X vs tg t) (h2 : DGsw X vs tgs ts) (hs : (assignEach (tg :: tgs) X.env).map (·.2) = assign tg X.env :: (assignEach tgs X.env).map (·.2) := by rfl) : DGsw X vs (tg :: tgs) (dGCons t ts) := by
  refine ⟨fun ds _ _ _ _ k q => ?_, pGs_imp (pgs_cons h1.run h2.run hs) fun us σ H Q ⟨ds, τ, S, r, rd, q⟩ => ?_⟩
  · cases ds with
    | nil => exact q
    | cons d r => exact h1.mono _ _ _ _ _ (fun _ _ z => h2.mono _ _ _ _ _ k z) q
  · cases ds with
    | nil => exact q.elim
    | cons d ds =>
      obtain ⟨v, s, rfl, rd1, rd2⟩ := rd
      refine ⟨v, s, rfl, d, τ, S, r, rd1, h1.mono _ _ _ _ _ (fun τ' S' z σ' H' le r' hw => ?_) q⟩
      exact ⟨ds, τ', S', r', rd2.le le, h2.mono _ _ _ _ _ (fun τ2 S2 z2 σ2 H2 le2 r2 hw2 => z2 σ2 H2 (le.trans le2) r2 (hw2.trans hw)) z⟩
theorem dw_tup {es : List Expr} {k : Nat} {n : Nat} (hc : X.calm = true) (h : DGsw X vs es ts) (hn : (assignEach es X.env).length = n := by rfl) (hst : (assignEach es X.env).findIdx? (·.1) = none := by rfl) : DGw X vs (.Tuple es k pos) (dGTup n ts) := by
  refine ⟨fun d _ _ _ _ k q => ?_, pG_imp (pg_tup hc h.run hn hst) fun v σ H Q ⟨d, τ, S, r, rd, q⟩ => ?_⟩
  · cases d with
    | tup ds => exact ⟨q.1, h.mono _ _ _ _ _ k q.2⟩
    | _ => exact q
  · cases d with
    | tup ds =>
      obtain ⟨p, xs, rfl, sq, rds⟩ : ∃ p xs, v = V.ref p ∧ SqT X.K H p xs ∧ RDs X.K H ds xs := rd
      exact ⟨p, xs, rfl, sq, by rw [← rds.length]; exact q.1, ds, τ, S, r, rds, q.2⟩
    | _ => exact q.elim
end
/-- the block's parts, at any block -/
structure Blk (X : Cx) (scope : Scope) (vs : List Nat) (elt tg : Expr) (ifs : List Expr) (g : DTG) (tt : DTT) (te : DTE) : Prop where
  hg : ∀ (s : Shared) (H : Hp) (C : Addr) (cl : List (Str × Addr)) (fp : List Addr), DGw (X.blk s H scope (compEnvC scope cl C X.env) fp) vs tg g
  ht : ∀ (s : Shared) (H : Hp) (C : Addr) (cl : List (Str × Addr)) (fp : List Addr), DTs (X.blk s H scope (compEnvC scope cl C X.env) fp) ifs tt
  he : ∀ (s : Shared) (H : Hp) (C : Addr) (cl : List (Str × Addr)) (fp : List Addr), DE (X.blk s H scope (compEnvC scope cl C X.env) fp) elt te
section
variable {X : Cx} {elt tg iter : Expr} {ifs : List Expr} {scope : Scope} {own : List (Str × Nat)} {pos spos py : Pos} {ti : DTI} {g : DTG} {tt : DTT} {te : DTE}
theorem dLcL_mono {X' : Cx} {vs : List Nat} (hg : DGw X' vs tg g) (ht : DTs X' ifs tt) (he : DE X' elt te) {E : DW} {τ : DSt} {G : DH → Prop} {p : Addr} {Q Q' : DH → Prop} (k : ∀ S, Q S → Q' S) : ∀ (ds : List D) (S : DH), dLcL g tt te E τ G p Q ds S → dLcL g tt te E τ G p Q' ds S
  | [], _, q => ⟨q.1, k _ q.2⟩
  | d :: ds, S, q => ⟨q.1, hg.mono _ _ _ _ _ (fun τ1 S1 z => ht.mono _ _ _ _ _ _ (fun _ _ _ _ y => y) (fun b S2 z => by
      cases b with
      | true =>
        refine he.mono _ _ _ _ _ _ (fun _ _ _ _ y => y) (fun y S3 z => ?_) z
        split at z
        · exact ⟨z.1, dLcL_mono hg ht he k ds _ z.2⟩
        · exact z
      | false => exact dLcL_mono hg ht he k ds _ z) z) q.2⟩
theorem dLc_mono {vs : List Nat} (hi : DI X tg iter ti) (B : Blk X scope vs elt tg ifs g tt te) (E E' : DW) (τ : DSt) (S : DH) (Q Q' : DK) (he : ∀ C fs τ S, E C fs τ S → E' C fs τ S) (k : ∀ d S', Q d S' → Q' d S') (q : dLc ti g tt te vs E τ S Q) : dLc ti g tt te vs E' τ S Q' :=
  hi.mono _ _ _ _ _ _ he (fun G ds S' z p hp => dLcL_mono (B.hg X.s_0 (fun _ => none) 0 [] []) (B.ht X.s_0 (fun _ => none) 0 [] []) (B.he X.s_0 (fun _ => none) 0 [] []) (fun S h => k _ _ h) ds _ (z p hp)) q
theorem dLc_up {vs : List Nat} (hi : DI X tg iter ti) (B : Blk X scope vs elt tg ifs g tt te) {σ : L2.St} {H : Hp} {Q : VK} (h : upE X (dLc ti g tt te vs) σ H Q) : tLc (upI X ti) (upGw X.K vs g) (upT0 X.K tt) (upE0 X.K te) vs σ H Q := by
  obtain ⟨E, τ, S, w, r, q⟩ := h
  refine hi.to w r q fun G ds S0 J H0 le0 w0 r0 f z => fun p hp => ?_
  have z1 := z p (r0.rep.free hp)
  refine ⟨fun i m H' => m = ds.length - i ∧ i ≤ ds.length ∧ LeH H0 H' ∧ ∃ S', Rep X.K S' H' ∧ dLcL g tt te DW0 (wipeD τ vs) G p (fun S => ∀ v H', LeH H H' → Rep X.K S H' → RD X.K H' (.ref p) v → Q v H') (ds.drop i) S', ⟨ds.length, by omega, Nat.zero_le _, LeH.new hp, _, r0.rep.new hp (o := .lst []) ⟨[], upd_same, rfl⟩, z1⟩, ?_⟩
  rintro i m H1 ⟨rfl, hle, le1, S1, r1, q1⟩
  have st1 : RSt X.K H1 (wipeD τ vs) (L2.wipe σ vs) := (r0.st.wipe vs).le le1
  by_cases hlt : i < ds.length
  · have e0 : ds[i]? = some ds[i] := List.getElem?_eq_getElem hlt
    rw [drop_at e0] at q1
    obtain ⟨hG, q1⟩ := q1
    have again : ∀ S' H', LeH H1 H' → Rep X.K S' H' → dLcL g tt te DW0 (wipeD τ vs) G p (fun S => ∀ v H', LeH H H' → Rep X.K S H' → RD X.K H' (.ref p) v → Q v H') (ds.drop (i + 1)) S' →
        LeH H0 H' ∧ ∃ S', Rep X.K S' H' ∧ dLcL g tt te DW0 (wipeD τ vs) G p (fun S => ∀ v H', LeH H H' → Rep X.K S H' → RD X.K H' (.ref p) v → Q v H') (ds.drop (i + 1)) S' := fun S' H' le r' y => ⟨le1.trans le, S', r', y⟩
    refine .inr ⟨f.go i S1 H1 le1 r1 hG hlt, _, fun H2 y => ⟨ds.length - (i + 1), by omega, rfl, hlt, y⟩, fun x H2 hy => ?_⟩
    obtain ⟨le2, rp2, d, ed, rd⟩ := f.yld i S1 H1 x H2 le1 r1 hG hlt hy
    rw [e0] at ed
    cases ed
    refine ⟨ds[i], wipeD τ vs, S1, ⟨st1.le le2, rp2⟩, rd, (B.hg X.s_0 (fun _ => none) 0 [] []).mono _ _ _ _ _ (fun τ3 S3 q3 σ3 H3 le3 r3 hw => ?_) q1⟩
    refine ⟨hw.trans (wipe_wipe σ vs), τ3, S3, r3, (B.ht X.s_0 (fun _ => none) 0 [] []).mono _ _ _ _ _ _ (fun _ _ _ _ y => y) (fun b S4 q4 H4 le4 r4 => ?_) q3⟩
    cases b with
    | false => exact again S4 H4 (le2.trans (le3.trans le4)) r4 q4
    | true =>
      refine ⟨τ3, S4, ⟨r3.st.le le4, r4⟩, (B.he X.s_0 (fun _ => none) 0 [] []).mono _ _ _ _ _ _ (fun _ _ _ _ y => y) (fun y S5 q5 v H5 le5 r5 rv => ?_) q4⟩
      split at q5
      · rename_i acc ea
        obtain ⟨xs, hx, rxs⟩ : ∃ xs, H5 p = some (.lst xs) ∧ RDs X.K H5 acc xs := r5 p _ ea
        have le6 : LeH H5 (upd H5 p (.lst (xs ++ [v]))) := LeH.put hx trivial
        exact ⟨xs, hx, by rw [← rxs.length]; exact q5.1, again _ _ (le2.trans (le3.trans (le4.trans (le5.trans le6)))) (r5.put hx trivial (o := .lst (acc ++ [y])) ⟨_, upd_same, (rxs.snoc rv).le le6⟩) q5.2⟩
      · exact q5.elim
  · have e : i = ds.length := by omega
    subst e
    rw [List.drop_length] at q1
    exact .inl ⟨f.stop S1 H1 le1 r1 q1.1, q1.2 _ H1 (le0.trans le1) r1 rfl⟩
theorem de_lc (hc : X.calm = true) (hN : X.N.Nodup) (hi : DI X tg iter ti) (ok : BlkOk X.N X.env.scope scope own) (B : Blk X scope (own.map (·.2)) elt tg ifs g tt te) (hs : ∀ x, foldedSetIterable iter X.env x = pure x := by intro _; rfl) :
    DE X (.ListComp elt [⟨tg, iter, ifs, 0⟩] scope pos) (dLc ti g tt te (own.map (·.2))) :=
  ⟨dLc_mono hi B, pE_imp (pe_lc (g := upGw X.K (own.map (·.2)) g) (tt := upT0 X.K tt) (te := upE0 X.K te) hc hN hi.run ok (fun s H C cl fp => (B.hg s H C cl fp).run) (fun s H C cl fp => (B.ht s H C cl fp).zero) (fun s H C cl fp => (B.he s H C cl fp).zero) hs) fun σ H Q h => dLc_up hi B h⟩
theorem ds_setLc {i : Nat} {y : Str} (hc : X.calm = true) (hN : X.N.Nodup) (hy : X.N[i]? = some y) (hyl : X.env.scope.names.lookup y = some .local)
    (hsw : swapsWith (.ListComp elt [⟨tg, iter, ifs, 0⟩] scope pos) (some (.Name y py)) spos.line X.env = pure true) (hi : DI X tg iter ti) (ok : BlkOk X.N X.env.scope scope own) (B : Blk X scope (own.map (·.2)) elt tg ifs g tt te)
    (hs : ∀ x, foldedSetIterable iter X.env x = pure x := by intro _; rfl) : DS X (.Assign [.Name y py] (.ListComp elt [⟨tg, iter, ifs, 0⟩] scope pos) spos) (dAsg (dLc ti g tt te (own.map (·.2))) (dGN i)) := by
  refine ⟨fun A B' τ S le q => dLc_mono hi B _ _ _ _ _ _ le.xe (fun _ _ z => le.nx _ _ z) q, pS_imp (ps_setLc (g := upGw X.K (own.map (·.2)) g) (tt := upT0 X.K tt) (te := upE0 X.K te) hc hN hy hyl hsw hi.run ok (fun s H C cl fp => (B.hg s H C cl fp).run) (fun s H C cl fp => (B.ht s H C cl fp).zero) (fun s H C cl fp => (B.he s H C cl fp).zero) hs) fun D σ H ⟨E, τ, S, w, r, q⟩ => ?_⟩
  refine dLc_up hi B ⟨E, τ, S, w, r, dLc_mono hi B _ _ _ _ _ _ (fun _ _ _ _ z => z) (fun d S' z v H' le rp rd => ?_) q⟩
  exact z _ H' le ⟨(r.st.le le).set i rd, rp⟩
end
end Dt
set_option maxRecDepth 100000
set_option maxHeartbeats 4000000
/-! Dat3: defs and their promises, calls, instances. -/
namespace Dt
open PySem PySem.Spec L2

abbrev DXK := Addr → List (Str × D) → DH → Prop
abbrev DSp := List D → DH → DK → DXK → Prop
def lQ (K : PySem.W.Frag) (H : Hp) (Q : VK) : DK := fun d S' => ∀ v H', LeH H H' → Rep K S' H' → RD K H' d v → Q v H'
def lX (K : PySem.W.Frag) (H : Hp) (E : XK) : DXK := fun C fs S' => ∀ dd ws H', LeH H H' → Rep K S' H' → H' dd = some (.xd ws) → RKs K H' fs ws → E (.ref C) (some dd) H'
def upSp (K : PySem.W.Frag) (sp : DSp) : Sp := fun vs H Q E => ∃ ds S, Rep K S H ∧ RDs K H ds vs ∧ sp ds S (lQ K H Q) (lX K H E)
structure DFn (P : Program) (w : World) (K : PySem.W.Frag) (mg : Str → Option Value) (base : Heap) (k : Nat) (f : Addr) (fd : FuncData) (ps : List Str) (sp : DSp) : Prop where
  mono : ∀ ds S (Q Q' : DK) (E E' : DXK), (∀ d S', Q d S' → Q' d S') → (∀ C fs S', E C fs S' → E' C fs S') → sp ds S Q E → sp ds S Q' E'
  len : ∀ ds S Q E, sp ds S Q E → ds.length = ps.length
  run : ∀ (A : Around) (outer : List Env) (s : Shared) (H : Hp) (args : Args) (us : List Value) (vs : List V) (Q : VK) (E : XK), Room k A → A.guards = some [] → Env0 P w K mg base A outer s H → BindsTo s fd args (ps.zip us) → Vals vs us →
    upSp K sp vs H Q E → codeAny (model P w) A (.call (.ref f) args) (CR (L2.CX P w) outer P w H s Q E) s
theorem DFn.more {P : Program} {w : World} {K : PySem.W.Frag} {mg : Str → Option Value} {base : Heap} {j k : Nat} {f : Addr} {fd : FuncData} {ps : List Str} {sp : DSp} (F : DFn P w K mg base j f fd ps sp) (h : j ≤ k) : DFn P w K mg base k f fd ps sp :=
  ⟨F.mono, F.len, fun A outer s H args us vs Q E hr => F.run A outer s H args us vs Q E (hr.mono h)⟩

section
variable {X : Cx} {k : Nat} {f C : Addr} {fd : FuncData} {ps : List Str} {sp : DSp} {x m : Str} {p pos apos : Pos} {e o : Expr} {es : List Expr} {ta : DTE} {t : DTA}
theorem run_dfn {pins : List (Addr × Obj)} {s : Shared} {us : List Value} {vs : List V} {ds : List D} {E : DW} {τ : DSt} {S : DH} {σ : L2.St} {H : Hp} {Q0 : DK} {Q : VK} (F : DFn X.prog X.w X.K X.mg X.base k f fd ps sp) (hr : Room k X.A) (gu : X.A.guards = some []) (hb : Binds X.K fd ps [])
    (I : Inv X pins σ H s) (w : Wish X E H) (rl : Rel X.K τ S σ H) (r : Vals vs us) (rd : RDs X.K H ds vs) (h : sp ds S Q0 (fun C fs S' => E C fs τ S')) (kq : ∀ d S' v H', LeH H H' → Rep X.K S' H' → RD X.K H' d v → Q0 d S' → Q v H') :
    wpAny (model X.prog X.w) X.A (call (.ref f) us) (EP X pins σ Q) X.xe s := by
  have hl : (us ++ []).length = ps.length := by rw [List.append_nil, ← r.length, ← rd.length]; exact F.len _ _ _ _ h
  have hbd := hb s us I.kIn hl
  rw [List.append_nil] at hbd
  refine wpAny_call (codeAny_mono (F.run X.A X.stack s H ⟨us, []⟩ us vs Q (fun cls d H' => upW X.K E H cls d σ H') hr gu I.env0 hbd r ⟨ds, S, rl.rep, rd, F.mono _ _ _ _ _ _ (fun d S' q v H' le rp rv => kq d S' v H' le rp rv q)
    (fun C fs S' q dd ws H' le rp hx rk => ⟨C, fs, τ, S', dd, ws, rfl, rfl, le, rl.le le rp, hx, rk, q⟩) h⟩) fun r s' hq => ?_)
  cases r with
  | error e => exact w e s' (XE.of_call I (fun _ _ _ h => h) hq)
  | ok fl =>
    cases fl with
    | ret u => exact I.after hq
    | next => exact False.elim hq
    | brk => exact False.elim hq
    | cont => exact False.elim hq
@[simp] def dCall (sp : DSp) (t : DTA) : DTE := fun E τ S Q => t E τ S fun ds S1 => sp ds S1 Q fun C fs S' => E C fs τ S'
theorem de_call (F : DFn X.prog X.w X.K X.mg X.base k f fd ps sp) (hr : Room k X.A) (gu : X.A.guards = some []) (hg : Gl X x) (hm : X.mg x = some (.ref f)) (hk : PySem.W.keepIn X.K (.ref f) = true) (hb : Binds X.K fd ps []) (ha : DA X (e :: es) t)
    (hdb : (x == ("__debug__" : Str)) = false := by decide) (he : starEach (e :: es) X.env = (false, eval e X.env) :: starEach es X.env := by rfl) (hpl : (backTo pos (starEach es X.env)).any (·.1) = false := by rfl) :
    DE X (.Call (.Name x p) (e :: es) [] pos) (dCall sp t) := by
  refine ⟨fun E E' τ S Q Q' hE kq q => ha.mono _ _ _ _ _ _ hE (fun ds S1 z => F.mono _ _ _ _ _ _ kq (fun C fs S' y => hE _ _ _ _ y) z) q, ⟨fun pins s σ H Q I ⟨E, τ, S, w, r, q⟩ => ?_⟩⟩
  refine PySem.wpAny_Call_Name_kw (ld_glob I hg hm ?_ hdb)
  refine PySem.W.callWith_K (h₀ := X.base) I.ok.mod.kin hk (thn (ha.run.run pos pins s σ H _ I (ha.to w r q fun ds S1 vs H1 le1 w1 r1 rd1 z => (⟨LeH.refl H1, le1, w1, r1, rd1, z⟩ : LeH H1 H1 ∧ LeH H H1 ∧ Wish X E H1 ∧ Rel X.K τ S1 σ H1 ∧ RDs X.K H1 ds vs ∧ _) |> fun a => (⟨ds, S1, a⟩ : ∃ ds S1, LeH H1 H1 ∧ LeH H H1 ∧ Wish X E H1 ∧ Rel X.K τ S1 σ H1 ∧ RDs X.K H1 ds vs ∧ sp ds S1 (fun d S' => ∀ v H', LeH H H' → Rep X.K S' H' → RD X.K H' d v → Q v H') fun C fs S' => E C fs τ S'))) fun us s1 ⟨vs, H1, I1, rv, ds, S1, _, le1, w1, r1, rd1, z⟩ => ⟨I1.kIn, ?_⟩) he hpl
  exact run_dfn F hr gu hb I1 w1 r1 rv rd1 z fun d S' v H' le rp rd q2 => q2 v H' (le1.trans le) rp rd
theorem de_call0 (F : DFn X.prog X.w X.K X.mg X.base k f fd ps sp) (hr : Room k X.A) (gu : X.A.guards = some []) (hg : Gl X x) (hm : X.mg x = some (.ref f)) (hk : PySem.W.keepIn X.K (.ref f) = true) (hb : Binds X.K fd ps [])
    (hdb : (x == ("__debug__" : Str)) = false := by decide) : DE X (.Call (.Name x p) [] [] pos) (dCall sp dNil) := by
  refine ⟨fun E E' τ S Q Q' hE kq q => F.mono _ _ _ _ _ _ kq (fun C fs S' y => hE _ _ _ _ y) q, ⟨fun pins s σ H Q I ⟨E, τ, S, w, r, q⟩ => ?_⟩⟩
  refine PySem.wpAny_Call_Name_kw (ld_glob I hg hm ?_ hdb)
  exact PySem.W.callWith_K0 I.kIn hk (run_dfn (us := []) F hr gu hb I w r .nil .nil q fun d S' v H' le rp rd q2 => q2 v H' le rp rd)

/-! ### fields of instances -/
theorem RKs.lookup {K : PySem.W.Frag} {H : Hp} : ∀ {fs : List (Str × D)} {ws : List (Str × V)} (f : Str), RKs K H fs ws → match fs.lookup f, ws.lookup f with | some d, some v => RD K H d v | none, none => True | _, _ => False
  | [], _, f, h => by cases h; trivial
  | (j, d) :: r, _, f, h => by
    obtain ⟨v, s, rfl, h1, h2⟩ := h
    simp only [List.lookup_cons]
    cases e : f == j with
    | true => exact h1
    | false => exact RKs.lookup f h2
theorem RKs.lookup_some {K : PySem.W.Frag} {H : Hp} {fs : List (Str × D)} {ws : List (Str × V)} {f : Str} {d : D} (h : RKs K H fs ws) (e : fs.lookup f = some d) : ∃ v, ws.lookup f = some v ∧ RD K H d v := by
  have := h.lookup f
  rw [e] at this
  cases q : ws.lookup f with
  | none => rw [q] at this; exact this.elim
  | some v => rw [q] at this; exact ⟨v, rfl, this⟩
theorem RKs.lookup_none {K : PySem.W.Frag} {H : Hp} {fs : List (Str × D)} {ws : List (Str × V)} {f : Str} (h : RKs K H fs ws) (e : fs.lookup f = none) : ws.lookup f = none := by
  have := h.lookup f
  rw [e] at this
  cases q : ws.lookup f with
  | none => rfl
  | some v => rw [q] at this; exact this.elim
/-- o.m(..) -/
@[simp] def dMeth (C : Addr) (m : Str) (sp : DSp) (ta : DTE) (t : DTA) : DTE := fun E τ S Q => ta E τ S fun d S1 => match d with
  | .ref a => (match S1 a with | some (.ins C' fs) => C' = C ∧ fs.lookup m = none ∧ t E τ S1 fun ds S2 => sp (.ref a :: ds) S2 Q fun C fs S' => E C fs τ S' | _ => False)
  | _ => False
theorem dMeth_mono {t : DTA} (F : DFn X.prog X.w X.K X.mg X.base k f fd ps sp) (he : DE X o ta) (ma : ∀ (E E' : DW) τ S (Q Q' : List D → DH → Prop), (∀ C fs τ S, E C fs τ S → E' C fs τ S) → (∀ d S', Q d S' → Q' d S') → t E τ S Q → t E' τ S Q')
    (E E' : DW) (τ : DSt) (S : DH) (Q Q' : DK) (hE : ∀ C fs τ S, E C fs τ S → E' C fs τ S) (kq : ∀ d S', Q d S' → Q' d S') (q : dMeth C m sp ta t E τ S Q) : dMeth C m sp ta t E' τ S Q' :=
  he.mono _ _ _ _ _ _ hE (fun d S1 z => by
    cases d with
    | ref a =>
      revert z
      show (match S1 a with | some (.ins C' fs) => _ | _ => False) → (match S1 a with | some (.ins C' fs) => _ | _ => False)
      split
      · exact fun z => ⟨z.1, z.2.1, ma _ _ _ _ _ _ hE (fun ds S2 y => F.mono _ _ _ _ _ _ kq (fun C fs S' u => hE _ _ _ _ u) y) z.2.2⟩
      · exact fun z => z
    | _ => exact z) q
theorem de_meth {pl : Sem Bool} (he : DE X o ta) (c : Cls X.K C) (hm : Meth X.K C m f) (F : DFn X.prog X.w X.K X.mg X.base k f fd ps sp) (hr : Room k X.A) (gu : X.A.guards = some []) (hb : Binds X.K fd ps []) (ha : DA X (e :: es) t)
    (hst : starEach (e :: es) X.env = (false, eval e X.env) :: starEach es X.env := by rfl) (hpl : (backTo pos (starEach es X.env)).any (·.1) = false := by rfl)
    (ht : eval (.Call (.Attribute o m apos) (e :: es) [] pos) X.env = (do let ov ← eval o X.env; standAt apos.atName; let (f, first) ← holding [ov] (getMethod ov m pl); callWith pos f first (backTo pos (starEach (e :: es) X.env)) (backToKw pos (keywordEach [] X.env))) := by rfl) :
    DE X (.Call (.Attribute o m apos) (e :: es) [] pos) (dMeth C m sp ta t) := by
  refine ⟨dMeth_mono F he ha.mono, ⟨fun pins s σ H Q I ⟨E, τ, S, w, r, q⟩ => ?_⟩⟩
  refine PySem.W.methodCall_KW (pl := pl) (thn (he.run.run pins s σ H _ I (he.to w r q fun d S1 v H1 le1 w1 r1 rd1 z => (⟨d, S1, le1, w1, r1, rd1, z⟩ : ∃ d S1, LeH H H1 ∧ Wish X E H1 ∧ Rel X.K τ S1 σ H1 ∧ RD X.K H1 d v ∧ match d with
    | .ref a => (match S1 a with | some (.ins C' fs) => C' = C ∧ fs.lookup m = none ∧ t E τ S1 fun ds S2 => sp (.ref a :: ds) S2 (fun d S' => ∀ v H', LeH H H' → Rep X.K S' H' → RD X.K H' d v → Q v H') fun C fs S' => E C fs τ S' | _ => False)
    | _ => False))) fun u s1 ⟨v, H1, I1, rv, d, S1, le1, w1, r1, rd1, z⟩ => ?_) ht
  cases d with
  | ref a =>
    obtain rfl : v = V.ref a := rd1
    obtain rfl : u = Value.ref a := rv
    revert z
    show (match S1 a with | some (.ins C' fs) => _ | _ => False) → _
    split
    · rename_i C' fs ea
      rintro ⟨rfl, hl, z⟩
      obtain ⟨dx, ws, eh, rk⟩ : ∃ dx ws, H1 a = some (.ins C' dx ws) ∧ RKs X.K H1 fs ws := r1.rep a _ ea
      refine getmeth_ok I1 eh c hm (rk.lookup_none hl) ?_
      refine PySem.W.callWith_K (first := [.ref a]) (h₀ := X.base) I.ok.mod.kin hm.kp (thn (ha.run.run pos pins s1 σ H1 _ I1 (ha.to w1 r1 z fun ds S2 vs H2 le2 w2 r2 rd2 y => (⟨ds, S2, le2, w2, r2, rd2, y⟩ : ∃ ds S2, LeH H1 H2 ∧ Wish X E H2 ∧ Rel X.K τ S2 σ H2 ∧ RDs X.K H2 ds vs ∧
        sp (.ref a :: ds) S2 (fun d S' => ∀ v H', LeH H H' → Rep X.K S' H' → RD X.K H' d v → Q v H') fun C fs S' => E C fs τ S'))) fun us s2 ⟨vs, H2, I2, rv2, ds, S2, le2, w2, r2, rd2, y⟩ => ⟨I2.kIn, ?_⟩) hst hpl
      exact run_dfn (us := .ref a :: us) (vs := .ref a :: vs) F hr gu hb I2 w2 r2 (.cons rfl rv2) (RDs.cons (d := .ref a) rfl rd2) y fun d S' v H' le rp rd q2 => q2 v H' (le1.trans (le2.trans le)) rp rd
    · exact fun z => z.elim
  | _ => exact z.elim
theorem de_meth0 {pl : Sem Bool} (he : DE X o ta) (c : Cls X.K C) (hm : Meth X.K C m f) (F : DFn X.prog X.w X.K X.mg X.base k f fd ps sp) (hr : Room k X.A) (gu : X.A.guards = some []) (hb : Binds X.K fd ps [])
    (ht : eval (.Call (.Attribute o m apos) [] [] pos) X.env = (do let ov ← eval o X.env; standAt apos.atName; let (f, first) ← holding [ov] (getMethod ov m pl); callWith pos f first (backTo pos (starEach [] X.env)) (backToKw pos (keywordEach [] X.env))) := by rfl) :
    DE X (.Call (.Attribute o m apos) [] [] pos) (dMeth C m sp ta dNil) := by
  refine ⟨dMeth_mono F he (fun _ _ _ _ _ _ _ k q => k _ _ q), ⟨fun pins s σ H Q I ⟨E, τ, S, w, r, q⟩ => ?_⟩⟩
  refine PySem.W.methodCall_KW (pl := pl) (thn (he.run.run pins s σ H _ I (he.to w r q fun d S1 v H1 le1 w1 r1 rd1 z => (⟨d, S1, le1, w1, r1, rd1, z⟩ : ∃ d S1, LeH H H1 ∧ Wish X E H1 ∧ Rel X.K τ S1 σ H1 ∧ RD X.K H1 d v ∧ match d with
    | .ref a => (match S1 a with | some (.ins C' fs) => C' = C ∧ fs.lookup m = none ∧ sp [.ref a] S1 (fun d S' => ∀ v H', LeH H H' → Rep X.K S' H' → RD X.K H' d v → Q v H') fun C fs S' => E C fs τ S' | _ => False)
    | _ => False))) fun u s1 ⟨v, H1, I1, rv, d, S1, le1, w1, r1, rd1, z⟩ => ?_) ht
  cases d with
  | ref a =>
    obtain rfl : v = V.ref a := rd1
    obtain rfl : u = Value.ref a := rv
    revert z
    show (match S1 a with | some (.ins C' fs) => _ | _ => False) → _
    split
    · rename_i C' fs ea
      rintro ⟨rfl, hl, z⟩
      obtain ⟨dx, ws, eh, rk⟩ : ∃ dx ws, H1 a = some (.ins C' dx ws) ∧ RKs X.K H1 fs ws := r1.rep a _ ea
      refine getmeth_ok I1 eh c hm (rk.lookup_none hl) ?_
      exact PySem.W.callWith_K0 (first := [.ref a]) I1.kIn hm.kp (run_dfn (us := [.ref a]) (vs := [.ref a]) F hr gu hb I1 w1 r1 (.cons rfl .nil) (RDs.cons (d := .ref a) rfl .nil) z fun d S' v H' le rp rd q2 => q2 v H' (le1.trans le) rp rd)
    · exact fun z => z.elim
  | _ => exact z.elim
end

/-! ### a def by its body -/
def dstart (N : List Str) (ds : List D) : DSt := ds.map some ++ List.replicate (N.length - ds.length) none
theorem dstart_rel {K : PySem.W.Frag} {H : Hp} {N : List Str} {ds : List D} {vs : List V} (r : RDs K H ds vs) : RSt K H (dstart N ds) (L2.start N vs) := by
  refine ⟨by simp [dstart, L2.start, r.length], fun i d e => ?_⟩
  unfold dstart at e
  unfold L2.start
  by_cases l : i < ds.length
  · rw [List.getElem?_append_left (by simpa using l), List.getElem?_map] at e
    rw [List.getElem?_append_left (by simpa [← r.length] using l), List.getElem?_map]
    cases q : ds[i]? with
    | none => rw [q] at e; cases e
    | some d' =>
      rw [q] at e
      cases e
      obtain ⟨v, h1, h2⟩ := r.get q
      exact ⟨v, by rw [h1]; rfl, h2⟩
  · rw [List.getElem?_append_right (by simpa using l), List.getElem?_replicate] at e
    split at e <;> cases e
theorem guards_deeper {A : Around} {env : Env} (h : A.guards = some []) : (A.deeper env).guards = some [] := by
  first | exact h | (simp [Around.deeper, h])
theorem dfn_of {P : Program} {w : World} {K : PySem.W.Frag} {mg : Str → Option Value} {base : Heap} {x qual : Str} {st : Stmt} {f : Addr} {fd : FuncData} {N ps : List Str} {k : Nat} {sp : DSp} {t : DTS} (F : Fun K x qual st f fd) (Sc : FnScope N ps (defScope st))
    (mono : ∀ ds S (Q Q' : DK) (E E' : DXK), (∀ d S', Q d S' → Q' d S') → (∀ C fs S', E C fs S' → E' C fs S') → sp ds S Q E → sp ds S Q' E') (len : ∀ ds S Q E, sp ds S Q E → ds.length = ps.length)
    (hbody : ∀ (cdv : Value) (A : Around) (outer : List Env) (s : Shared) (H : Hp) (E : XK), Room k (A.deeper (PyProof.Rows.envOfC qual (defScope st) s.heap.objs.size f cdv)) → (A.deeper (PyProof.Rows.envOfC qual (defScope st) s.heap.objs.size f cdv)).guards = some [] →
      DSs (cxOf (L2.CX P w) P w K mg base N qual (defScope st) f cdv A outer s H E) (defBody st) t)
    (hsp : ∀ ds S Q E, sp ds S Q E → t { nx := fun _ S' => Q .non S', rt := Q, xe := fun C fs _ S' => E C fs S' } (dstart N ds) S) : DFn P w K mg base (k + 1) f fd ps sp := by
  obtain ⟨oc, od, kV, doc, pm, an, cdv, ct, osl, rfl, lk, hcd⟩ := F.ex
  refine ⟨mono, len, fun A outer s H args us vs Q E hr gu e0 hb r ⟨ds, S, rep, rds, q⟩ => ?_⟩
  have hl : vs.length = ps.length := by rw [← rds.length]; exact len _ _ _ _ q
  have KX : K.In s.heap := e0.mod.kin.keeps fun b o z => (e0.bs b o z).1
  have lim : s.heap.NoLimit := e0.mod.nolimit.keeps fun b o z => (e0.bs b o z).1
  refine codeAny_call_function hr.depth (KX _ _ lk) rfl Sc.co Sc.gen rfl (PySem.W.codeRec_of KX hcd) (hb _ _ _ _ ?_)
  refine wpAny_newFunctionEnv_cells Sc.kind (fun ⟨n, v⟩ hy => ?_) fun env he s1 x => ?_
  · rcases Sc.par n (List.of_mem_zip hy).1 with z | z
    · exact .inl z
    · exact .inr ⟨z, PySem.W.cellsFrom_some _ _ _ (.inl z)⟩
  subst he
  have B := hbody cdv A outer s H E (hr.deeper _) (guards_deeper gu)
  have I : Inv (cxOf (L2.CX P w) P w K mg base N qual (defScope st) f cdv A outer s H E) [] (L2.start N vs) H s1 := inv_start Sc hr.hd e0 hl r x
  have wi : Wish (cxOf (L2.CX P w) P w K mg base N qual (defScope st) f cdv A outer s H E) (fun C fs _ S' => lX K H E C fs S') H := by
    refine Takes.imp (takes_of (E := E) rfl rfl rfl rfl) fun cls d σ H' h => ?_
    obtain ⟨C, fs, τ, S', dd, ws, rfl, rfl, le, rl, hx, rk, h⟩ := h
    exact h dd ws H' le rl.rep hx rk
  have fin : ∀ {σ' : L2.St} {H' : Hp} {v : V} {u : Value} {s' : Shared}, Inv (cxOf (L2.CX P w) P w K mg base N qual (defScope st) f cdv A outer s H E) [] σ' H' s' → RelV v u → Q v H' → CE outer P w H s Q u s' :=
    fun {σ' H' v u s'} J rv y => ⟨v, H', J.os, J.bare, J.base, J.hok, rv, y⟩
  refine ⟨lim.keeps x.toInCall.keep, codeAny_func (PySem.wpAny_mono (B.run.run [] s1 (L2.start N vs) H { nx := fun _ H' => Q .non H', rt := Q } I ⟨_, dstart N ds, S, wi, ⟨dstart_rel rds, rep⟩, B.mono { nx := fun _ S' => lQ K H Q .non S', rt := lQ K H Q, xe := fun C fs _ S' => lX K H E C fs S' } _ _ _ ⟨fun τ S' h σ H' le r' => ?_, fun d S' h v H' le r' rv => ?_, fun _ _ h => h.elim, fun _ _ h => h.elim, fun _ _ _ _ h => h⟩ (hsp _ _ _ _ q)⟩) (fun fl s' hs => ?_) fun e s' hs => hs)⟩
  · exact h V.non H' le r'.rep rfl
  · exact h v H' le r' rv
  · cases fl with
    | ret u =>
      obtain ⟨v, σ', H', J, rv, y⟩ := hs
      exact fin J rv y
    | next =>
      obtain ⟨σ', H', J, y⟩ := hs
      exact fin (v := V.non) (u := Value.none) J rfl y
    | brk =>
      obtain ⟨_, _, _, y⟩ := hs
      exact y.elim
    | cont =>
      obtain ⟨_, _, _, y⟩ := hs
      exact y.elim
end Dt
set_option maxRecDepth 100000
set_option maxHeartbeats 4000000
/-! Dat4: operators, comparisons, repr. -/
namespace Dt
open PySem PySem.Spec L2

/-! ### the library's trees -/
mutual
inductive Pd (S : DH) : D → PyData → Prop
  | non : Pd S .non .none
  | bl (b : Bool) : Pd S (.bl b) (.bool b)
  | int (i : Int) : Pd S (.int i) (.int i)
  | str (x : Str) : Pd S (.str x) (.str x)
  | tup {ds : List D} {ps : List PyData} : PdA S ds ps → Pd S (.tup ds) (.tuple ps)
  | rol {ds : List D} {ps : List PyData} : PdA S ds ps → Pd S (.rol ds) (.list ps)
  | lst {a : Addr} {ds : List D} {ps : List PyData} : S a = some (.lst ds) → PdA S ds ps → Pd S (.ref a) (.list ps)
inductive PdA (S : DH) : List D → List PyData → Prop
  | nil : PdA S [] []
  | cons {d : D} {ds : List D} {p : PyData} {ps : List PyData} : Pd S d p → PdA S ds ps → PdA S (d :: ds) (p :: ps)
end
section
variable {K : PySem.W.Frag} {S : DH} {H : Hp}
mutual
theorem Pd.dp (rep : Rep K S H) : ∀ (p : PyData) (d : D) (v : V), Pd S d p → RD K H d v → Dp K H v p
  | .none, _, _, h, r => by cases h; cases r; exact .non
  | .bool b, _, _, h, r => by cases h; cases r; exact .bl b
  | .int i, _, _, h, r => by cases h; cases r; exact .int i
  | .str x, _, _, h, r => by cases h; cases r; exact .str x
  | .tuple ps, _, v, h, r => by
    cases h with
    | tup hs =>
      obtain ⟨p, xs, rfl, sq, rs⟩ : ∃ p xs, v = V.ref p ∧ SqT K H p xs ∧ RDs K H _ xs := r
      exact .tup sq (PdA.dp rep ps _ _ hs rs)
  | .list ps, _, v, h, r => by
    cases h with
    | rol hs =>
      obtain ⟨p, xs, rfl, sq, rs⟩ : ∃ p xs, v = V.ref p ∧ SqR K H p xs ∧ RDs K H _ xs := r
      exact .lst sq.l (PdA.dp rep ps _ _ hs rs)
    | lst e hs =>
      cases r
      obtain ⟨xs, q, rs⟩ := rep _ _ e
      exact .lst (.of q) (PdA.dp rep ps _ _ hs rs)
  | .dict _, _, _, h, _ => by cases h
theorem PdA.dp (rep : Rep K S H) : ∀ (ps : List PyData) (ds : List D) (vs : List V), PdA S ds ps → RDs K H ds vs → DpAll K H vs ps
  | [], _, _, h, r => by
    cases h
    cases r
    exact .nil
  | p :: ps, _, _, h, r => by
    cases h with
    | cons h1 h2 =>
      obtain ⟨v, vs, rfl, r1, r2⟩ := r
      exact .cons (Pd.dp rep p _ v h1 r1) (PdA.dp rep ps _ vs h2 r2)
end
end
/-! without addresses -/
mutual
def toP : D → PyData
  | .non => .none
  | .bl b => .bool b
  | .int i => .int i
  | .str x => .str x
  | .tup ds => .tuple (toPs ds)
  | .rol ds => .list (toPs ds)
  | .ref _ => .none
def toPs : List D → List PyData
  | [] => []
  | d :: ds => toP d :: toPs ds
end
mutual
def imm : D → Bool
  | .tup ds => imms ds
  | .rol ds => imms ds
  | .ref _ => false
  | _ => true
def imms : List D → Bool
  | [] => true
  | d :: ds => imm d && imms ds
end
mutual
theorem imm_pd (S : DH) : ∀ d : D, imm d = true → Pd S d (toP d)
  | .non, _ => .non
  | .bl b, _ => .bl b
  | .int i, _ => .int i
  | .str x, _ => .str x
  | .tup ds, h => .tup (imms_pd S ds h)
  | .rol ds, h => .rol (imms_pd S ds h)
theorem imms_pd (S : DH) : ∀ ds : List D, imms ds = true → PdA S ds (toPs ds)
  | [], _ => .nil
  | d :: ds, h => by
    have h' : (imm d && imms ds) = true := h
    rw [Bool.and_eq_true] at h'
    exact .cons (imm_pd S d h'.1) (imms_pd S ds h'.2)
end

/-! ### + - * // % ** -/
@[simp] def dAdd : R2D := fun d e S Q => match d, e with
  | .int i, .int j => Q (.int (i + j)) S
  | .str x, .str y => x.length + y.length ≤ sizeLine ∧ Q (.str (x ++ y)) S
  | .tup xs, .tup ys => xs.length + ys.length ≤ sizeLine ∧ Q (.tup (xs ++ ys)) S
  | .ref a, .ref b => (match S a, S b with
    | some (.lst xs), some (.lst ys) => xs.length + ys.length ≤ sizeLine ∧ newO S (.lst (xs ++ ys)) fun p S' => Q (.ref p) S'
    | _, _ => False)
  | _, _ => False
section
variable {X : Cx}
theorem rep_new {K : PySem.W.Frag} {S : DH} {H : Hp} {Q0 : DK} {Q : VK} {ds : List D} {xs : List V} {q : Addr} (rep : Rep K S H) (hq : H q = none) (rs : RDs K H ds xs) (h : lQ K H Q (.ref q) (upo S q (.lst ds))) : Q (.ref q) (upd H q (.lst xs)) :=
  h (.ref q) _ (LeH.new hq) (rep.new hq (o := .lst ds) ⟨xs, upd_same, rs.le (LeH.new hq)⟩) rfl
theorem rep_tup {K : PySem.W.Frag} {S : DH} {H : Hp} {Q : VK} {ds : List D} {xs : List V} {q : Addr} (rep : Rep K S H) (hq : H q = none) (rs : RDs K H ds xs) (h : lQ K H Q (.tup ds) S) : Q (.ref q) (upd H q (.tup xs)) :=
  h (.ref q) _ (LeH.new hq) (rep.garb hq) ⟨q, xs, rfl, .of upd_same, rs.le (LeH.new hq)⟩
theorem od_add : OpD X (binaryOp .Add) dAdd := by
  refine ⟨fun x y S Q Q' k h => ?_, fun pins s σ H x y v u Q I rx ry ⟨d, e, S, rep, rd, re, h⟩ => ?_⟩
  · cases x <;> cases y <;> first | exact h.elim | exact k _ _ h | exact ⟨h.1, k _ _ h.2⟩ | skip
    rename_i a b
    revert h
    show (match S a, S b with | some (.lst xs), some (.lst ys) => _ | _, _ => False) → (match S a, S b with | some (.lst xs), some (.lst ys) => _ | _, _ => False)
    split
    · exact fun h => ⟨h.1, fun p hp => k _ _ (h.2 p hp)⟩
    · exact fun h => h
  · cases d <;> cases e <;> first | exact h.elim | skip
    · cases rd; cases re
      exact op_add pins s σ H _ _ v u Q I rx ry ⟨_, _, rfl, rfl, h _ H (LeH.refl H) rep rfl⟩
    · cases rd; cases re
      exact op_add_str pins s σ H _ _ v u Q I rx ry ⟨_, _, rfl, rfl, h.1, h.2 _ H (LeH.refl H) rep rfl⟩
    · rename_i ds es
      obtain ⟨p, xs, rfl, sq, rs⟩ : ∃ p xs, x = V.ref p ∧ SqT X.K H p xs ∧ RDs X.K H ds xs := rd
      obtain ⟨q, ys, rfl, sq2, rs2⟩ : ∃ p xs, y = V.ref p ∧ SqT X.K H p xs ∧ RDs X.K H es xs := re
      refine op_catA pins s σ H _ _ v u Q I rx ry ⟨p, q, xs, ys, rfl, rfl, sq, sq2, by rw [← rs.length, ← rs2.length]; exact h.1, fun e => ?_, fun _ e => ?_, fun _ _ p2 hp => rep_tup rep hp (rs.append rs2) h.2⟩
      · subst e
        have := rs.length
        have e2 : ds = [] := List.length_eq_zero_iff.mp (by simpa using this)
        subst e2
        exact h.2 _ H (LeH.refl H) rep ⟨q, ys, rfl, sq2, rs2⟩
      · subst e
        have := rs2.length
        have e2 : es = [] := List.length_eq_zero_iff.mp (by simpa using this)
        subst e2
        exact h.2 _ H (LeH.refl H) rep ⟨p, xs, rfl, sq, by rw [List.append_nil]; exact rs⟩
    · rename_i a b
      cases rd; cases re
      revert h
      show (match S a, S b with | some (.lst xs), some (.lst ys) => _ | _, _ => False) → _
      split
      · rename_i xs ys ea eb
        intro h
        obtain ⟨us, e1, r1⟩ : ∃ xs', H a = some (.lst xs') ∧ RDs X.K H xs xs' := rep a _ ea
        obtain ⟨ws, e2, r2⟩ : ∃ xs', H b = some (.lst xs') ∧ RDs X.K H ys xs' := rep b _ eb
        exact op_cat pins s σ H _ _ v u Q I rx ry ⟨a, b, us, ws, rfl, rfl, e1, e2, by rw [← r1.length, ← r2.length]; exact h.1, fun p hp => rep_new (Q0 := fun _ _ => True) rep hp (r1.append r2) (h.2 p (rep.free hp))⟩
      · exact fun h => h.elim
/-- two ints -/
@[simp] def dII (C : Int → Int → Prop) (g : Int → Int → D) : R2D := fun d e S Q => match d, e with | .int i, .int j => C i j ∧ Q (g i j) S | _, _ => False
theorem dII_mono {C : Int → Int → Prop} {g : Int → Int → D} : Mono2 (dII C g) := fun x y S Q Q' k h => by
  cases x <;> cases y <;> first | exact h.elim | exact ⟨h.1, k _ _ h.2⟩
theorem od_II {f : Value → Value → Sem Value} {C : Int → Int → Prop} {g : Int → Int → D} {g' : Int → Int → V} (h : OpR X f (rI C g')) (hg : ∀ H i j, RD X.K H (g i j) (g' i j)) : OpD X f (dII C g) := by
  refine ⟨dII_mono, fun pins s σ H x y v u Q I rx ry ⟨d, e, S, rep, rd, re, q⟩ => ?_⟩
  cases d <;> cases e <;> first | exact q.elim | skip
  cases rd; cases re
  exact h pins s σ H _ _ v u Q I rx ry ⟨_, _, rfl, rfl, q.1, q.2 _ H (LeH.refl H) rep (hg _ _ _)⟩
theorem od_II0 {f : Value → Value → Sem Value} {g : Int → Int → D} {g' : Int → Int → V} (h : OpR X f (rI0 g')) (hg : ∀ H i j, RD X.K H (g i j) (g' i j)) : OpD X f (dII (fun _ _ => True) g) := by
  refine ⟨dII_mono, fun pins s σ H x y v u Q I rx ry ⟨d, e, S, rep, rd, re, q⟩ => ?_⟩
  cases d <;> cases e <;> first | exact q.elim | skip
  cases rd; cases re
  exact h pins s σ H _ _ v u Q I rx ry ⟨_, _, rfl, rfl, q.2 _ H (LeH.refl H) rep (hg _ _ _)⟩
theorem od_sub : OpD X (binaryOp .Sub) (dII (fun _ _ => True) fun i j => .int (i - j)) := od_II0 op_sub fun _ _ _ => rfl
theorem od_mod : OpD X (binaryOp .Mod) (dII (fun _ j => 0 < j) fun i j => .int (i % j)) := od_II op_mod fun _ _ _ => rfl
theorem od_fdiv : OpD X (binaryOp .FloorDiv) (dII CDivW fun i j => .int (i / j)) := od_II op_fdivW fun _ _ _ => rfl
theorem od_pow : OpD X (binaryOp .Pow) (dII CPow fun i j => .int (i ^ j.toNat)) := od_II op_pow fun _ _ _ => rfl
theorem od_lt : OpD X (compareOp .Lt) (dII (fun _ _ => True) fun i j => .bl (decide (i < j))) := od_II0 op_lt fun _ _ _ => rfl
theorem od_le : OpD X (compareOp .LtE) (dII (fun _ _ => True) fun i j => .bl (decide (i ≤ j))) := od_II0 op_le fun _ _ _ => rfl
theorem od_gt : OpD X (compareOp .Gt) (dII (fun _ _ => True) fun i j => .bl (decide (j < i))) := od_II0 op_gt fun _ _ _ => rfl
theorem od_ge : OpD X (compareOp .GtE) (dII (fun _ _ => True) fun i j => .bl (decide (j ≤ i))) := od_II0 op_ge fun _ _ _ => rfl

/-! ### == -/
def dEqG (neg : Bool) : R2D := fun d e S Q => ∃ p q, Pd S d p ∧ Pd S e q ∧ SeqAt.shaped p = true ∧ SeqAt.shaped q = true ∧ Q (.bl (if neg then !PyData.eqv p q else PyData.eqv p q)) S
def dEq (neg : Bool) : R2D := fun d e S Q => match d, e with
  | .int i, .int j => Q (.bl (if neg then !(i == j) else i == j)) S
  | .str i, .str j => Q (.bl (if neg then !(i == j) else i == j)) S
  | .bl i, .bl j => Q (.bl (if neg then !(i == j) else i == j)) S
  | .non, .str j => Q (.bl neg) S
  | .str j, .non => Q (.bl neg) S
  | .int _, .str j => Q (.bl neg) S
  | .str j, .int _ => Q (.bl neg) S
  | d, e => dEqG neg d e S Q
theorem dEq_mono (neg : Bool) : Mono2 (dEq neg) := fun x y S Q Q' k h => by
  unfold dEq at h ⊢
  split at h <;> first | exact k _ _ h | exact (fun ⟨p, q, h1, h2, h3, h4, h⟩ => ⟨p, q, h1, h2, h3, h4, k _ _ h⟩ : dEqG neg _ _ S Q → dEqG neg _ _ S Q') h
theorem od_eq (hu : X.A.units + 64 < cLine) : OpD X (compareOp .Eq) (dEq false) := by
  refine ⟨dEq_mono false, fun pins s σ H x y v u Q I rx ry ⟨d, e, S, rep, rd, re, h⟩ => ?_⟩
  unfold dEq at h
  split at h
  · cases rd; cases re
    exact op_eq pins s σ H _ _ v u Q I rx ry ⟨rfl, by rw [dec_int]; exact h _ H (LeH.refl H) rep rfl⟩
  · cases rd; cases re
    exact op_eq pins s σ H _ _ v u Q I rx ry ⟨rfl, by rw [dec_str]; exact h _ H (LeH.refl H) rep rfl⟩
  · cases rd; cases re
    exact op_eq pins s σ H _ _ v u Q I rx ry ⟨rfl, by rw [dec_bl]; exact h _ H (LeH.refl H) rep rfl⟩
  · cases rd; cases re
    exact op_eq pins s σ H _ _ v u Q I rx ry ⟨rfl, h _ H (LeH.refl H) rep rfl⟩
  · cases rd; cases re
    exact op_eq pins s σ H _ _ v u Q I rx ry ⟨rfl, h _ H (LeH.refl H) rep rfl⟩
  · cases rd; cases re
    exact op_eq pins s σ H _ _ v u Q I rx ry ⟨rfl, h _ H (LeH.refl H) rep rfl⟩
  · cases rd; cases re
    exact op_eq pins s σ H _ _ v u Q I rx ry ⟨rfl, h _ H (LeH.refl H) rep rfl⟩
  · obtain ⟨p, q, h1, h2, h3, h4, h⟩ := h
    exact op_eqD hu pins s σ H _ _ v u Q I rx ry ⟨p, q, h1.dp rep p _ x rd, h2.dp rep q _ y re, h3, h4, h _ H (LeH.refl H) rep rfl⟩
theorem od_ne (hu : X.A.units + 64 < cLine) : OpD X (compareOp .NotEq) (dEq true) := by
  refine ⟨dEq_mono true, fun pins s σ H x y v u Q I rx ry ⟨d, e, S, rep, rd, re, h⟩ => ?_⟩
  unfold dEq at h
  split at h
  · cases rd; cases re
    exact op_ne pins s σ H _ _ v u Q I rx ry ⟨rfl, by rw [dec_int]; exact h _ H (LeH.refl H) rep rfl⟩
  · cases rd; cases re
    exact op_ne pins s σ H _ _ v u Q I rx ry ⟨rfl, by rw [dec_str]; exact h _ H (LeH.refl H) rep rfl⟩
  · cases rd; cases re
    exact op_ne pins s σ H _ _ v u Q I rx ry ⟨rfl, by rw [dec_bl]; exact h _ H (LeH.refl H) rep rfl⟩
  · cases rd; cases re
    exact op_ne pins s σ H _ _ v u Q I rx ry ⟨rfl, h _ H (LeH.refl H) rep rfl⟩
  · cases rd; cases re
    exact op_ne pins s σ H _ _ v u Q I rx ry ⟨rfl, h _ H (LeH.refl H) rep rfl⟩
  · cases rd; cases re
    exact op_ne pins s σ H _ _ v u Q I rx ry ⟨rfl, h _ H (LeH.refl H) rep rfl⟩
  · cases rd; cases re
    exact op_ne pins s σ H _ _ v u Q I rx ry ⟨rfl, h _ H (LeH.refl H) rep rfl⟩
  · obtain ⟨p, q, h1, h2, h3, h4, h⟩ := h
    exact op_neD hu pins s σ H _ _ v u Q I rx ry ⟨p, q, h1.dp rep p _ x rd, h2.dp rep q _ y re, h3, h4, h _ H (LeH.refl H) rep rfl⟩
/-- is None, is not None -/
@[simp] def isNon : D → Bool
  | .non => true
  | _ => false
@[simp] def dIsN (neg : Bool) : R2D := fun d e S Q => match e with | .non => Q (.bl (if neg then !isNon d else isNon d)) S | _ => False
theorem rd_non {K : PySem.W.Frag} {H : Hp} {d : D} {v : V} (r : RD K H d v) : decide (v = .non) = isNon d := by
  cases d with
  | non => cases r; rfl
  | tup ds => obtain ⟨p, xs, rfl, _⟩ : ∃ p xs, v = V.ref p ∧ SqT K H p xs ∧ RDs K H ds xs := r; rfl
  | rol ds => obtain ⟨p, xs, rfl, _⟩ : ∃ p xs, v = V.ref p ∧ SqR K H p xs ∧ RDs K H ds xs := r; rfl
  | _ => cases r; rfl
theorem od_is : OpD X (compareOp .Is) (dIsN false) := by
  refine ⟨fun x y S Q Q' k h => ?_, fun pins s σ H x y v u Q I rx ry ⟨d, e, S, rep, rd, re, h⟩ => ?_⟩
  · cases y <;> first | exact h.elim | exact k _ _ h
  · cases e <;> first | exact h.elim | skip
    cases re
    exact op_isN pins s σ H _ _ v u Q I rx ry ⟨rfl, by rw [rd_non rd]; exact h _ H (LeH.refl H) rep rfl⟩
theorem od_isnt : OpD X (compareOp .IsNot) (dIsN true) := by
  refine ⟨fun x y S Q Q' k h => ?_, fun pins s σ H x y v u Q I rx ry ⟨d, e, S, rep, rd, re, h⟩ => ?_⟩
  · cases y <;> first | exact h.elim | exact k _ _ h
  · cases e <;> first | exact h.elim | skip
    cases re
    refine op_notN pins s σ H _ _ v u Q I rx ry ⟨rfl, ?_⟩
    rw [rd_non rd]
    exact h _ H (LeH.refl H) rep rfl
/-- in, not in: signs in a text; data in a list or tuple of data -/
def inP (p : PyData) (ps : List PyData) : Bool := ps.any fun z => PyData.eqv z p
@[simp] def dInS (neg : Bool) : R2D := fun d e S Q => match d, e with | .str x, .str y => Q (.bl (if neg then !(!(Builtin.Str.occurrences y x 0 y.length 1).isEmpty) else !(Builtin.Str.occurrences y x 0 y.length 1).isEmpty)) S | _, _ => False
theorem od_inS : OpD X (compareOp .In) (dInS false) := by
  refine ⟨fun x y S Q Q' k h => ?_, fun pins s σ H x y v u Q I rx ry ⟨d, e, S, rep, rd, re, h⟩ => ?_⟩
  · cases x <;> cases y <;> first | exact h.elim | exact k _ _ h
  · cases d <;> cases e <;> first | exact h.elim | skip
    cases rd; cases re
    exact op_in_str pins s σ H _ _ v u Q I rx ry ⟨_, _, rfl, rfl, h _ H (LeH.refl H) rep rfl⟩
theorem od_ninS : OpD X (compareOp .NotIn) (dInS true) := by
  refine ⟨fun x y S Q Q' k h => ?_, fun pins s σ H x y v u Q I rx ry ⟨d, e, S, rep, rd, re, h⟩ => ?_⟩
  · cases x <;> cases y <;> first | exact h.elim | exact k _ _ h
  · cases d <;> cases e <;> first | exact h.elim | skip
    cases rd; cases re
    exact op_notin_str pins s σ H _ _ v u Q I rx ry ⟨_, _, rfl, rfl, h _ H (LeH.refl H) rep rfl⟩
def dInL (neg : Bool) : R2D := fun d e S Q => ∃ p ps, Pd S d p ∧ Pd S e (.list ps) ∧ SeqAt.shaped p = true ∧ SeqAt.shaped (.list ps) = true ∧ Q (.bl (if neg then !inP p ps else inP p ps)) S
theorem od_inL (hu : X.A.units + 65 < cLine) : OpD X (compareOp .In) (dInL false) := by
  refine ⟨fun x y S Q Q' k ⟨p, q, h1, h2, h3, h4, h⟩ => ⟨p, q, h1, h2, h3, h4, k _ _ h⟩, fun pins s σ H x y v u Q I rx ry ⟨d, e, S, rep, rd, re, p, q, h1, h2, h3, h4, h⟩ => ?_⟩
  exact op_inD hu pins s σ H _ _ v u Q I rx ry ⟨p, q, h1.dp rep p d x rd, h2.dp rep _ e y re, h3, h4, h _ H (LeH.refl H) rep rfl⟩
theorem od_ninL (hu : X.A.units + 65 < cLine) : OpD X (compareOp .NotIn) (dInL true) := by
  refine ⟨fun x y S Q Q' k ⟨p, q, h1, h2, h3, h4, h⟩ => ⟨p, q, h1, h2, h3, h4, k _ _ h⟩, fun pins s σ H x y v u Q I rx ry ⟨d, e, S, rep, rd, re, p, q, h1, h2, h3, h4, h⟩ => ?_⟩
  exact op_notInD hu pins s σ H _ _ v u Q I rx ry ⟨p, q, h1.dp rep p d x rd, h2.dp rep _ e y re, h3, h4, h _ H (LeH.refl H) rep rfl⟩

/-! ### calls of built-ins -/
abbrev RCD := List D → DH → DK → Prop
def MonoC (r : RCD) : Prop := ∀ ds S (Q Q' : DK), (∀ d S', Q d S' → Q' d S') → r ds S Q → r ds S Q'
def upC (K : PySem.W.Frag) (r : RCD) : List V → Hp → VK → Prop := fun vs H Q => ∃ ds S, Rep K S H ∧ RDs K H ds vs ∧ r ds S (lQ K H Q)
structure CallD (X : Cx) (f : Value) (r : RCD) : Prop where
  mono : MonoC r
  run : CallR X f (upC X.K r)
@[simp] def dCB (r : RCD) (t : DTA) : DTE := fun E τ S Q => t E τ S fun ds S1 => r ds S1 Q
variable {x : Str} {p pos : Pos} {e : Expr} {es : List Expr} {t : DTA} {id T : String} {r : RCD}
theorem dCB_up (hr : MonoC r) (ha : DA X es t) {σ : L2.St} {H : Hp} {Q : VK} (h : upE X (dCB r t) σ H Q) : tCB (upC X.K r) (upA X t) σ H Q := by
  obtain ⟨E, τ, S, w, rl, q⟩ := h
  exact ha.to w rl q fun ds S1 vs H1 le w1 r1 rd h => ⟨ds, S1, r1.rep, rd, hr _ _ _ _ (fun d S' z v H' le2 rp rv => z v H' (le.trans le2) rp rv) h⟩
theorem de_callB (hc : CallD X (.builtin id) r) (hg : Gl X x) (hm : X.mg x = none) (hv : bootBuiltins x = some (.builtin id)) (ha : DA X (e :: es) t) (hn : x ≠ "__name__" := by decide) (hdb : (x == ("__debug__" : Str)) = false := by decide)
    (he : starEach (e :: es) X.env = (false, eval e X.env) :: starEach es X.env := by rfl) (hpl : (backTo pos (starEach es X.env)).any (·.1) = false := by rfl) : DE X (.Call (.Name x p) (e :: es) [] pos) (dCB r t) :=
  ⟨fun _ _ _ _ _ _ hE k q => ha.mono _ _ _ _ _ _ hE (fun _ _ z => hc.mono _ _ _ _ k z) q, pE_imp (pe_callB hc.run hg hm hv ha.run hn hdb he hpl) fun _ _ _ h => dCB_up hc.mono ha h⟩
theorem de_callTy (hc : CallD X (.type T) r) (hg : Gl X x) (hm : X.mg x = none) (hv : bootBuiltins x = some (.type T)) (ha : DA X (e :: es) t) (hn : x ≠ "__name__" := by decide) (hdb : (x == ("__debug__" : Str)) = false := by decide)
    (he : starEach (e :: es) X.env = (false, eval e X.env) :: starEach es X.env := by rfl) (hpl : (backTo pos (starEach es X.env)).any (·.1) = false := by rfl) : DE X (.Call (.Name x p) (e :: es) [] pos) (dCB r t) :=
  ⟨fun _ _ _ _ _ _ hE k q => ha.mono _ _ _ _ _ _ hE (fun _ _ z => hc.mono _ _ _ _ k z) q, pE_imp (pe_callTy hc.run hg hm hv ha.run hn hdb he hpl) fun _ _ _ h => dCB_up hc.mono ha h⟩
theorem rds1 {K : PySem.W.Frag} {H : Hp} {d : D} {vs : List V} (r : RDs K H [d] vs) : ∃ v, vs = [v] ∧ RD K H d v := by
  obtain ⟨v, _, rfl, h, rfl⟩ := r
  exact ⟨v, rfl, h⟩
theorem rds2 {K : PySem.W.Frag} {H : Hp} {d e : D} {vs : List V} (r : RDs K H [d, e] vs) : ∃ v u, vs = [v, u] ∧ RD K H d v ∧ RD K H e u := by
  obtain ⟨v, _, rfl, h, u, _, rfl, h2, rfl⟩ := r
  exact ⟨v, u, rfl, h, h2⟩
/-- repr -/
def cRepr : RCD := fun ds S Q => match ds with | [d] => ∃ p, Pd S d p ∧ p.showable = true ∧ p.depth ≤ 100 ∧ p.shown.length ≤ sizeLine ∧ Q (.str p.shown) S | _ => False
theorem noDict_pd {S : DH} : ∀ (p : PyData) (d : D), Pd S d p → p.hasDict = false
  | .none, _, h | .bool _, _, h | .int _, _, h | .str _, _, h => rfl
  | .tuple ps, _, h => by cases h with | tup hs => exact go ps _ hs
  | .list ps, _, h => by cases h with | rol hs => exact go ps _ hs | lst _ hs => exact go ps _ hs
  | .dict _, _, h => by cases h
where go : ∀ (ps : List PyData) (ds : List D), PdA S ds ps → PyData.hasDictAll ps = false
  | [], _, _ => rfl
  | p :: ps, _, h => by
    cases h with
    | cons h1 h2 =>
      show (PyData.hasDict p || PyData.hasDictAll ps) = false
      rw [noDict_pd p _ h1, go ps _ h2]
      rfl
theorem cd_repr (hu : X.A.units + 120 < cLine) (hg : X.A.guards = some []) : CallD X (.builtin "repr") cRepr := by
  refine ⟨fun ds S Q Q' k h => ?_, fun pins s σ H vs us Q I rv ⟨ds, S, rep, rd, h⟩ => ?_⟩
  · match ds, h with
    | [d], ⟨p, h1, h2, h3, h4, q⟩ => exact ⟨p, h1, h2, h3, h4, k _ _ q⟩
  · match ds, h with
    | [d], ⟨p, h1, h2, h3, h4, q⟩ =>
      obtain ⟨v, rfl, rd1⟩ := rds1 rd
      obtain ⟨u, rfl, ru⟩ := Vals.one rv
      have dp := h1.dp rep p d v rd1
      have q1 := q (.str p.shown) H (LeH.refl H) rep rfl
      obtain ⟨as, rr⟩ := Dp.reads I p v u dp ru
      cases h1 with
      | non => cases rd1; cases ru; exact PySem.P.repr_of_none ⟨.str _, H, I.tok _, ⟨_, rfl⟩, q1⟩
      | bl b => cases rd1; cases ru; exact PySem.P.repr_of_bool ⟨.str _, H, I.tok _, ⟨_, rfl⟩, by cases b <;> exact q1⟩
      | int i =>
        cases rd1
        obtain ⟨t, rfl⟩ := ru
        have hz : i.natAbs.log2 < 1920 := by simpa [PyData.showable] using h2
        exact PySem.P.repr_of_int hz ⟨.str _, H, I.tok _, ⟨_, rfl⟩, q1⟩
      | str z =>
        cases rd1
        obtain ⟨t, rfl⟩ := ru
        exact PySem.P.repr_of_str ⟨.str _, H, I.tok _, ⟨_, rfl⟩, q1⟩ h4
      | tup hs =>
        obtain ⟨a, xs, rfl, _⟩ : ∃ p xs, v = V.ref p ∧ SqT X.K H p xs ∧ RDs X.K H _ xs := rd1
        cases ru
        exact PySem.repr_of_reads' rr h2 (fun z => by rw [noDict_pd _ _ (.tup hs)] at z; cases z) hg (by omega) (fun _ _ e => e) (fun h' u tk hk => ⟨.str _, H, I.kept hk, ⟨_, rfl⟩, q1⟩) h4
      | rol hs =>
        obtain ⟨a, xs, rfl, _⟩ : ∃ p xs, v = V.ref p ∧ SqR X.K H p xs ∧ RDs X.K H _ xs := rd1
        cases ru
        exact PySem.repr_of_reads' rr h2 (fun z => by rw [noDict_pd _ _ (.rol hs)] at z; cases z) hg (by omega) (fun _ _ e => e) (fun h' u tk hk => ⟨.str _, H, I.kept hk, ⟨_, rfl⟩, q1⟩) h4
      | lst e hs =>
        cases rd1
        cases ru
        exact PySem.repr_of_reads' rr h2 (fun z => by rw [noDict_pd _ _ (.lst e hs)] at z; cases z) hg (by omega) (fun _ _ e => e) (fun h' u tk hk => ⟨.str _, H, I.kept hk, ⟨_, rfl⟩, q1⟩) h4
end
end Dt
set_option maxRecDepth 100000
set_option maxHeartbeats 4000000
/-! Dat5: subscripts, slices, dicts, built-ins, methods, what is walked. -/
namespace Dt
open PySem PySem.Spec L2

def opt {α : Type} (o : Option α) (k : α → Prop) : Prop := match o with | some x => k x | none => False
@[simp] theorem opt_some {α : Type} (x : α) (k : α → Prop) : opt (some x) k = k x := rfl
@[simp] theorem opt_none {α : Type} (k : α → Prop) : opt none k = False := rfl
theorem opt_mono {α : Type} {o : Option α} {k k' : α → Prop} (h : ∀ x, k x → k' x) (q : opt o k) : opt o k' := by
  cases o with
  | none => exact q
  | some x => exact h x q
theorem opt_ex {α : Type} {o : Option α} {k : α → Prop} (q : opt o k) : ∃ x, o = some x ∧ k x := by
  cases o with
  | none => exact q.elim
  | some x => exact ⟨x, rfl, q⟩

/-! ### keys -/
@[simp] def dkey : D → Option Key
  | .int i => some (.inl i)
  | .str x => some (.inr x)
  | _ => none
def dkeys : List D → Option (List Key)
  | [] => some []
  | d :: ds => match dkey d, dkeys ds with | some k, some ks => some (k :: ks) | _, _ => none
def tkey : D → Option (List Key)
  | .tup ds => dkeys ds
  | _ => none
section
variable {K : PySem.W.Frag} {S : DH} {H : Hp}
theorem dkey_rd {d : D} {k : Key} {v : V} (e : dkey d = some k) (r : RD K H d v) : v = kV k := by
  cases d <;> cases e <;> exact r
theorem dkeys_rd : ∀ {ds : List D} {ks : List Key} {vs : List V}, dkeys ds = some ks → RDs K H ds vs → vs = ks.map kV
  | [], _, _, e, r => by cases e; cases r; rfl
  | d :: ds, _, _, e, r => by
    obtain ⟨v, vs, rfl, r1, r2⟩ := r
    unfold dkeys at e
    cases e1 : dkey d with
    | none => rw [e1] at e; simp at e
    | some k =>
      cases e2 : dkeys ds with
      | none => rw [e1, e2] at e; simp at e
      | some ks =>
        rw [e1, e2] at e
        cases e
        rw [dkey_rd e1 r1, dkeys_rd e2 r2]
        rfl
/-- a key tuple of the heap: not one of the written part -/
def TrkT (K : PySem.W.Frag) (H : Hp) (d : D) (v : V) : Prop := ∃ p ks, v = .ref p ∧ tkey d = some ks ∧ H p = some (.tup (ks.map kV))
end
/-- the tuple that a value stands for is tracked itself -/
theorem sqT_split {K : PySem.W.Frag} {H : Hp} {p : Addr} {xs : List V} (h : SqT K H p xs) : H p = some (.tup xs) ∨ (∃ o, H p = some (.frz o (.tup xs))) ∨ ∃ (o : Obj) (its : Array Value) (n : Nat), K.lookup p = some o ∧ o.cls = .type "tuple" ∧ o.data = .seq its n ∧ its.size ≤ sizeLine ∧ Vals xs its.toList := by
  rcases h with (h | h) | h
  · exact .inl h
  · exact .inr (.inl h)
  · exact .inr (.inr h)

/-! ### o[i] -/
@[simp] def dIxS : R2D := fun d e S Q => match d, e with
  | .tup ds, .int i => opt (atI ds i) fun x => Q x S
  | .rol ds, .int i => opt (atI ds i) fun x => Q x S
  | .str z, .int i => z.length ≤ sizeLine ∧ opt (atI z.cps.toList i) fun c => Q (.str ⟨#[c]⟩) S
  | .ref a, e => (match S a with
    | some (.lst ds) => (match e with | .int i => opt (atI ds i) fun x => Q x S | _ => False)
    | some (.dK kvs) => opt (dkey e) fun k => opt (lk kvs k) fun x => Q x S
    | _ => False)
  | _, _ => False
def IxD (X : Cx) (r : R2D) : Prop := Mono2 r ∧ IxR X (upO X.K r)
theorem atI_of {K : PySem.W.Frag} {H : Hp} {ds : List D} {xs : List V} {i : Int} {d : D} (r : RDs K H ds xs) (e : atI ds i = some d) : ∃ v, atI xs i = some v ∧ RD K H d v := by
  unfold atI at e ⊢
  rw [← r.length]
  cases q : ixN ds.length i with
  | none => rw [q] at e; cases e
  | some j =>
    rw [q] at e
    exact r.get e
section
variable {X : Cx} {a b : Expr} {ta tb : DTE} {pos : Pos}
theorem ixD_any (hu : X.A.units + 1 < cLine) : IxD X dIxS := by
  refine ⟨fun x y S Q Q' k h => ?_, fun value slice pins s σ H x y v u Q I rx ry ⟨d, e, S, rep, rd, re, h⟩ hs => ?_⟩
  · cases x with
    | tup ds => cases y <;> first | exact h.elim | exact opt_mono (fun _ z => k _ _ z) h
    | rol ds => cases y <;> first | exact h.elim | exact opt_mono (fun _ z => k _ _ z) h
    | str z => cases y <;> first | exact h.elim | exact ⟨h.1, opt_mono (fun _ z => k _ _ z) h.2⟩
    | ref a =>
      revert h
      show (match S a with | some (.lst ds) => _ | some (.dK kvs) => _ | _ => False) → (match S a with | some (.lst ds) => _ | some (.dK kvs) => _ | _ => False)
      split
      · intro h
        cases y <;> first | exact h.elim | exact opt_mono (fun _ z => k _ _ z) h
      · exact fun h => opt_mono (fun _ z => opt_mono (fun _ z => k _ _ z) z) h
      · exact fun h => h
    | _ => exact h.elim
  · cases d with
    | tup ds =>
      cases e <;> first | exact h.elim | skip
      rename_i i
      cases re
      obtain ⟨p, xs, rfl, sq, rs⟩ : ∃ p xs, x = V.ref p ∧ SqT X.K H p xs ∧ RDs X.K H ds xs := rd
      obtain ⟨z, e1, q⟩ := opt_ex h
      obtain ⟨w, e2, rw2⟩ := atI_of rs e1
      exact ix_tup value slice pins s σ H _ _ v u Q I rx ry ⟨p, xs, i, w, rfl, rfl, sq, e2, q w H (LeH.refl H) rep rw2⟩ hs
    | rol ds =>
      cases e <;> first | exact h.elim | skip
      rename_i i
      cases re
      obtain ⟨p, xs, rfl, sq, rs⟩ : ∃ p xs, x = V.ref p ∧ SqR X.K H p xs ∧ RDs X.K H ds xs := rd
      obtain ⟨z, e1, q⟩ := opt_ex h
      obtain ⟨w, e2, rw2⟩ := atI_of rs e1
      exact ix_list value slice pins s σ H _ _ v u Q I rx ry ⟨p, xs, i, w, rfl, rfl, sq.l, e2, q w H (LeH.refl H) rep rw2⟩ hs
    | str z =>
      cases e <;> first | exact h.elim | skip
      rename_i i
      cases re
      cases rd
      obtain ⟨c, e1, q⟩ := opt_ex h.2
      exact ix_str value slice pins s σ H _ _ v u Q I rx ry ⟨z, i, c, rfl, rfl, h.1, e1, q _ H (LeH.refl H) rep rfl⟩ hs
    | ref a =>
      cases rd
      revert h
      show (match S a with | some (.lst ds) => _ | some (.dK kvs) => _ | _ => False) → _
      split
      · rename_i ds ea
        intro h
        cases e <;> first | exact h.elim | skip
        rename_i i
        cases re
        obtain ⟨xs, e0, rs⟩ : ∃ xs, H a = some (.lst xs) ∧ RDs X.K H ds xs := rep a _ ea
        obtain ⟨z, e1, q⟩ := opt_ex h
        obtain ⟨w, e2, rw2⟩ := atI_of rs e1
        exact ix_list value slice pins s σ H _ _ v u Q I rx ry ⟨a, xs, i, w, rfl, rfl, .of e0, e2, q w H (LeH.refl H) rep rw2⟩ hs
      · rename_i kvs ea
        intro h
        obtain ⟨ws, e0, rk⟩ : ∃ ws, H a = some (.dK ws) ∧ RKs X.K H kvs ws := rep a _ ea
        obtain ⟨k, ek, h⟩ := opt_ex h
        obtain ⟨z, el, q⟩ := opt_ex h
        obtain ⟨w, ew, rw2⟩ := rk.ss el
        have ey := dkey_rd ek re
        subst ey
        cases rx
        have g : DGet H a (kV k) (some w) := ew ▸ DGet.k e0
        exact PyProof.Rows.tail_any (dict_typeIs I g) PySem.F.slot_dict_getitem.lookup (d_getItem hu I g ry fun w' s3 I3 r3 => ⟨w, H, I3, r3, q w H (LeH.refl H) rep rw2⟩) hs
      · exact fun h => h.elim
    | _ => exact h.elim
theorem de_ix {r : R2D} (hr : IxD X r) (ha : DE X a ta) (hb : DE X b tb) (hs : PlainIx b := by exact fun _ _ => rfl) : DE X (.Subscript a b pos) (dOp r ta tb) :=
  ⟨fun _ _ _ _ _ _ he k q => dOp_mono ha hb hr.1 he k q, pE_imp (pe_ix hr.2 ha.run hb.run hs) fun _ _ _ h => dOp_up ha hb hr.1 h⟩
end

/-! ### o[i:j] -/
abbrev DTO := DW → DSt → DH → (Option Int → DH → Prop) → Prop
def upP (X : Cx) (t : DTO) : TO := fun σ H Q => ∃ E τ S, Wish X E H ∧ Rel X.K τ S σ H ∧ t E τ S fun o S' => ∀ H', LeH H H' → Rep X.K S' H' → Q o H'
structure DO (X : Cx) (e : Option Expr) (t : DTO) : Prop where
  mono : ∀ (E E' : DW) τ S (Q Q' : Option Int → DH → Prop), (∀ C fs τ S, E C fs τ S → E' C fs τ S) → (∀ d S', Q d S' → Q' d S') → t E τ S Q → t E' τ S Q'
  run : PO X e (upP X t)
@[simp] def dNoP : DTO := fun _ _ S Q => Q none S
@[simp] def dSoP (te : DTE) : DTO := fun E τ S Q => te E τ S fun d S' => match d with | .int i => Q (some i) S' | _ => False
section
variable {X : Cx} {e o : Expr} {lo hi : Option Expr} {te to : DTE} {tl th : DTO} {pos p2 : Pos}
theorem pP_imp {e : Option Expr} {t t' : TO} (h : PO X e t) (k : ∀ σ H Q, t' σ H Q → t σ H Q) : PO X e t' := ⟨fun pins s σ H Q I q => h.run pins s σ H Q I (k σ H Q q)⟩
theorem do_none : DO X none dNoP := ⟨fun _ _ _ _ _ _ _ k q => k _ _ q, pP_imp po_none fun σ H Q ⟨E, τ, S, w, r, q⟩ => q H (LeH.refl H) r.rep⟩
theorem do_some (h : DE X e te) : DO X (some e) (dSoP te) := by
  refine ⟨fun E E' τ S Q Q' he k q => h.mono _ _ _ _ _ _ he (fun d S' z => ?_) q, pP_imp (po_some h.run) fun σ H Q ⟨E, τ, S, w, r, q⟩ => ?_⟩
  · cases d <;> first | exact z.elim | exact k _ _ z
  · refine h.to w r q fun d S' v H' le w' r' rd z => ?_
    cases d <;> first | exact z.elim | skip
    exact ⟨_, rd, z H' le r'.rep⟩
theorem DO.lead {t : DTO} (h : DO X lo t) {E : DW} {τ : DSt} {S : DH} {σ : L2.St} {H : Hp} {Q0 : Option Int → DH → Prop} {Q : Option Int → Hp → Prop} (w : Wish X E H) (r : Rel X.K τ S σ H) (q : t E τ S Q0)
    (k : ∀ b S' H', LeH H H' → Wish X E H' → Rel X.K τ S' σ H' → Q0 b S' → Q b H') : upP X t σ H Q :=
  ⟨E, τ, S, w, r, h.mono _ _ _ _ _ _ (fun _ _ _ _ z => z) (fun d S' z H' le rp => k d S' H' le (w.le le) (r.le le rp) z) q⟩
def cutD (ds : List D) (lo hi : Option Int) : List D := (ds.drop (HT.sIx ds.length 0 lo)).take (HT.sIx ds.length ds.length hi - HT.sIx ds.length 0 lo)
theorem cut_rd {K : PySem.W.Frag} {H : Hp} {ds : List D} {xs : List V} (r : RDs K H ds xs) (lo hi : Option Int) : RDs K H (cutD ds lo hi) (cutV xs lo hi) := by
  unfold cutD cutV
  rw [r.length]
  exact (r.drop _).take _
@[simp] def dSl (to : DTE) (tl th : DTO) : DTE := fun E τ S Q => to E τ S fun d S1 => tl E τ S1 fun l S2 => th E τ S2 fun h S3 => match d with
  | .str z => z.length ≤ sizeLine ∧ Q (.str (cutS z l h)) S3
  | .tup ds => Q (.tup (cutD ds l h)) S3
  | .ref a => (match S3 a with | some (.lst ds) => newO S3 (.lst (cutD ds l h)) fun p S' => Q (.ref p) S' | _ => False)
  | .rol ds => newO S3 (.lst (cutD ds l h)) fun p S' => Q (.ref p) S'
  | _ => False
theorem de_sl (ho : DE X o to) (hl : DO X lo tl) (hh : DO X hi th) : DE X (.Subscript o (.Slice lo hi none p2) pos) (dSl to tl th) := by
  refine ⟨fun E E' τ S Q Q' he k q => ho.mono _ _ _ _ _ _ he (fun d S1 z => hl.mono _ _ _ _ _ _ he (fun l S2 z => hh.mono _ _ _ _ _ _ he (fun h S3 z => ?_) z) z) q,
    pE_imp (pe_slice (sl_list.or (sl_tupA.or sl_str)) ho.run hl.run hh.run) fun σ H Q ⟨E, τ, S, w, r, q⟩ => ?_⟩
  · cases d with
    | str x => exact ⟨z.1, k _ _ z.2⟩
    | tup ds => exact k _ _ z
    | rol ds => exact fun p hp => k _ _ (z p hp)
    | ref a =>
      revert z
      show (match S3 a with | some (.lst ds) => _ | _ => False) → (match S3 a with | some (.lst ds) => _ | _ => False)
      split
      · exact fun z p hp => k _ _ (z p hp)
      · exact fun z => z
    | _ => exact z
  · refine ho.to w r q fun d S1 x H1 le1 w1 r1 rd z => hl.lead w1 r1 z fun l S2 H2 le2 w2 r2 z => hh.lead w2 r2 z fun h S3 H3 le3 w3 r3 z => ?_
    have rd3 := rd.le (le2.trans le3)
    have le := le1.trans (le2.trans le3)
    cases d with
    | str x =>
      cases rd
      exact .inr (.inr ⟨_, rfl, z.1, z.2 _ H3 le r3.rep rfl⟩)
    | tup ds =>
      obtain ⟨p, xs, rfl, sq, rs⟩ : ∃ p xs, x = V.ref p ∧ SqT X.K H3 p xs ∧ RDs X.K H3 ds xs := rd3
      refine .inr (.inl ⟨p, xs, rfl, sq, fun ⟨h1, h2⟩ => z _ H3 le r3.rep ⟨p, xs, rfl, sq, ?_⟩, fun _ q hq => ?_⟩)
      · have : cutD ds l h = ds := by
          unfold cutD
          rw [rs.length, h1, h2, List.drop_zero, Nat.sub_zero, ← rs.length, List.take_length]
        rw [this]
        exact rs
      · exact z _ _ (le.trans (LeH.new hq)) (r3.rep.garb hq) ⟨q, _, rfl, .of upd_same, (cut_rd rs l h).le (LeH.new hq)⟩
    | rol ds =>
      obtain ⟨p, xs, rfl, sq, rs⟩ : ∃ p xs, x = V.ref p ∧ SqR X.K H3 p xs ∧ RDs X.K H3 ds xs := rd3
      refine .inl ⟨p, xs, rfl, sq.l, fun q hq => ?_⟩
      exact z q (r3.rep.free hq) _ _ (le.trans (LeH.new hq)) (r3.rep.new hq (o := .lst (cutD ds l h)) ⟨_, upd_same, (cut_rd rs l h).le (LeH.new hq)⟩) rfl
    | ref a =>
      cases rd
      revert z
      show (match S3 a with | some (.lst ds) => _ | _ => False) → _
      split
      · rename_i ds ea
        intro z
        obtain ⟨xs, e0, rs⟩ : ∃ xs, H3 a = some (.lst xs) ∧ RDs X.K H3 ds xs := r3.rep a _ ea
        refine .inl ⟨a, xs, rfl, .of e0, fun q hq => ?_⟩
        exact z q (r3.rep.free hq) _ _ (le.trans (LeH.new hq)) (r3.rep.new hq (o := .lst (cutD ds l h)) ⟨_, upd_same, (cut_rd rs l h).le (LeH.new hq)⟩) rfl
      · exact fun z => z.elim
    | _ => exact z.elim
end

/-! ### displays -/
section
variable {X : Cx} {es : List Expr} {t : DTA} {pos : Pos}
@[simp] def dTup (t : DTA) : DTE := fun E τ S Q => t E τ S fun ds S1 => ds.length ≤ sizeLine ∧ Q (.tup ds) S1
@[simp] def dLst (t : DTA) : DTE := fun E τ S Q => t E τ S fun ds S1 => ds.length ≤ sizeLine ∧ newO S1 (.lst ds) fun p S' => Q (.ref p) S'
theorem de_tup {x1} (h : DA X es t) : DE X (.Tuple es x1 pos) (dTup t) := by
  refine ⟨fun E E' τ S Q Q' he k q => h.mono _ _ _ _ _ _ he (fun ds S1 z => ⟨z.1, k _ _ z.2⟩) q, pE_imp (pe_tup h.run) fun σ H Q ⟨E, τ, S, w, r, q⟩ => ?_⟩
  refine h.to w r q fun ds S1 vs H1 le w1 r1 rd z => ⟨by rw [← rd.length]; exact z.1, fun p hp => ?_⟩
  exact z.2 _ _ (le.trans (LeH.new hp)) (r1.rep.garb hp) ⟨p, vs, rfl, .of upd_same, rd.le (LeH.new hp)⟩
theorem de_lst (h : DA X es t) : DE X (.List es pos) (dLst t) := by
  refine ⟨fun E E' τ S Q Q' he k q => h.mono _ _ _ _ _ _ he (fun ds S1 z => ⟨z.1, fun p hp => k _ _ (z.2 p hp)⟩) q, pE_imp (pe_lst h.run) fun σ H Q ⟨E, τ, S, w, r, q⟩ => ?_⟩
  refine h.to w r q fun ds S1 vs H1 le w1 r1 rd z => ⟨by rw [← rd.length]; exact z.1, fun p hp => ?_⟩
  exact z.2 p (r1.rep.free hp) _ _ (le.trans (LeH.new hp)) (r1.rep.new hp (o := .lst ds) ⟨vs, upd_same, rd.le (LeH.new hp)⟩) rfl
/-- {} with int and text keys; with keys that are tuples of such -/
@[simp] def dDnK : DTE := fun _ _ S Q => newO S (.dK []) fun p S' => Q (.ref p) S'
@[simp] def dDnT : DTE := fun _ _ S Q => newO S (.dT []) fun p S' => Q (.ref p) S'
theorem de_dnK : DE X (.Dict [] [] pos) dDnK := ⟨fun _ _ _ _ _ _ _ k q p hp => k _ _ (q p hp), pE_imp pe_dnewK fun σ H Q ⟨E, τ, S, w, r, q⟩ p hp => q p (r.rep.free hp) _ _ (LeH.new hp) (r.rep.new hp (o := .dK []) ⟨[], upd_same, rfl⟩) rfl⟩
theorem de_dnT : DE X (.Dict [] [] pos) dDnT := ⟨fun _ _ _ _ _ _ _ k q p hp => k _ _ (q p hp), pE_imp pe_dnewT fun σ H Q ⟨E, τ, S, w, r, q⟩ p hp => q p (r.rep.free hp) _ _ (LeH.new hp) (r.rep.new hp (o := .dT []) ⟨[], upd_same, rfl⟩) rfl⟩
/-- {k: v, ..}, the keys written texts -/
@[simp] def dPairs : List (Str × DTE) → DW → DSt → DH → (List (Key × D) → DH → Prop) → Prop
  | [], _, _, S, Q => Q [] S
  | (k, tv) :: r, E, τ, S, Q => tv E τ S fun d S1 => dPairs r E τ S1 fun kvs S2 => Q ((Sum.inr k, d) :: kvs) S2
def mergeD (kvs more : List (Key × D)) : List (Key × D) := more.foldl (fun acc kv => pt acc kv.1 kv.2) kvs
theorem merge_rk {K : PySem.W.Frag} {H : Hp} : ∀ {more kvs : List (Key × D)} {ms ws : List (Key × V)}, RKs K H more ms → RKs K H kvs ws → RKs K H (mergeD kvs more) (mergeK ws ms)
  | [], _, _, _, h, k => by cases h; exact k
  | (j, d) :: r, _, _, _, h, k => by
    obtain ⟨v, s, rfl, h1, h2⟩ := h
    show RKs K H (mergeD (pt _ j d) r) (mergeK (putK _ j v) s)
    exact merge_rk h2 (k.pt h1)
@[simp] def dDisp (prs : List (Str × DTE)) : DTE := fun E τ S Q => newO S (.dK []) fun p S1 => dPairs prs E τ S1 fun kvs S2 => S2 p = some (.dK []) ∧ Q (.ref p) (upo S2 p (.dK (mergeD [] kvs)))
inductive DPs (X : Cx) (pos : Pos) : List (Option Expr) → List Expr → List (Str × DTE) → Prop where
  | nil : DPs X pos [] [] []
  | cons {k : Str} {j : Nat} {kp : Pos} {v : Expr} {ks : List (Option Expr)} {vs : List Expr} {tv : DTE} {prs : List (Str × DTE)} : DE X v tv → DPs X pos ks vs prs → DPs X pos (some (.Constant (.str k) j kp) :: ks) (v :: vs) ((k, tv) :: prs)
def trsOf (X : Cx) (prs : List (Str × DTE)) : List (TE × TE) := prs.map fun q => (tC (.str q.1), upE X q.2)
theorem DPs.pps {ks : List (Option Expr)} {vs : List Expr} {prs : List (Str × DTE)} (h : DPs X pos ks vs prs) : PPs X pos ks vs (trsOf X prs) := by
  induction h with
  | nil => exact pps_nil
  | cons hv _ ih => exact pps_cons pe_str hv.run ih
theorem DPs.mono {ks : List (Option Expr)} {vs : List Expr} {prs : List (Str × DTE)} (h : DPs X pos ks vs prs) : ∀ (E E' : DW) τ S (Q Q' : List (Key × D) → DH → Prop), (∀ C fs τ S, E C fs τ S → E' C fs τ S) → (∀ d S', Q d S' → Q' d S') → dPairs prs E τ S Q → dPairs prs E' τ S Q' := by
  induction h with
  | nil => exact fun _ _ _ _ _ _ _ k q => k _ _ q
  | cons hv _ ih => exact fun _ _ _ _ _ _ he k q => hv.mono _ _ _ _ _ _ he (fun d S1 z => ih _ _ _ _ _ _ he (fun _ _ z => k _ _ z) z) q
theorem DPs.to {ks : List (Option Expr)} {vs : List Expr} {prs : List (Str × DTE)} (h : DPs X pos ks vs prs) : ∀ {E : DW} {τ : DSt} {S : DH} {σ : L2.St} {H : Hp} {Q0 : List (Key × D) → DH → Prop} {Q : List (V × V) → Hp → Prop}, Wish X E H → Rel X.K τ S σ H → dPairs prs E τ S Q0 →
    (∀ kvs S' (ws : List (Key × V)) H', LeH H H' → Wish X E H' → Rel X.K τ S' σ H' → RKs X.K H' kvs ws → kvs.length = prs.length → Q0 kvs S' → Q (ws.map fun kv => (kV kv.1, kv.2)) H') → tPairs (trsOf X prs) σ H Q := by
  induction h with
  | nil => exact fun w r q k => k [] _ [] _ (LeH.refl _) w r rfl rfl q
  | @cons kk j kp v ks vs tv prs hv _ ih =>
    intro E τ S σ H Q0 Q w r q k
    refine hv.to w r q fun d S1 x H1 le1 w1 r1 rd z => ih w1 r1 z fun kvs S2 ws H2 le2 w2 r2 rk hl z => ?_
    exact k ((Sum.inr kk, d) :: kvs) S2 ((Sum.inr kk, x) :: ws) H2 (le1.trans le2) w2 r2 ⟨x, ws, rfl, rd.le le2, rk⟩ (by simp [hl]) z
theorem de_disp {ks : List (Option Expr)} {vs : List Expr} {prs : List (Str × DTE)} (h : DPs X pos ks vs prs) (hall : ks.all (·.isSome) = true := by rfl) (hl : ks.length = vs.length := by rfl) (h0 : ks ≠ [] := by exact fun z => nomatch z) (h15 : ks.length ≤ 15 := by decide) (h16 : prs.length ≤ 15 := by decide) : DE X (.Dict ks vs pos) (dDisp prs) := by
  refine ⟨fun E E' τ S Q Q' he k q p hp => h.mono _ _ _ _ _ _ he (fun kvs S2 z => ⟨z.1, k _ _ z.2⟩) (q p hp), pE_imp (pe_disp h.pps hall hl h0 h15) fun σ H Q ⟨E, τ, S, w, r, q⟩ p hp => ?_⟩
  have le0 : LeH H (upd H p (.dK [])) := LeH.new hp
  have r0 : Rel X.K τ (upo S p (.dK [])) σ (upd H p (.dK [])) := r.le le0 (r.rep.new hp (o := .dK []) ⟨[], upd_same, rfl⟩)
  refine h.to (w.le le0) r0 (q p (r.rep.free hp)) fun kvs S2 ws H2 le2 w2 r2 rk hlen z => ?_
  obtain ⟨ws0, e0, rk0⟩ : ∃ ws, H2 p = some (.dK ws) ∧ RKs X.K H2 [] ws := r2.rep p _ z.1
  cases rk0
  have le3 : LeH H2 (upd H2 p (.dK (mergeK [] ws))) := LeH.put e0 trivial
  exact ⟨e0, ws, rfl, by rw [← rk.length, hlen]; exact h16, z.2 _ _ (le0.trans (le2.trans le3)) (r2.rep.put e0 trivial (o := .dK (mergeD [] kvs)) ⟨_, upd_same, (merge_rk rk (show RKs X.K H2 ([] : List (Key × D)) [] from rfl)).le le3⟩) rfl⟩
end

/-! ### o[i] = e -/
section
variable {X : Cx} {o i value : Expr} {to ti tv : DTE} {pos pos' : Pos}
/-- what the place's object becomes -/
@[simp] def putO (ob : Ob) (k v : D) : Option Ob := match ob, k with
  | .lst ds, .int i => (ixN ds.length i).map fun j => .lst (ds.set j v)
  | .dK kvs, k => (dkey k).bind fun kk => if kvs.length < sizeLine then some (.dK (pt kvs kk v)) else none
  | _, _ => none
@[simp] def dPut (to ti tv : DTE) : DTS := fun A τ S => tv A.xe τ S fun v S1 => to A.xe τ S1 fun d S2 => ti A.xe τ S2 fun k S3 => match d with
  | .ref a => opt (S3 a) fun ob => opt (putO ob k v) fun ob' => A.nx τ (upo S3 a ob')
  | _ => False
def rPutB : TSet := fun o i v H Q => rSetL o i v H Q ∨ ∃ a H4, o = .ref a ∧ DPut H a i v H4 ∧ Q H4
theorem set_both (hu : X.A.units + 1 < cLine) : PSet X rPutB := by
  intro pins s σ H o i v ov iv u Q I ro ri rv h
  rcases h with h | ⟨a, H4, rfl, g, q⟩
  · exact set_list pins s σ H o i v ov iv u Q I ro ri rv h
  · cases ro
    exact d_setItem hu I g ri rv fun s4 I4 => ⟨H4, I4, q⟩
theorem ds_put (hu : X.A.units + 1 < cLine) (ho : DE X o to) (hi : DE X i ti) (hv : DE X value tv) (hs : swapsWithSole [.Subscript o i pos'] value pos.line X.env = pure false := by rfl) (hw : swappedStores [.Subscript o i pos'] value X.env = pure none := by rfl)
    (h1 : (assignEach [.Subscript o i pos'] X.env).map (·.2) = [assign (.Subscript o i pos') X.env] := by rfl)
    (ha : ∀ v, assign (.Subscript o i pos') X.env v = (do let ov ← holding [v] (eval o X.env); let iv ← holding [v, ov] (eval i X.env); standAt pos'; holding [v, ov, iv] (setItem ov iv v); release [v, ov, iv] []) := by intro _; rfl) :
    DS X (.Assign [.Subscript o i pos'] value pos) (dPut to ti tv) := by
  refine ⟨fun A B τ S le q => hv.mono _ _ _ _ _ _ le.xe (fun v S1 z => ho.mono _ _ _ _ _ _ le.xe (fun d S2 z => hi.mono _ _ _ _ _ _ le.xe (fun k S3 z => ?_) z) z) q,
    pS_imp (ps_asg hv.run (pg_sub ho.run hi.run (set_both hu) ha) hs hw h1) fun D σ H ⟨E, τ, S, w, r, q⟩ => ?_⟩
  · cases d <;> first | exact z | exact opt_mono (fun _ z => opt_mono (fun _ z => le.nx _ _ z) z) z
  · refine hv.to w r q fun v S1 x H1 le1 w1 r1 rv z => ho.to w1 r1 z fun d S2 y H2 le2 w2 r2 rd z => hi.to w2 r2 z fun k S3 u H3 le3 w3 r3 rk z => ?_
    cases d with
    | ref a =>
      cases rd
      obtain ⟨ob, ea, z⟩ := opt_ex z
      obtain ⟨ob', eo, z⟩ := opt_ex z
      have rv3 := rv.le (le2.trans le3)
      have le := le1.trans (le2.trans le3)
      cases ob with
      | lst ds =>
        cases k with
        | int n =>
          cases rk
          obtain ⟨xs, e0, rs⟩ : ∃ xs, H3 a = some (.lst xs) ∧ RDs X.K H3 ds xs := r3.rep a _ ea
          have eo' : (ixN ds.length n).map (fun j => Ob.lst (ds.set j v)) = some ob' := eo
          cases ej : ixN ds.length n with
          | none =>
            rw [ej] at eo'
            cases eo'
          | some j =>
            rw [ej] at eo'
            cases eo'
            have le4 : LeH H3 (upd H3 a (.lst (xs.set j x))) := LeH.put e0 trivial
            exact .inl ⟨a, xs, n, j, rfl, rfl, e0, by rw [← rs.length]; exact ej, z _ _ (le.trans le4) (r3.le le4 (r3.rep.put e0 trivial (o := .lst (ds.set j v)) ⟨_, upd_same, (rs.set j rv3).le le4⟩))⟩
        | _ => cases eo
      | dK kvs =>
        obtain ⟨ws, e0, rk0⟩ : ∃ ws, H3 a = some (.dK ws) ∧ RKs X.K H3 kvs ws := r3.rep a _ ea
        have eo' : ((dkey k).bind fun kk => if kvs.length < sizeLine then some (Ob.dK (pt kvs kk v)) else none) = some ob' := by
          cases k <;> exact eo
        cases ek : dkey k with
        | none =>
          rw [ek] at eo'
          cases eo'
        | some kk =>
          rw [ek, Option.bind_some] at eo'
          split at eo'
          · rename_i hl
            cases eo'
            have eu := dkey_rd ek rk
            subst eu
            have le4 : LeH H3 (upd H3 a (.dK (putK ws kk x))) := LeH.put e0 trivial
            exact .inr ⟨a, _, rfl, DPut.k e0 (by rw [← rk0.length]; exact hl), z _ _ (le.trans le4) (r3.le le4 (r3.rep.put e0 trivial (o := .dK (pt kvs kk v)) ⟨_, upd_same, (rk0.pt rv3).le le4⟩))⟩
          · cases eo'
      | _ => cases k <;> cases eo
    | _ => exact z.elim
end
end Dt
set_option maxRecDepth 100000
set_option maxHeartbeats 4000000
/-! Dat6: built-ins by name, methods, what is walked, isinstance, names of the module. -/
namespace Dt
open PySem PySem.Spec L2

section
variable {X : Cx}
/-! ### calls -/
@[simp] def cLen : RCD := fun ds S Q => match ds with
  | [.str z] => z.length ≤ sizeLine ∧ Q (.int z.length) S
  | [.tup xs] => Q (.int xs.length) S
  | [.rol xs] => Q (.int xs.length) S
  | [.ref a] => (match S a with | some (.lst xs) => Q (.int xs.length) S | some (.dK kvs) => Q (.int kvs.length) S | _ => False)
  | _ => False
theorem cd_len : CallD X (.builtin "len") cLen := by
  refine ⟨fun ds S Q Q' k h => ?_, fun pins s σ H vs us Q I rv ⟨ds, S, rep, rd, h⟩ => ?_⟩
  · match ds, h with
    | [.str z], h => exact ⟨h.1, k _ _ h.2⟩
    | [.tup xs], h => exact k _ _ h
    | [.rol xs], h => exact k _ _ h
    | [.ref a], h =>
      revert h
      show (match S a with | some (.lst xs) => _ | some (.dK kvs) => _ | _ => False) → (match S a with | some (.lst xs) => _ | some (.dK kvs) => _ | _ => False)
      split
      · exact k _ _
      · exact k _ _
      · exact fun h => h
  · match ds, h with
    | [.str z], h =>
      obtain ⟨v, rfl, r⟩ := rds1 rd
      cases r
      exact call_len_str pins s σ H _ us Q I rv ⟨z, rfl, h.1, h.2 _ H (LeH.refl H) rep rfl⟩
    | [.tup xs], h =>
      obtain ⟨v, rfl, r⟩ := rds1 rd
      obtain ⟨p, ys, rfl, sq, rs⟩ : ∃ p ys, v = V.ref p ∧ SqT X.K H p ys ∧ RDs X.K H xs ys := r
      exact call_len_seq pins s σ H _ us Q I rv ⟨p, ys, rfl, .inr sq, by rw [← rs.length]; exact h _ H (LeH.refl H) rep rfl⟩
    | [.rol xs], h =>
      obtain ⟨v, rfl, r⟩ := rds1 rd
      obtain ⟨p, ys, rfl, sq, rs⟩ : ∃ p ys, v = V.ref p ∧ SqR X.K H p ys ∧ RDs X.K H xs ys := r
      exact call_len_seq pins s σ H _ us Q I rv ⟨p, ys, rfl, .inl sq.l, by rw [← rs.length]; exact h _ H (LeH.refl H) rep rfl⟩
    | [.ref a], h =>
      obtain ⟨v, rfl, r⟩ := rds1 rd
      cases r
      revert h
      show (match S a with | some (.lst xs) => _ | some (.dK kvs) => _ | _ => False) → _
      split
      · rename_i xs ea
        intro h
        obtain ⟨ys, e0, rs⟩ : ∃ ys, H a = some (.lst ys) ∧ RDs X.K H xs ys := rep a _ ea
        exact call_len_seq pins s σ H _ us Q I rv ⟨a, ys, rfl, .inl (.of e0), by rw [← rs.length]; exact h _ H (LeH.refl H) rep rfl⟩
      · rename_i kvs ea
        intro h
        obtain ⟨ws, e0, rk⟩ : ∃ ws, H a = some (.dK ws) ∧ RKs X.K H kvs ws := rep a _ ea
        exact call_lenD pins s σ H _ us Q I rv ⟨a, ws, rfl, e0, by rw [← rk.length]; exact h _ H (LeH.refl H) rep rfl⟩
      · exact fun h => h.elim
@[simp] def cMax2 : RCD := fun ds S Q => match ds with | [.int i, .int j] => Q (.int (if j > i then j else i)) S | _ => False
@[simp] def cMin2 : RCD := fun ds S Q => match ds with | [.int i, .int j] => Q (.int (if j < i then j else i)) S | _ => False
theorem cd_max2 (hc : X.calm = true) : CallD X (.builtin "max") cMax2 := by
  refine ⟨fun ds S Q Q' k h => ?_, fun pins s σ H vs us Q I rv ⟨ds, S, rep, rd, h⟩ => ?_⟩
  · match ds, h with | [.int i, .int j], h => exact k _ _ h
  · match ds, h with
    | [.int i, .int j], h =>
      obtain ⟨v, u, rfl, r1, r2⟩ := rds2 rd
      cases r1; cases r2
      exact call_max2 hc pins s σ H _ us Q I rv ⟨i, j, rfl, h _ H (LeH.refl H) rep rfl⟩
theorem cd_min2 (hc : X.calm = true) : CallD X (.builtin "min") cMin2 := by
  refine ⟨fun ds S Q Q' k h => ?_, fun pins s σ H vs us Q I rv ⟨ds, S, rep, rd, h⟩ => ?_⟩
  · match ds, h with | [.int i, .int j], h => exact k _ _ h
  · match ds, h with
    | [.int i, .int j], h =>
      obtain ⟨v, u, rfl, r1, r2⟩ := rds2 rd
      cases r1; cases r2
      exact call_min2 hc pins s σ H _ us Q I rv ⟨i, j, rfl, h _ H (LeH.refl H) rep rfl⟩
def cMinL : RCD := fun ds S Q => ∃ (a : Addr) (ns : List Int), ds = [.ref a] ∧ S a = some (.lst (ns.map D.int)) ∧ 0 < ns.length ∧ ∀ m, m ∈ ns → (∀ y, y ∈ ns → m ≤ y) → Q (.int m) S
def cMaxL : RCD := fun ds S Q => ∃ (a : Addr) (ns : List Int), ds = [.ref a] ∧ S a = some (.lst (ns.map D.int)) ∧ 0 < ns.length ∧ ∀ m, m ∈ ns → (∀ y, y ∈ ns → y ≤ m) → Q (.int m) S
theorem cd_minL (hc : X.calm = true) : CallD X (.builtin "min") cMinL := by
  refine ⟨fun ds S Q Q' k ⟨a, ns, e, h1, h2, h⟩ => ⟨a, ns, e, h1, h2, fun m hm hy => k _ _ (h m hm hy)⟩, fun pins s σ H vs us Q I rv ⟨ds, S, rep, rd, a, ns, e, h1, h2, h⟩ => ?_⟩
  subst e
  obtain ⟨v, rfl, r⟩ := rds1 rd
  cases r
  obtain ⟨ys, e0, rs⟩ : ∃ ys, H a = some (.lst ys) ∧ RDs X.K H (ns.map D.int) ys := rep a _ h1
  rw [RDs.ints.mp rs] at e0
  exact cr_min hc pins s σ H _ us Q I rv ⟨a, ns, rfl, .of e0, h2, fun m hm hy => h m hm hy _ H (LeH.refl H) rep rfl⟩
def cAll : RCD := fun ds S Q => ∃ (a : Addr) (bs : List Bool), ds = [.ref a] ∧ S a = some (.lst (bs.map D.bl)) ∧ Q (.bl (bs.all id)) S
def cAny : RCD := fun ds S Q => ∃ (a : Addr) (bs : List Bool), ds = [.ref a] ∧ S a = some (.lst (bs.map D.bl)) ∧ Q (.bl (bs.any id)) S
theorem cd_all (hc : X.calm = true) : CallD X (.builtin "all") cAll := by
  refine ⟨fun ds S Q Q' k ⟨a, ns, e, h1, h⟩ => ⟨a, ns, e, h1, k _ _ h⟩, fun pins s σ H vs us Q I rv ⟨ds, S, rep, rd, a, ns, e, h1, h⟩ => ?_⟩
  subst e
  obtain ⟨v, rfl, r⟩ := rds1 rd
  cases r
  obtain ⟨ys, e0, rs⟩ : ∃ ys, H a = some (.lst ys) ∧ RDs X.K H (ns.map D.bl) ys := rep a _ h1
  rw [RDs.bls.mp rs] at e0
  exact cr_all hc pins s σ H _ us Q I rv ⟨a, ns, rfl, .of e0, h _ H (LeH.refl H) rep rfl⟩
theorem cd_any (hc : X.calm = true) : CallD X (.builtin "any") cAny := by
  refine ⟨fun ds S Q Q' k ⟨a, ns, e, h1, h⟩ => ⟨a, ns, e, h1, k _ _ h⟩, fun pins s σ H vs us Q I rv ⟨ds, S, rep, rd, a, ns, e, h1, h⟩ => ?_⟩
  subst e
  obtain ⟨v, rfl, r⟩ := rds1 rd
  cases r
  obtain ⟨ys, e0, rs⟩ : ∃ ys, H a = some (.lst ys) ∧ RDs X.K H (ns.map D.bl) ys := rep a _ h1
  rw [RDs.bls.mp rs] at e0
  exact cr_any hc pins s σ H _ us Q I rv ⟨a, ns, rfl, .of e0, h _ H (LeH.refl H) rep rfl⟩
@[simp] def cList : RCD := fun ds S Q => match ds with
  | [.tup xs] => newO S (.lst xs) fun p S' => Q (.ref p) S'
  | [.rol xs] => newO S (.lst xs) fun p S' => Q (.ref p) S'
  | [.ref a] => (match S a with | some (.lst xs) => newO S (.lst xs) fun p S' => Q (.ref p) S' | _ => False)
  | _ => False
theorem cd_list : CallD X (.type "list") cList := by
  refine ⟨fun ds S Q Q' k h => ?_, fun pins s σ H vs us Q I rv ⟨ds, S, rep, rd, h⟩ => ?_⟩
  · match ds, h with
    | [.tup xs], h => exact fun p hp => k _ _ (h p hp)
    | [.rol xs], h => exact fun p hp => k _ _ (h p hp)
    | [.ref a], h =>
      revert h
      show (match S a with | some (.lst xs) => _ | _ => False) → (match S a with | some (.lst xs) => _ | _ => False)
      split
      · exact fun h p hp => k _ _ (h p hp)
      · exact fun h => h
  · match ds, h with
    | [.tup xs], h =>
      obtain ⟨v, rfl, r⟩ := rds1 rd
      obtain ⟨p, ys, rfl, sq, rs⟩ : ∃ p ys, v = V.ref p ∧ SqT X.K H p ys ∧ RDs X.K H xs ys := r
      exact call_list_of pins s σ H _ us Q I rv ⟨p, ys, rfl, .inr sq, fun l hl => rep_new (Q0 := fun _ _ => True) rep hl rs (h l (rep.free hl))⟩
    | [.rol xs], h =>
      obtain ⟨v, rfl, r⟩ := rds1 rd
      obtain ⟨p, ys, rfl, sq, rs⟩ : ∃ p ys, v = V.ref p ∧ SqR X.K H p ys ∧ RDs X.K H xs ys := r
      exact call_list_of pins s σ H _ us Q I rv ⟨p, ys, rfl, .inl sq.l, fun l hl => rep_new (Q0 := fun _ _ => True) rep hl rs (h l (rep.free hl))⟩
    | [.ref a], h =>
      obtain ⟨v, rfl, r⟩ := rds1 rd
      cases r
      revert h
      show (match S a with | some (.lst xs) => _ | _ => False) → _
      split
      · rename_i xs ea
        intro h
        obtain ⟨ys, e0, rs⟩ : ∃ ys, H a = some (.lst ys) ∧ RDs X.K H xs ys := rep a _ ea
        exact call_list_of pins s σ H _ us Q I rv ⟨a, ys, rfl, .inl (.of e0), fun l hl => rep_new (Q0 := fun _ _ => True) rep hl rs (h l (rep.free hl))⟩
      · exact fun h => h.elim
@[simp] def cTuple : RCD := fun ds S Q => match ds with
  | [.tup xs] => Q (.tup xs) S
  | [.rol xs] => Q (.tup xs) S
  | [.ref a] => (match S a with | some (.lst xs) => Q (.tup xs) S | _ => False)
  | _ => False
theorem cd_tuple : CallD X (.type "tuple") cTuple := by
  refine ⟨fun ds S Q Q' k h => ?_, fun pins s σ H vs us Q I rv ⟨ds, S, rep, rd, h⟩ => ?_⟩
  · match ds, h with
    | [.tup xs], h => exact k _ _ h
    | [.rol xs], h => exact k _ _ h
    | [.ref a], h =>
      revert h
      show (match S a with | some (.lst xs) => _ | _ => False) → (match S a with | some (.lst xs) => _ | _ => False)
      split
      · exact k _ _
      · exact fun h => h
  · match ds, h with
    | [.tup xs], h =>
      obtain ⟨v, rfl, r⟩ := rds1 rd
      obtain ⟨p, ys, rfl, sq, rs⟩ : ∃ p ys, v = V.ref p ∧ SqT X.K H p ys ∧ RDs X.K H xs ys := r
      exact call_tuple_of pins s σ H _ us Q I rv ⟨p, ys, rfl, .inr ⟨sq, h _ H (LeH.refl H) rep ⟨p, ys, rfl, sq, rs⟩⟩⟩
    | [.rol xs], h =>
      obtain ⟨v, rfl, r⟩ := rds1 rd
      obtain ⟨p, ys, rfl, sq, rs⟩ : ∃ p ys, v = V.ref p ∧ SqR X.K H p ys ∧ RDs X.K H xs ys := r
      exact call_tuple_of pins s σ H _ us Q I rv ⟨p, ys, rfl, .inl ⟨sq.l, fun l hl => rep_tup rep hl rs h⟩⟩
    | [.ref a], h =>
      obtain ⟨v, rfl, r⟩ := rds1 rd
      cases r
      revert h
      show (match S a with | some (.lst xs) => _ | _ => False) → _
      split
      · rename_i xs ea
        intro h
        obtain ⟨ys, e0, rs⟩ : ∃ ys, H a = some (.lst ys) ∧ RDs X.K H xs ys := rep a _ ea
        exact call_tuple_of pins s σ H _ us Q I rv ⟨a, ys, rfl, .inl ⟨.of e0, fun l hl => rep_tup rep hl rs h⟩⟩
      · exact fun h => h.elim
@[simp] def cInt : RCD := fun ds S Q => match ds with | [.int i] => Q (.int i) S | [.bl b] => Q (.int (if b then 1 else 0)) S | _ => False
theorem cd_int : CallD X (.type "int") cInt := by
  refine ⟨fun ds S Q Q' k h => ?_, fun pins s σ H vs us Q I rv ⟨ds, S, rep, rd, h⟩ => ?_⟩
  · match ds, h with
    | [.int i], h => exact k _ _ h
    | [.bl i], h => exact k _ _ h
  · match ds, h with
    | [.int i], h =>
      obtain ⟨v, rfl, r⟩ := rds1 rd
      cases r
      exact call_int1 pins s σ H _ us Q I rv (.inl ⟨i, rfl, h _ H (LeH.refl H) rep rfl⟩)
    | [.bl i], h =>
      obtain ⟨v, rfl, r⟩ := rds1 rd
      cases r
      exact call_int1 pins s σ H _ us Q I rv (.inr ⟨i, rfl, h _ H (LeH.refl H) rep rfl⟩)

/-! ### methods -/
abbrev RMD := D → List D → DH → DK → Prop
def MonoM (r : RMD) : Prop := ∀ d ds S (Q Q' : DK), (∀ d S', Q d S' → Q' d S') → r d ds S Q → r d ds S Q'
def upM (K : PySem.W.Frag) (r : RMD) : V → List V → Hp → VK → Prop := fun x vs H Q => ∃ d ds S, Rep K S H ∧ RD K H d x ∧ RDs K H ds vs ∧ r d ds S (lQ K H Q)
structure MtD (X : Cx) (id : String) (r : RMD) : Prop where
  mono : MonoM r
  run : MtR X id (upM X.K r)
@[simp] def tyD (T : String) (d : D) (S : DH) : Prop := match d with
  | .str _ => T = "str"
  | .rol _ => T = "list"
  | .ref a => (match S a with | some (.lst _) => T = "list" | some (.dK _) => T = "dict" | some (.dT _) => T = "dict" | _ => False)
  | _ => False
theorem tyD_v {K : PySem.W.Frag} {T : String} {d : D} {S : DH} {x : V} {H : Hp} (rep : Rep K S H) (r : RD K H d x) (h : tyD T d S) : tyV K T x H := by
  cases d with
  | str z => cases r; exact h
  | rol ds =>
    obtain ⟨p, ys, rfl, sq, rs⟩ : ∃ p ys, x = V.ref p ∧ SqR K H p ys ∧ RDs K H ds ys := r
    exact .inl ⟨h, ys, sq.l⟩
  | ref a =>
    cases r
    revert h
    show (match S a with | some (.lst _) => T = "list" | some (.dK _) => T = "dict" | some (.dT _) => T = "dict" | _ => False) → _
    split
    · rename_i xs ea
      obtain ⟨ys, e0, _⟩ : ∃ ys, H a = some (.lst ys) ∧ RDs K H xs ys := rep a _ ea
      exact fun h => .inl ⟨h, ys, .of e0⟩
    · rename_i xs ea
      obtain ⟨ys, e0, _⟩ : ∃ ys, H a = some (.dK ys) ∧ RKs K H xs ys := rep a _ ea
      exact fun h => .inr (.inr (.inl ⟨h, .inl ⟨ys, e0⟩⟩))
    · rename_i xs ea
      obtain ⟨ys, e0, _⟩ : ∃ ys, H a = some (.dT ys) ∧ RKs K H xs ys := rep a _ ea
      exact fun h => .inr (.inr (.inl ⟨h, .inr ⟨ys, e0⟩⟩))
    · exact fun h => h.elim
  | _ => exact h.elim
@[simp] def dBM (T : String) (r : RMD) (to : DTE) (t : DTA) : DTE := fun E τ S Q => to E τ S fun d S1 => tyD T d S1 ∧ t E τ S1 fun ds S2 => r d ds S2 Q
variable {o e : Expr} {es : List Expr} {to te : DTE} {t : DTA} {name : Str} {apos cpos pos p : Pos} {T id : String} {r : RMD}
theorem de_bm0 (pa : PlainAttrs T) (slot : Slot T name id) (hty : typeOf (.builtin id) = pure (.type "method_descriptor")) (hm : MtD X id r) (ho : DE X o to)
    (hbase : attributeBase o name X.env (eval o X.env) = eval o X.env := by rfl) (hline : (apos.endLine == cpos.line) = true := by rfl) : DE X (.Call (.Attribute o name apos) [] [] cpos) (dBM T r to dNil) := by
  refine ⟨fun E E' τ S Q Q' he k q => ho.mono _ _ _ _ _ _ he (fun d S1 z => ⟨z.1, hm.mono _ _ _ _ _ k z.2⟩) q, pE_imp (pe_bm0 pa slot hty hm.run ho.run hbase hline) fun σ H Q ⟨E, τ, S, w, rl, q⟩ => ?_⟩
  refine ho.to w rl q fun d S1 x H1 le1 w1 r1 rd z => ⟨tyD_v r1.rep rd z.1, d, [], S1, r1.rep, rd, .nil, hm.mono _ _ _ _ _ (fun z S' y v H' le rp rz => y v H' (le1.trans le) rp rz) z.2⟩
theorem de_bm (pa : PlainAttrs T) (slot : Slot T name id) (hty : typeOf (.builtin id) = pure (.type "method_descriptor")) (hm : MtD X id r) (ho : DE X o to) (ha : DA X (e :: es) t)
    (hbase : attributeBase o name X.env (eval o X.env) = eval o X.env := by rfl)
    (hfew : ((backTo cpos (starEach (e :: es) X.env)).all (fun x => !x.1) && (backToKw cpos (keywordEach [] X.env)).all (fun x => x.1.isSome) && decide ((e :: es).length + ([] : List Keyword).length + (if ([] : List Keyword).isEmpty then 0 else 1) < 30)) = true := by rfl)
    (hline : (apos.endLine == cpos.line) = true := by rfl) (hs : starEach (e :: es) X.env = (false, eval e X.env) :: starEach es X.env := by rfl) (hplain : (backTo cpos (starEach es X.env)).any (·.1) = false := by rfl) :
    DE X (.Call (.Attribute o name apos) (e :: es) [] cpos) (dBM T r to t) := by
  refine ⟨fun E E' τ S Q Q' he k q => ho.mono _ _ _ _ _ _ he (fun d S1 z => ⟨z.1, ha.mono _ _ _ _ _ _ he (fun ds S2 z => hm.mono _ _ _ _ _ k z) z.2⟩) q, pE_imp (pe_bm pa slot hty hm.run ho.run ha.run hbase hfew hline hs hplain) fun σ H Q ⟨E, τ, S, w, rl, q⟩ => ?_⟩
  refine ho.to w rl q fun d S1 x H1 le1 w1 r1 rd z => ⟨tyD_v r1.rep rd z.1, ha.to w1 r1 z.2 fun ds S2 vs H2 le2 w2 r2 rds z => ?_⟩
  exact ⟨d, ds, S2, r2.rep, rd.le le2, rds, hm.mono _ _ _ _ _ (fun z S' y v H' le rp rz => y v H' (le1.trans (le2.trans le)) rp rz) z⟩
/-- a method that changes the list at a -/
@[simp] def mLst (ds : List D) (d : D) (S : DH) (Q : List D → (List D → DH) → Prop) : Prop := match d with | .ref a => (match S a with | some (.lst xs) => Q xs fun ys => upo S a (.lst ys) | _ => False) | _ => False
@[simp] def mAppend : RMD := fun d ds S Q => mLst ds d S fun xs up => match ds with | [y] => xs.length < sizeLine ∧ Q .non (up (xs ++ [y])) | _ => False
theorem mLst_mono {ds : List D} {d : D} {S : DH} {Q Q' : List D → (List D → DH) → Prop} (k : ∀ a xs, d = .ref a → S a = some (.lst xs) → Q xs (fun ys => upo S a (.lst ys)) → Q' xs (fun ys => upo S a (.lst ys))) (h : mLst ds d S Q) : mLst ds d S Q' := by
  cases d with
  | ref a =>
    revert h
    show (match S a with | some (.lst xs) => _ | _ => False) → (match S a with | some (.lst xs) => _ | _ => False)
    split
    · rename_i xs ea
      exact k a xs rfl ea
    · exact fun h => h
  | _ => exact h
theorem mLst_ex {ds : List D} {d : D} {S : DH} {Q : List D → (List D → DH) → Prop} (h : mLst ds d S Q) : ∃ a xs, d = .ref a ∧ S a = some (.lst xs) ∧ Q xs fun ys => upo S a (.lst ys) := by
  cases d with
  | ref a =>
    revert h
    show (match S a with | some (.lst xs) => _ | _ => False) → _
    split
    · rename_i xs ea
      exact fun h => ⟨a, xs, rfl, ea, h⟩
    · exact fun h => h.elim
  | _ => exact h.elim
theorem md_append : MtD X "list.append" mAppend := by
  refine ⟨fun d ds S Q Q' k h => mLst_mono (fun a xs e1 e2 z => ?_) h, fun pins s σ H x vs v us Q I rx rv ⟨d, ds, S, rep, rd, rds, h⟩ => ?_⟩
  · match ds, z with | [y], z => exact ⟨z.1, k _ _ z.2⟩
  · obtain ⟨a, xs, rfl, ea, z⟩ := mLst_ex h
    match ds, z with
    | [y], z =>
      cases rd
      obtain ⟨u, rfl, ru⟩ := rds1 rds
      obtain ⟨ys, e0, rs⟩ : ∃ ys, H a = some (.lst ys) ∧ RDs X.K H xs ys := rep a _ ea
      have le : LeH H (upd H a (.lst (ys ++ [u]))) := LeH.put e0 trivial
      exact mt_append pins s σ H _ _ v us Q I rx rv ⟨a, ys, u, rfl, rfl, e0, by rw [← rs.length]; exact z.1, z.2 _ _ le (rep.put e0 trivial (o := .lst (xs ++ [y])) ⟨_, upd_same, (rs.snoc ru).le le⟩) rfl⟩
@[simp] def mExtend : RMD := fun d ds S Q => mLst ds d S fun xs up => match ds with | [.ref b] => (match S b with | some (.lst zs) => xs.length + zs.length ≤ sizeLine ∧ Q .non (up (xs ++ zs)) | _ => False) | _ => False
theorem md_extend : MtD X "list.extend" mExtend := by
  refine ⟨fun d ds S Q Q' k h => mLst_mono (fun a xs e1 e2 z => ?_) h, fun pins s σ H x vs v us Q I rx rv ⟨d, ds, S, rep, rd, rds, h⟩ => ?_⟩
  · match ds, z with
    | [.ref b], z =>
      revert z
      show (match S b with | some (.lst zs) => _ | _ => False) → (match S b with | some (.lst zs) => _ | _ => False)
      split
      · exact fun z => ⟨z.1, k _ _ z.2⟩
      · exact fun z => z
  · obtain ⟨a, xs, rfl, ea, z⟩ := mLst_ex h
    match ds, z with
    | [.ref b], z =>
      cases rd
      obtain ⟨u, rfl, ru⟩ := rds1 rds
      cases ru
      obtain ⟨ys, e0, rs⟩ : ∃ ys, H a = some (.lst ys) ∧ RDs X.K H xs ys := rep a _ ea
      revert z
      show (match S b with | some (.lst zs) => _ | _ => False) → _
      split
      · rename_i zs eb
        intro z
        obtain ⟨ws, e1, rs1⟩ : ∃ ys, H b = some (.lst ys) ∧ RDs X.K H zs ys := rep b _ eb
        have le : LeH H (upd H a (.lst (ys ++ ws))) := LeH.put e0 trivial
        exact mt_extend pins s σ H _ _ v us Q I rx rv ⟨a, b, ys, ws, rfl, rfl, e0, e1, by rw [← rs.length, ← rs1.length]; exact z.1, z.2 _ _ le (rep.put e0 trivial (o := .lst (xs ++ zs)) ⟨_, upd_same, (rs.append rs1).le le⟩) rfl⟩
      · exact fun z => z.elim
@[simp] def mPop : RMD := fun d ds S Q => mLst ds d S fun xs up => match ds with | [] => opt xs[xs.length - 1]? fun y => Q y (up xs.dropLast) | _ => False
theorem md_pop : MtD X "list.pop" mPop := by
  refine ⟨fun d ds S Q Q' k h => mLst_mono (fun a xs e1 e2 z => ?_) h, fun pins s σ H x vs v us Q I rx rv ⟨d, ds, S, rep, rd, rds, h⟩ => ?_⟩
  · match ds, z with | [], z => exact opt_mono (fun _ z => k _ _ z) z
  · obtain ⟨a, xs, rfl, ea, z⟩ := mLst_ex h
    match ds, z with
    | [], z =>
      cases rd
      cases rds
      obtain ⟨y, ey, z⟩ := opt_ex z
      obtain ⟨ys, e0, rs⟩ : ∃ ys, H a = some (.lst ys) ∧ RDs X.K H xs ys := rep a _ ea
      obtain ⟨u, eu, ru⟩ := rs.get ey
      have le : LeH H (upd H a (.lst ys.dropLast)) := LeH.put e0 trivial
      exact mt_pop pins s σ H _ _ v us Q I rx rv ⟨a, ys, u, rfl, rfl, e0, by rw [← rs.length]; exact eu, z _ _ le (rep.put e0 trivial (o := .lst xs.dropLast) ⟨_, upd_same, rs.dropLast.le le⟩) (ru.le le)⟩
@[simp] def mReverse : RMD := fun d ds S Q => mLst ds d S fun xs up => match ds with | [] => Q .non (up xs.reverse) | _ => False
theorem md_reverse : MtD X "list.reverse" mReverse := by
  refine ⟨fun d ds S Q Q' k h => mLst_mono (fun a xs e1 e2 z => ?_) h, fun pins s σ H x vs v us Q I rx rv ⟨d, ds, S, rep, rd, rds, h⟩ => ?_⟩
  · match ds, z with | [], z => exact k _ _ z
  · obtain ⟨a, xs, rfl, ea, z⟩ := mLst_ex h
    match ds, z with
    | [], z =>
      cases rd
      cases rds
      obtain ⟨ys, e0, rs⟩ : ∃ ys, H a = some (.lst ys) ∧ RDs X.K H xs ys := rep a _ ea
      have le : LeH H (upd H a (.lst ys.reverse)) := LeH.put e0 trivial
      exact mt_reverse pins s σ H _ _ v us Q I rx rv ⟨a, ys, rfl, rfl, e0, z _ _ le (rep.put e0 trivial (o := .lst xs.reverse) ⟨_, upd_same, rs.reverse.le le⟩) rfl⟩
def mJoin : RMD := fun d ds S Q => ∃ (a : Str) (p : Addr) (ys : List Str), d = .str a ∧ ds = [.ref p] ∧ S p = some (.lst (ys.map D.str)) ∧ (ys.map (·.length)).sum + ys.length * a.length ≤ 16777216 ∧ Q (.str (Txt.join a ys)) S
theorem md_join : MtD X "str.join" mJoin := by
  refine ⟨fun d ds S Q Q' k ⟨a, p, ys, e1, e2, h1, h2, h⟩ => ⟨a, p, ys, e1, e2, h1, h2, k _ _ h⟩, fun pins s σ H x vs v us Q I rx rv ⟨d, ds, S, rep, rd, rds, a, p, ys, e1, e2, h1, h2, h⟩ => ?_⟩
  subst e1 e2
  cases rd
  obtain ⟨u, rfl, ru⟩ := rds1 rds
  cases ru
  obtain ⟨ws, e0, rs⟩ : ∃ ws, H p = some (.lst ws) ∧ RDs X.K H (ys.map D.str) ws := rep p _ h1
  rw [RDs.strs.mp rs] at e0
  exact mt_join pins s σ H _ _ v us Q I rx rv ⟨a, p, ys, rfl, rfl, .inl (.of e0), h2, h _ H (LeH.refl H) rep rfl⟩
@[simp] def mFind : RMD := fun d ds S Q => match d, ds with | .str a, [.str b] => Q (.int (Txt.find a b)) S | _, _ => False
theorem md_find : MtD X "str.find" mFind := by
  refine ⟨fun d ds S Q Q' k h => ?_, fun pins s σ H x vs v us Q I rx rv ⟨d, ds, S, rep, rd, rds, h⟩ => ?_⟩
  · match d, ds, h with | .str a, [.str b], h => exact k _ _ h
  · match d, ds, h with
    | .str a, [.str b], h =>
      cases rd
      obtain ⟨u, rfl, ru⟩ := rds1 rds
      cases ru
      exact mt_find pins s σ H _ _ v us Q I rx rv ⟨a, b, rfl, rfl, h _ H (LeH.refl H) rep rfl⟩
end

/-! ### what is walked -/
section
variable {X : Cx} {tg l : Expr} {tl : DTE} {ta : DTA} {p pos : Pos}
def iAny (K : PySem.W.Frag) (tl : TE) : TI := fun σ H R => tl σ H fun x H1 => (∃ a, x = .ref a ∧ (∃ xs, SqL K H1 a xs) ∧ R (Itl K a) H1) ∨ (∃ a, x = .ref a ∧ (∃ xs, SqT K H1 a xs) ∧ R (Itt K a) H1) ∨ ∃ z, x = .str z ∧ R (Its z) H1
theorem pi_any {tl : TE} (hl : PE X l tl) : PI X tg l (iAny X.K tl) := by
  refine ⟨fun pins s σ H R I h => thn (hl.run pins s σ H _ I h) fun v s1 ⟨x, H1, I1, r1, q1⟩ => ?_⟩
  rcases q1 with ⟨a, rfl, ⟨xs, hq⟩, q⟩ | ⟨a, rfl, ⟨xs, hq⟩, q⟩ | ⟨z, rfl, q⟩
  · cases r1
    obtain ⟨its, rv, pl, hz⟩ := I1.list hq
    exact PySem.wpAny_pyIter_list pl.isList (pi_one (tk := s1.toks) I1 _ (turn_list a _) ⟨_, Heap.get?_push_size _ rfl, rfl, rfl⟩ q)
  · cases r1
    obtain ⟨its, rv, pl, hz⟩ := I1.tuple hq
    exact PySem.wpAny_pyIter_tuple (show s1.heap.IsTuple a its.toArray from pl) (pi_one (tk := s1.toks) I1 _ (turn_tuple a _) ⟨_, Heap.get?_push_size _ rfl, rfl, rfl⟩ q)
  · obtain ⟨t, rfl⟩ := r1
    cases ha : z.cps.all (· < 128)
    · exact PySem.wpAny_pyIter_wide ha (pi_one (tk := s1.toks) I1 _ (turn_str _ z t "str_iterator" (.inr rfl)) ⟨_, Heap.get?_push_size _ rfl, rfl, rfl⟩ q)
    · exact PySem.wpAny_pyIter_ascii ha (pi_one (tk := s1.toks) I1 _ (turn_str _ z t "str_ascii_iterator" (.inl rfl)) ⟨_, Heap.get?_push_size _ rfl, rfl, rfl⟩ q)
def signD (c : Nat) : D := .str ⟨#[c]⟩
@[simp] def dSeqI (tl : DTE) : DTI := fun E τ S R => tl E τ S fun d S1 => match d with
  | .tup ds => R (fun _ => True) ds S1
  | .rol ds => R (fun _ => True) ds S1
  | .str z => R (fun _ => True) (z.cps.toList.map signD) S1
  | .ref a => (match S1 a with | some (.lst ds) => R (fun S => S a = some (.lst ds)) ds S1 | _ => False)
  | _ => False
theorem feeds_seqL {K : PySem.W.Frag} {H0 : Hp} {a : Addr} {ds : List D} {G : DH → Prop} (h : ∀ S H, LeH H0 H → Rep K S H → G S → ∃ xs, SqL K H a xs ∧ RDs K H ds xs) : Feeds K H0 (Itl K a) G ds where
  go := fun i S H le rp g hi => by
    obtain ⟨xs, sq, rs⟩ := h S H le rp g
    exact ⟨xs, xs[i]'(by rw [← rs.length]; exact hi), sq, by simp⟩
  yld := fun i S H x H' le rp g hi ⟨e, y⟩ => by
    subst e
    obtain ⟨xs, sq, rs⟩ := h S _ le rp g
    obtain ⟨d, e, r⟩ := rs.got (y xs sq)
    exact ⟨LeH.refl _, rp, d, e, r⟩
  stop := fun S H le rp g => by
    obtain ⟨xs, sq, rs⟩ := h S H le rp g
    exact ⟨xs, sq, by rw [rs.length]; exact Nat.le_refl _⟩
theorem feeds_seqT {K : PySem.W.Frag} {H0 : Hp} {a : Addr} {ds : List D} {G : DH → Prop} (h : ∀ S H, LeH H0 H → Rep K S H → G S → ∃ xs, SqT K H a xs ∧ RDs K H ds xs) : Feeds K H0 (Itt K a) G ds where
  go := fun i S H le rp g hi => by
    obtain ⟨xs, sq, rs⟩ := h S H le rp g
    exact ⟨xs, xs[i]'(by rw [← rs.length]; exact hi), sq, by simp⟩
  yld := fun i S H x H' le rp g hi ⟨e, y⟩ => by
    subst e
    obtain ⟨xs, sq, rs⟩ := h S _ le rp g
    obtain ⟨d, e, r⟩ := rs.got (y xs sq)
    exact ⟨LeH.refl _, rp, d, e, r⟩
  stop := fun S H le rp g => by
    obtain ⟨xs, sq, rs⟩ := h S H le rp g
    exact ⟨xs, sq, by rw [rs.length]; exact Nat.le_refl _⟩
theorem feeds_str {K : PySem.W.Frag} {H0 : Hp} {z : Str} {G : DH → Prop} : Feeds K H0 (Its z) G (z.cps.toList.map signD) where
  go := fun i S H le rp g hi => by
    show i < z.cps.size
    simpa using hi
  yld := fun i S H x H' le rp g hi ⟨e, c, ec, ex⟩ => by
    subst e ex
    refine ⟨LeH.refl _, rp, signD c, ?_, rfl⟩
    rw [List.getElem?_map, Array.getElem?_toList, ec]
    rfl
  stop := fun S H le rp g => by
    show z.cps.size ≤ (z.cps.toList.map signD).length
    simp
theorem di_seq (hl : DE X l tl) : DI X tg l (dSeqI tl) := by
  refine ⟨fun E E' τ S Q Q' he k q => hl.mono _ _ _ _ _ _ he (fun d S1 z => ?_) q, pI_imp (pi_any hl.run) fun σ H R ⟨E, τ, S, w, r, q⟩ => ?_⟩
  · cases d with
    | tup ds => exact k _ _ _ z
    | rol ds => exact k _ _ _ z
    | str ds => exact k _ _ _ z
    | ref a =>
      revert z
      show (match S1 a with | some (.lst ds) => _ | _ => False) → (match S1 a with | some (.lst ds) => _ | _ => False)
      split
      · exact k _ _ _
      · exact fun z => z
    | _ => exact z
  · refine hl.to w r q fun d S1 x H1 le w1 r1 rd z => ?_
    cases d with
    | tup ds =>
      obtain ⟨p, ys, rfl, sq, rs⟩ : ∃ p ys, x = V.ref p ∧ SqT X.K H1 p ys ∧ RDs X.K H1 ds ys := rd
      exact .inr (.inl ⟨p, rfl, ⟨ys, sq⟩, z _ H1 le r1.rep (feeds_seqT fun S H le rp g => ⟨ys, sqT_le le sq, rs.le le⟩)⟩)
    | rol ds =>
      obtain ⟨p, ys, rfl, sq, rs⟩ : ∃ p ys, x = V.ref p ∧ SqR X.K H1 p ys ∧ RDs X.K H1 ds ys := rd
      exact .inl ⟨p, rfl, ⟨ys, sq.l⟩, z _ H1 le r1.rep (feeds_seqL fun S H le rp g => ⟨ys, (sq.le le).l, rs.le le⟩)⟩
    | str y =>
      cases rd
      exact .inr (.inr ⟨y, rfl, z _ H1 le r1.rep feeds_str⟩)
    | ref a =>
      cases rd
      revert z
      show (match S1 a with | some (.lst ds) => _ | _ => False) → _
      split
      · rename_i ds ea
        intro z
        obtain ⟨ys, e0, rs⟩ : ∃ ys, H1 a = some (.lst ys) ∧ RDs X.K H1 ds ys := r1.rep a _ ea
        exact .inl ⟨a, rfl, ⟨ys, .of e0⟩, z _ H1 le r1.rep (feeds_seqL fun S H le rp g => by
          obtain ⟨zs, e1, rz⟩ : ∃ ys, H a = some (.lst ys) ∧ RDs X.K H ds ys := rp a _ g
          exact ⟨zs, .of e1, rz⟩)⟩
      · exact fun z => z.elim
    | _ => exact z.elim
theorem feeds_rng {K : PySem.W.Frag} {H0 : Hp} {lo : Int} {n : Nat} {G : DH → Prop} : Feeds K H0 (Itr lo n) G ((List.range n).map fun i : Nat => D.int (lo + (i : Nat))) where
  go := fun i S H le rp g hi => by
    show i < n
    simpa using hi
  yld := fun i S H x H' le rp g hi ⟨e, ex⟩ => by
    subst e ex
    refine ⟨LeH.refl _, rp, .int (lo + (i : Nat)), ?_, rfl⟩
    have hi' : i < n := by simpa using hi
    rw [List.getElem?_map, List.getElem?_range hi']
    rfl
  stop := fun S H le rp g => by
    show n ≤ ((List.range n).map fun i : Nat => D.int (lo + (i : Nat))).length
    simp
def rngD (lo : Int) (n : Nat) : List D := (List.range n).map fun i : Nat => D.int (lo + (i : Nat))
@[simp] def dRng1 (ta : DTA) : DTI := fun E τ S R => ta E τ S fun ds S1 => match ds with | [.int j] => (-(2 ^ 62) ≤ j ∧ j < 2 ^ 62) ∧ R (fun _ => True) (rngD 0 j.toNat) S1 | _ => False
@[simp] def dRng2 (ta : DTA) : DTI := fun E τ S R => ta E τ S fun ds S1 => match ds with | [.int i, .int j] => (-(2 ^ 62) ≤ i ∧ i < 2 ^ 62 ∧ -(2 ^ 62) ≤ j ∧ j < 2 ^ 62) ∧ R (fun _ => True) (rngD i (j - i).toNat) S1 | _ => False
theorem di_rng1 {a : Expr} (hg : Gl X "range") (hm : X.mg "range" = none) (ha : DA X [a] ta) (hs : starEach [a] X.env = [(false, eval a X.env)] := by rfl) : DI X tg (.Call (.Name "range" p) [a] [] pos) (dRng1 ta) := by
  refine ⟨fun E E' τ S Q Q' he k q => ha.mono _ _ _ _ _ _ he (fun ds S1 z => ?_) q, pI_imp (pi_range1 hg hm ha.run hs) fun σ H R ⟨E, τ, S, w, r, q⟩ => ?_⟩
  · match ds, z with | [.int j], z => exact ⟨z.1, k _ _ _ z.2⟩
  · refine ha.to w r q fun ds S1 vs H1 le w1 r1 rd z => ?_
    match ds, z with
    | [.int j], z =>
      obtain ⟨v, rfl, rv⟩ := rds1 rd
      cases rv
      exact ⟨j, rfl, z.1.1, z.1.2, z.2 _ H1 le r1.rep feeds_rng⟩
theorem di_rng2 {a b : Expr} (hg : Gl X "range") (hm : X.mg "range" = none) (ha : DA X [a, b] ta) (hs : starEach [a, b] X.env = [(false, eval a X.env), (false, eval b X.env)] := by rfl) (hs2 : starEach [b] X.env = [(false, eval b X.env)] := by rfl) : DI X tg (.Call (.Name "range" p) [a, b] [] pos) (dRng2 ta) := by
  refine ⟨fun E E' τ S Q Q' he k q => ha.mono _ _ _ _ _ _ he (fun ds S1 z => ?_) q, pI_imp (pi_range2 hg hm ha.run hs hs2) fun σ H R ⟨E, τ, S, w, r, q⟩ => ?_⟩
  · match ds, z with | [.int i, .int j], z => exact ⟨z.1, k _ _ _ z.2⟩
  · refine ha.to w r q fun ds S1 vs H1 le w1 r1 rd z => ?_
    match ds, z with
    | [.int i, .int j], z =>
      obtain ⟨v, u, rfl, rv, ru⟩ := rds2 rd
      cases rv; cases ru
      exact ⟨i, j, rfl, z.1, z.2 _ H1 le r1.rep feeds_rng⟩
end

/-! ### isinstance by a built-in class; names of the module; chains; * -/
section
variable {X : Cx} {e : Expr} {te : DTE} {p p2 pos : Pos} {T : String}
def tyName (d : D) (S : DH) : Option String := match d with
  | .non => some "NoneType" | .bl _ => some "bool" | .int _ => some "int" | .str _ => some "str" | .tup _ => some "tuple" | .rol _ => some "list"
  | .ref a => (match S a with | some (.lst _) => some "list" | some (.dK _) => some "dict" | some (.dT _) => some "dict" | _ => none)
section
variable (S : DH)
@[simp] theorem tyName_non : tyName .non S = some "NoneType" := rfl
@[simp] theorem tyName_bl (b : Bool) : tyName (.bl b) S = some "bool" := rfl
@[simp] theorem tyName_int (b : Int) : tyName (.int b) S = some "int" := rfl
@[simp] theorem tyName_str (b : Str) : tyName (.str b) S = some "str" := rfl
@[simp] theorem tyName_tup (b : List D) : tyName (.tup b) S = some "tuple" := rfl
@[simp] theorem tyName_rol (b : List D) : tyName (.rol b) S = some "list" := rfl
theorem tyName_ref (a : Addr) : tyName (.ref a) S = (match S a with | some (.lst _) => some "list" | some (.dK _) => some "dict" | some (.dT _) => some "dict" | _ => none) := rfl
theorem tyName_lst {a : Addr} {xs : List D} (h : S a = some (.lst xs)) : tyName (.ref a) S = some "list" := by rw [tyName_ref, h]
end
@[simp] def isiB (a b : String) : Bool := a == b || (a == "bool" && b == "int")
theorem tyName_x {K : PySem.W.Frag} {d : D} {S : DH} {x : V} {H : Hp} {n : String} (rep : Rep K S H) (r : RD K H d x) (h : tyName d S = some n) : TyX K H x (.type n) := by
  cases d with
  | non => cases r; cases h; exact .base .non
  | bl b => cases r; cases h; exact .base (.bl b)
  | int b => cases r; cases h; exact .base (.int b)
  | str b => cases r; cases h; exact .base (.str b)
  | tup ds =>
    cases h
    obtain ⟨p, ys, rfl, sq, rs⟩ : ∃ p ys, x = V.ref p ∧ SqT K H p ys ∧ RDs K H ds ys := r
    rcases sqT_split sq with e | ⟨o, e⟩ | ⟨o, its, m, e, c, _⟩
    · exact .base (.tup e)
    · exact .fTuple e
    · exact .kTuple e c
  | rol ds =>
    cases h
    obtain ⟨p, ys, rfl, sq, rs⟩ : ∃ p ys, x = V.ref p ∧ SqR K H p ys ∧ RDs K H ds ys := r
    rcases sq with ⟨o, e⟩ | ⟨o, its, m, e, c, _⟩
    · exact .base (.frz e)
    · exact .kList e c
  | ref a =>
    cases r
    revert h
    show (match S a with | some (.lst _) => some "list" | some (.dK _) => some "dict" | some (.dT _) => some "dict" | _ => none) = some n → _
    split
    · rename_i xs ea
      obtain ⟨ys, e0, _⟩ : ∃ ys, H a = some (.lst ys) ∧ RDs K H xs ys := rep a _ ea
      intro h
      cases h
      exact .base (.lst e0)
    · rename_i xs ea
      obtain ⟨ys, e0, _⟩ : ∃ ys, H a = some (.dK ys) ∧ RKs K H xs ys := rep a _ ea
      intro h
      cases h
      exact .base (.dK e0)
    · rename_i xs ea
      obtain ⟨ys, e0, _⟩ : ∃ ys, H a = some (.dT ys) ∧ RKs K H xs ys := rep a _ ea
      intro h
      cases h
      exact .base (.dT e0)
    · intro h
      cases h
theorem kit_tab : (["NoneType", "bool", "int", "str", "tuple", "list", "dict"].all fun a => ["bool", "int", "str", "tuple", "list", "dict"].all fun b => decide (kitB a b = some (isiB a b))) = true := by decide +kernel
theorem tyName_mem {d : D} {S : DH} {n : String} (h : tyName d S = some n) : n ∈ ["NoneType", "bool", "int", "str", "tuple", "list", "dict"] := by
  cases d with
  | ref a =>
    revert h
    show (match S a with | some (.lst _) => some "list" | some (.dK _) => some "dict" | some (.dT _) => some "dict" | _ => none) = some n → _
    split <;> intro h <;> cases h <;> decide
  | _ => cases h; decide
@[simp] def dIsi (T : String) (te : DTE) : DTE := fun E τ S Q => te E τ S fun d S1 => opt (tyName d S1) fun n => Q (.bl (isiB n T)) S1
theorem de_isi {x : Str} (hT : T ∈ ["bool", "int", "str", "tuple", "list", "dict"]) (h : DE X e te) (hg : Gl X "isinstance") (hm : X.mg "isinstance" = none) (hgT : Gl X x) (hmT : X.mg x = none) (hvT : bootBuiltins x = some (.type T))
    (hn : x ≠ "__name__" := by decide) (hdb : (x == ("__debug__" : Str)) = false := by decide)
    (he : starEach (e :: [.Name x p2]) X.env = (false, eval e X.env) :: starEach [.Name x p2] X.env := by rfl) (he2 : starEach (.Name x p2 :: []) X.env = (false, eval (.Name x p2) X.env) :: starEach [] X.env := by rfl) (hpl : (backTo pos (starEach [.Name x p2] X.env)).any (·.1) = false := by rfl) :
    DE X (.Call (.Name "isinstance" p) [e, .Name x p2] [] pos) (dIsi T te) := by
  refine ⟨fun E E' τ S Q Q' hE k q => h.mono _ _ _ _ _ _ hE (fun d S1 z => opt_mono (fun _ z => k _ _ z) z) q,
    pE_imp (pe_callB call_isi hg hm PyProof.Rows.boot_isinstance (pa_cons h.run (pa_cons (pe_bltn (v := .ty T) hgT hmT hvT rfl hn hdb) pa_nil he2) he) (by decide) (by decide) he hpl) fun σ H Q ⟨E, τ, S, w, r, q⟩ => ?_⟩
  refine h.to w r q fun d S1 x H1 le w1 r1 rd z => ?_
  obtain ⟨n, en, z⟩ := opt_ex z
  have hk : kitB n T = some (isiB n T) := of_decide_eq_true (List.all_eq_true.mp (List.all_eq_true.mp kit_tab n (tyName_mem en)) T hT)
  exact ⟨x, .ty T, .type n, .type T, isiB n T, rfl, .ty T, tyName_x r1.rep rd en, kit_ty hk, z _ H1 le r1.rep rfl⟩
theorem de_gstr {x z : Str} {t : Tok} (hg : Gl X x) (hm : X.mg x = some (.str z t)) (hdb : (x == ("__debug__" : Str)) = false := by decide) : DE X (.Name x pos) (dC (.str z)) := de_c (pe_glob (v := .str z) hg hm ⟨t, rfl⟩ hdb) fun _ => rfl
theorem de_gint {x : Str} {z : Int} {t : Tok} (hg : Gl X x) (hm : X.mg x = some (.int z t)) (hdb : (x == ("__debug__" : Str)) = false := by decide) : DE X (.Name x pos) (dC (.int z)) := de_c (pe_glob (v := .int z) hg hm ⟨t, rfl⟩ hdb) fun _ => rfl
/-- a < b < c -/
@[simp] def dChain (r r' : R2D) (ta tb tc : DTE) : DTE := fun E τ S Q => ta E τ S fun x S1 => tb E τ S1 fun y S2 => r x y S2 fun z S3 => match z with
  | .bl k => if k = true then tc E τ S3 fun u S4 => r' y u S4 Q else Q (.bl false) S3
  | _ => False
end
end Dt
set_option maxRecDepth 100000
set_option maxHeartbeats 4000000
/-! Dat7: *, chains. -/
namespace Dt
open PySem PySem.Spec L2

@[simp] def dMul : R2D := fun d e S Q => match d, e with
  | .int i, .int j => CMulW i j ∧ Q (.int (i * j)) S
  | .str x, .int n => MulOk x n ∧ Q (.str (Txt.mul x n)) S
  | .ref a, .int n => (match S a with | some (.lst xs) => (-(2 ^ 63) ≤ n ∧ n < 2 ^ 63 ∧ xs.length * n.toNat ≤ sizeLine) ∧ newO S (.lst (List.replicate n.toNat xs).flatten) fun p S' => Q (.ref p) S' | _ => False)
  | _, _ => False
theorem RDs.rep {K : PySem.W.Frag} {H : Hp} {ds : List D} {vs : List V} (r : RDs K H ds vs) : ∀ n : Nat, RDs K H (List.replicate n ds).flatten (List.replicate n vs).flatten
  | 0 => by simp [RDs]
  | n + 1 => by
    rw [List.replicate_succ, List.replicate_succ, List.flatten_cons, List.flatten_cons]
    exact r.append (RDs.rep r n)
section
variable {X : Cx}
theorem od_mul : OpD X (binaryOp .Mult) dMul := by
  refine ⟨fun x y S Q Q' k h => ?_, fun pins s σ H x y v u Q I rx ry ⟨d, e, S, rep, rd, re, h⟩ => ?_⟩
  · cases x <;> cases y <;> first | exact h.elim | exact ⟨h.1, k _ _ h.2⟩ | skip
    rename_i a n
    revert h
    show (match S a with | some (.lst xs) => _ | _ => False) → (match S a with | some (.lst xs) => _ | _ => False)
    split
    · exact fun h => ⟨h.1, fun p hp => k _ _ (h.2 p hp)⟩
    · exact fun h => h
  · cases d <;> cases e <;> first | exact h.elim | skip
    · cases rd; cases re
      exact op_mulW pins s σ H _ _ v u Q I rx ry ⟨_, _, rfl, rfl, h.1, h.2 _ H (LeH.refl H) rep rfl⟩
    · cases rd; cases re
      obtain ⟨t, rfl⟩ := rx
      obtain ⟨t2, rfl⟩ := ry
      exact PySem.SB.mul h.1 fun t' k => ⟨.str _, H, I.tok _, ⟨_, rfl⟩, h.2 _ H (LeH.refl H) rep rfl⟩
    · rename_i a n
      cases rd; cases re
      revert h
      show (match S a with | some (.lst xs) => _ | _ => False) → _
      split
      · rename_i xs ea
        intro h
        obtain ⟨ys, e0, rs⟩ : ∃ ys, H a = some (.lst ys) ∧ RDs X.K H xs ys := rep a _ ea
        exact op_rep pins s σ H _ _ v u Q I rx ry ⟨a, n, ys, rfl, rfl, e0, h.1.1, h.1.2.1, by rw [← rs.length]; exact h.1.2.2, fun p hp => rep_new (Q0 := fun _ _ => True) rep hp (rs.rep _) (h.2 p (rep.free hp))⟩
      · exact fun h => h.elim
variable {a b c : Expr} {ta tb tc : DTE} {r r' : R2D} {pos : Pos}
theorem dChain_mono (ha : DE X a ta) (hb : DE X b tb) (hc : DE X c tc) (m : Mono2 r) (m' : Mono2 r') (E E' : DW) (τ : DSt) (S : DH) (Q Q' : DK) (he : ∀ C fs τ S, E C fs τ S → E' C fs τ S) (k : ∀ d S', Q d S' → Q' d S') (q : dChain r r' ta tb tc E τ S Q) : dChain r r' ta tb tc E' τ S Q' :=
  ha.mono _ _ _ _ _ _ he (fun x S1 z => hb.mono _ _ _ _ _ _ he (fun y S2 z => m _ _ _ _ _ (fun d S3 z => by
    cases d with
    | bl kk =>
      cases kk with
      | true => exact hc.mono _ _ _ _ _ _ he (fun u S4 z => m' _ _ _ _ _ k z) z
      | false => exact k _ _ z
    | _ => exact z) z) z) q
theorem dChain_up (ha : DE X a ta) (hb : DE X b tb) (hc : DE X c tc) (m : Mono2 r) (m' : Mono2 r') {σ : L2.St} {H : Hp} {Q : VK} (h : upE X (dChain r r' ta tb tc) σ H Q) : tChain (upO X.K r) (upO X.K r') (upE X ta) (upE X tb) (upE X tc) σ H Q := by
  obtain ⟨E, τ, S, w, rl, q⟩ := h
  refine ha.to w rl q fun x S1 v H1 le1 w1 r1 rx q1 => hb.to w1 r1 q1 fun y S2 u H2 le2 w2 r2 ry q2 => ?_
  refine ⟨x, y, S2, r2.rep, rx.le le2, ry, m _ _ _ _ _ (fun d S3 z => fun v3 H3 le3 rp3 rd3 => ?_) q2⟩
  cases d with
  | bl kk =>
    refine ⟨kk, rd3, ?_⟩
    have r3 : Rel X.K τ S3 σ H3 := r2.le le3 rp3
    cases kk with
    | false => exact z (.bl false) H3 (le1.trans (le2.trans le3)) rp3 rfl
    | true => exact hc.to (w2.le le3) r3 z fun e S4 v4 H4 le4 w4 r4 re q4 => ⟨y, e, S4, r4.rep, ry.le (le3.trans le4), re, m' _ _ _ _ _ (fun d S' y v H' le rp rd => y v H' (le1.trans (le2.trans (le3.trans (le4.trans le)))) rp rd) q4⟩
  | _ => exact z.elim
theorem de_chain {op op' : CmpOp} (ho : OpD X (compareOp op) r) (ho' : OpD X (compareOp op') r') (ha : DE X a ta) (hb : DE X b tb) (hc : DE X c tc) (hm : lastMarks [op, op'] [b, c] = false := by with_unfolding_all rfl) :
    DE X (.Compare a [op, op'] [b, c] pos) (dChain r r' ta tb tc) :=
  ⟨dChain_mono ha hb hc ho.mono ho'.mono, pE_imp (pe_chain ho.run ho'.run ha.run hb.run hc.run hm) fun _ _ _ h => dChain_up ha hb hc ho.mono ho'.mono h⟩
theorem dt_chain {op op' : CmpOp} (ho : OpD X (compareOp op) r) (ho' : OpD X (compareOp op') r') (ha : DE X a ta) (hb : DE X b tb) (hc : DE X c tc) (hm : lastMarks [op, op'] [b, c] = false := by with_unfolding_all rfl) :
    DT X (.Compare a [op, op'] [b, c] pos) (dTest (dChain r r' ta tb tc)) := by
  refine ⟨dTest_mono (de_chain ho ho' ha hb hc hm (pos := pos)), pT_imp (pt_chain ho.run ho'.run ha.run hb.run hc.run hm) fun σ H Q ⟨E, τ, S, w, rl, q⟩ => ?_⟩
  refine dChain_up ha hb hc ho.mono ho'.mono ⟨E, τ, S, w, rl, dChain_mono ha hb hc ho.mono ho'.mono _ _ _ _ _ _ (fun _ _ _ _ z => z) (fun d S' h v H' le rp rd => ?_) q⟩
  cases d with
  | bl b => exact ⟨b, rd, h H' le rp⟩
  | _ => exact h.elim
end
abbrev rSub : R2D := dII (fun _ _ => True) fun i j => .int (i - j)
abbrev rMod : R2D := dII (fun _ j => 0 < j) fun i j => .int (i % j)
abbrev rFdiv : R2D := dII CDivW fun i j => .int (i / j)
abbrev rPow : R2D := dII CPow fun i j => .int (i ^ j.toNat)
abbrev rLt : R2D := dII (fun _ _ => True) fun i j => .bl (decide (i < j))
abbrev rLe : R2D := dII (fun _ _ => True) fun i j => .bl (decide (i ≤ j))
abbrev rGt : R2D := dII (fun _ _ => True) fun i j => .bl (decide (j < i))
abbrev rGe : R2D := dII (fun _ _ => True) fun i j => .bl (decide (j ≤ i))
theorem hu_big {A : Around} {k : Nat} (hr : Room k A) : A.units + 120 < cLine := by
  have := hr.un
  omega
def SpMono (sp : DSp) : Prop := ∀ ds S (Q Q' : DK) (E E' : DXK), (∀ d S', Q d S' → Q' d S') → (∀ C fs S', E C fs S' → E' C fs S') → sp ds S Q E → sp ds S Q' E'
@[simp] def dNeg (te : DTE) : DTE := fun E τ S Q => te E τ S fun d S' => match d with | .int i => Q (.int (-i)) S' | _ => False
theorem de_neg {X : Cx} {e : Expr} {te : DTE} {pos : Pos} (h : DE X e te) : DE X (.UnaryOp .USub e pos) (dNeg te) := by
  refine ⟨fun E E' τ S Q Q' he k q => h.mono _ _ _ _ _ _ he (fun d S1 z => ?_) q, pE_imp (pe_un un_neg h.run) fun σ H Q ⟨E, τ, S, w, r, q⟩ => ?_⟩
  · cases d <;> first | exact z.elim | exact k _ _ z
  · refine h.to w r q fun d S' v H' le w' r' rd z => ?_
    cases d <;> first | exact z.elim | skip
    exact ⟨_, rd, z _ H' le r'.rep rfl⟩
end Dt
set_option maxRecDepth 100000
set_option maxHeartbeats 4000000
/-! Feed: the draws that each law has. -/
namespace Dt
open PySem PySem.Spec L2
theorem char_inj : ∀ (a b : List Char), a.map Char.toNat = b.map Char.toNat → a = b
  | [], [], _ => rfl
  | [], _ :: _, h => by simp at h
  | _ :: _, [], h => by simp at h
  | x :: a, y :: b, h => by
    simp only [List.map_cons, List.cons.injEq] at h
    rw [char_inj a b h.2]
    have : x = y := Char.ext (UInt32.toNat_inj.mp h.1)
    rw [this]
@[simp] theorem ofs_inj (a b : String) : (PySem.Str.ofString a = PySem.Str.ofString b) = (a = b) := by
  refine propext ⟨fun h => ?_, fun h => by rw [h]⟩
  rw [PySem.Str.ofString_eq_toList, PySem.Str.ofString_eq_toList] at h
  have h1 := congrArg (fun z : Str => z.cps.toList) h
  simp only at h1
  exact String.toList_inj.mp (char_inj _ _ (by simpa using h1))
theorem line3 : (3 : Nat) < sizeLine := by rw [sizeLine_eq]; decide
@[simp] theorem line_le (n : Nat) : (n ≤ sizeLine) = (n ≤ 16777216) := by rw [sizeLine_eq]
@[simp] theorem line_lt (n : Nat) : (n < sizeLine) = (n < 16777216) := by rw [sizeLine_eq]
def Bd (a : Nat) (i : Int) : Prop := i.natAbs < 2 ^ a
theorem Bd.mono {a b : Nat} {i : Int} (h : Bd a i) (l : a ≤ b) : Bd b i := Nat.lt_of_lt_of_le h (Nat.pow_le_pow_right (by decide) l)
theorem Bd.add {a : Nat} {i j : Int} (h : Bd a i) (k : Bd a j) : Bd (a + 1) (i + j) := by
  unfold Bd at *
  have := Int.natAbs_add_le i j
  rw [Nat.pow_succ]
  omega
theorem Bd.mul {a b : Nat} {i j : Int} (h : Bd a i) (k : Bd b j) : Bd (a + b) (i * j) := wide_lt h k
theorem Bd.mod {a : Nat} {i j : Int} (hj : 0 < j) (k : Bd a j) : Bd a (i % j) := by
  unfold Bd at *
  have h1 := Int.emod_nonneg i (show j ≠ 0 by omega)
  have h2 := Int.emod_lt_of_pos i hj
  omega
theorem Bd.cm {a b : Nat} {i j : Int} (h : Bd a i) (k : Bd b j) (ha : 0 < a := by decide) (hb : 0 < b := by decide) (l : a + b ≤ 1000000 := by decide) : CMulW i j := wide_mul h k ha hb l
theorem Bd.nat {a n : Nat} {i : Int} (h0 : 0 ≤ i) (h : i ≤ n) (hn : n < 2 ^ a) : Bd a i := by
  unfold Bd
  omega
def Ext (S S' : DH) : Prop := ∀ b o, S b = some o → S' b = some o
theorem Ext.refl (S : DH) : Ext S S := fun _ _ h => h
theorem Ext.trans {S S1 S2 : DH} (a : Ext S S1) (b : Ext S1 S2) : Ext S S2 := fun x o h => b x o (a x o h)
theorem Ext.new {S : DH} {p : Addr} {o : Ob} (h : S p = none) : Ext S (upo S p o) := fun b u e => by
  rw [upo_ne (fun z => by subst z; rw [h] at e; cases e)]
  exact e
theorem Ext.put {S S1 : DH} {p : Addr} {o : Ob} (e : Ext S S1) (h : S p = none) : Ext S (upo S1 p o) := fun b u z => by
  rw [upo_ne (fun y => by subst y; rw [h] at z; cases z)]
  exact e b u z
theorem Ext.free {S S' : DH} (e : Ext S S') {p : Addr} (h : S' p = none) : S p = none := by
  cases q : S p with
  | none => rfl
  | some o => rw [e p o q] at h; cases h
theorem ne_fresh {S : DH} {p q : Addr} {o : Ob} (h : S p = some o) (h' : S q = none) : p ≠ q := fun z => by
  subst z
  rw [h] at h'
  cases h'
/-- a feed after at most n draws -/
def FeedOb (n : Nat) (o : Ob) : Prop := ∃ l s d : Int, o = .dK [(.inr "left", .int l), (.inr "seed", .int s), (.inr "drawn", .int d)] ∧ 0 ≤ l ∧ 0 ≤ s ∧ s < 1000003 ∧ 0 ≤ d ∧ d ≤ n
theorem FeedOb.more {n m : Nat} {o : Ob} (h : FeedOb n o) (l : n ≤ m) : FeedOb m o := by
  obtain ⟨a, s, d, e, h1, h2, h3, h4, h5⟩ := h
  exact ⟨a, s, d, e, h1, h2, h3, h4, by omega⟩
def sp_l_next : DSp := fun ds S Q _ => ∃ (p : Addr) (m : Int) (n : Nat) (o : Ob), ds = [.ref p, .int m] ∧ 0 < m ∧ m < 2 ^ 100 ∧ S p = some o ∧ FeedOb n o ∧ n < 2 ^ 100 ∧
  ∀ v o', 0 ≤ v → v < m → FeedOb (n + 1) o' → Q (.int v) (upo S p o')
theorem sp_l_next_mono : SpMono sp_l_next := fun ds S Q Q' E E' k _ ⟨p, m, n, o, h1, h2, h3, h4, h5, h6, h⟩ => ⟨p, m, n, o, h1, h2, h3, h4, h5, h6, fun v o' a b c => k _ _ (h v o' a b c)⟩
def cellZ (ns : List Int) (k : Nat) : Int := if k < ns.length then ns.getD k 0 else (if 0 < ns.length then ns.getD (k % ns.length) 0 else 0) % 1000003 * 48271 + 7919 * k + 1
def sp_l_cell_at : DSp := fun ds S Q _ => ∃ (ns : List Int) (k : Nat), ds = [.rol (ns.map D.int), .int k] ∧ k < 2 ^ 100 ∧ Q (.int (cellZ ns k)) S
theorem sp_l_cell_at_mono : SpMono sp_l_cell_at := fun ds S Q Q' E E' k _ ⟨ns, j, h1, h2, h⟩ => ⟨ns, j, h1, h2, k _ _ h⟩
def sp_l_feed : DSp := fun ds S Q _ => ∃ c : Int, ds = [.int c] ∧ ∀ p S1 o, S p = none → S1 p = some o → Ext S S1 → FeedOb 0 o → Q (.ref p) S1
theorem sp_l_feed_mono : SpMono sp_l_feed := fun ds S Q Q' E E' k _ ⟨c, h1, h⟩ => ⟨c, h1, fun p S1 o a b d e => k _ _ (h p S1 o a b d e)⟩
end Dt
set_option maxRecDepth 100000
set_option maxHeartbeats 4000000
/-! Dat8: loops by invariants. -/
namespace Dt
open PySem PySem.Spec L2
theorem loop_go {g : DTG} {tb : DTS} {A : DEnds} {G : DH → Prop} (ds : List D) (I : Nat → DSt → DH → Prop) (hG : ∀ i τ S, i ≤ ds.length → I i τ S → G S)
    (hs : ∀ i d τ S (N : DSt → DH → Prop), ds[i]? = some d → I i τ S → (∀ τ' S', I (i + 1) τ' S' → N τ' S') → g d τ S fun τ1 S1 => tb { A with nx := N, ct := N, bk := A.nx } τ1 S1)
    (hd : ∀ τ S, I ds.length τ S → A.nx τ S) : ∀ (m i : Nat) (τ : DSt) (S : DH), i + m = ds.length → I i τ S → dLoop g tb A G (ds.drop i) τ S
  | 0, i, τ, S, e, h => by
    have e' : i = ds.length := by omega
    subst e'
    rw [List.drop_length]
    exact ⟨hG _ _ _ (Nat.le_refl _) h, hd _ _ h⟩
  | m + 1, i, τ, S, e, h => by
    have hi : i < ds.length := by omega
    have ed : ds[i]? = some ds[i] := List.getElem?_eq_getElem hi
    rw [drop_at ed]
    exact ⟨hG _ _ _ (by omega) h, hs i _ τ S _ ed h fun τ' S' h' => loop_go ds I hG hs hd m (i + 1) τ' S' (by omega) h'⟩
theorem loop_inv {g : DTG} {tb : DTS} {A : DEnds} {G : DH → Prop} {ds : List D} {τ : DSt} {S : DH} (I : Nat → DSt → DH → Prop) (h0 : I 0 τ S) (hG : ∀ i τ S, i ≤ ds.length → I i τ S → G S)
    (hs : ∀ i d τ S (N : DSt → DH → Prop), ds[i]? = some d → I i τ S → (∀ τ' S', I (i + 1) τ' S' → N τ' S') → g d τ S fun τ1 S1 => tb { A with nx := N, ct := N, bk := A.nx } τ1 S1)
    (hd : ∀ τ S, I ds.length τ S → A.nx τ S) : dLoop g tb A G ds τ S := by
  have := loop_go ds I hG hs hd ds.length 0 τ S (by omega) h0
  rwa [List.drop_zero] at this
/-- a comprehension's loop: I by the turn and the heap (the new list at p within) -/
theorem lc_go {g : DTG} {tt : DTT} {te : DTE} {E : DW} {τ : DSt} {G : DH → Prop} {p : Addr} {Q : DH → Prop} (ds : List D) (I : Nat → DH → Prop) (hG : ∀ i S, i ≤ ds.length → I i S → G S)
    (hs : ∀ i d S (N : DH → Prop), ds[i]? = some d → I i S → (∀ S', I (i + 1) S' → N S') → g d τ S fun τ1 S1 => tt E τ1 S1 fun b S2 => if b = true then te E τ1 S2 fun y S3 => (match S3 p with | some (.lst acc) => acc.length < sizeLine ∧ N (upo S3 p (.lst (acc ++ [y]))) | _ => False) else N S2)
    (hd : ∀ S, I ds.length S → Q S) : ∀ (m i : Nat) (S : DH), i + m = ds.length → I i S → dLcL g tt te E τ G p Q (ds.drop i) S
  | 0, i, S, e, h => by
    have e' : i = ds.length := by omega
    subst e'
    rw [List.drop_length]
    exact ⟨hG _ _ (Nat.le_refl _) h, hd _ h⟩
  | m + 1, i, S, e, h => by
    have hi : i < ds.length := by omega
    have ed : ds[i]? = some ds[i] := List.getElem?_eq_getElem hi
    rw [drop_at ed]
    exact ⟨hG _ _ (by omega) h, hs i _ S _ ed h fun S' h' => lc_go ds I hG hs hd m (i + 1) S' (by omega) h'⟩
theorem lc_inv {g : DTG} {tt : DTT} {te : DTE} {E : DW} {τ : DSt} {G : DH → Prop} {p : Addr} {Q : DH → Prop} {ds : List D} {S : DH} (I : Nat → DH → Prop) (h0 : I 0 S) (hG : ∀ i S, i ≤ ds.length → I i S → G S)
    (hs : ∀ i d S (N : DH → Prop), ds[i]? = some d → I i S → (∀ S', I (i + 1) S' → N S') → g d τ S fun τ1 S1 => tt E τ1 S1 fun b S2 => if b = true then te E τ1 S2 fun y S3 => (match S3 p with | some (.lst acc) => acc.length < sizeLine ∧ N (upo S3 p (.lst (acc ++ [y]))) | _ => False) else N S2)
    (hd : ∀ S, I ds.length S → Q S) : dLcL g tt te E τ G p Q ds S := by
  have := lc_go (g := g) (tt := tt) (te := te) (E := E) (τ := τ) (p := p) (Q := Q) ds I hG hs hd ds.length 0 S (by omega) h0
  rwa [List.drop_zero] at this
/-- the elements' making changes nothing: [f d for d in ds if c d] -/
theorem lc_pure {g : DTG} {tt : DTT} {te : DTE} {E : DW} {τ : DSt} {G : DH → Prop} {p : Addr} {Q : DH → Prop} {S : DH} (c : D → Bool) (f : D → D) : ∀ (ds acc : List D), (∀ acc, G (upo S p (.lst acc))) →
    (∀ d ∈ ds, ∀ acc (N M : DH → Prop), (c d = true → N (upo S p (.lst (acc ++ [f d])))) → (c d = false → M (upo S p (.lst acc))) → acc.length < sizeLine →
      g d τ (upo S p (.lst acc)) fun τ1 S1 => tt E τ1 S1 fun b S2 => if b = true then te E τ1 S2 fun y S3 => (match S3 p with | some (.lst acc) => acc.length < sizeLine ∧ N (upo S3 p (.lst (acc ++ [y]))) | _ => False) else M S2) →
    acc.length + ds.length < sizeLine → Q (upo S p (.lst (acc ++ (ds.filter c).map f))) → dLcL g tt te E τ G p Q ds (upo S p (.lst acc))
  | [], acc, hG, hs, hl, hq => ⟨hG acc, by simpa using hq⟩
  | d :: ds, acc, hG, hs, hl, hq => by
    refine ⟨hG acc, hs d (List.mem_cons_self ..) acc _ _ (fun hc => ?_) (fun hc => ?_) (by rw [List.length_cons] at hl; omega)⟩
    · refine lc_pure c f ds (acc ++ [f d]) hG (fun d' hd' => hs d' (List.mem_cons_of_mem _ hd')) (by simp at hl ⊢; omega) ?_
      rw [List.filter_cons, if_pos hc, List.map_cons] at hq
      rw [List.append_assoc]
      exact hq
    · refine lc_pure c f ds acc hG (fun d' hd' => hs d' (List.mem_cons_of_mem _ hd')) (by simp at hl ⊢; omega) ?_
      rw [List.filter_cons, if_neg (by rw [hc]; decide)] at hq
      exact hq
theorem upo_id {S : DH} {p : Addr} {o : Ob} (h : S p = some o) : upo S p o = S := by
  funext b
  unfold upo
  split
  · rename_i e
    rw [e, h]
  · rfl
theorem opt_at {α : Type} {xs : List α} {i : Int} {k : α → Prop} (h0 : 0 ≤ i) (h1 : i < xs.length) (h : ∀ d ∈ xs, k d) : opt (atI xs i) k := by
  obtain ⟨j, rfl⟩ := Int.eq_ofNat_of_zero_le h0
  have hj : j < xs.length := by omega
  rw [atI_nat (List.getElem?_eq_getElem hj)]
  exact h _ (List.getElem_mem hj)
/-- a new object, by what is known of it -/
theorem newO_of {S : DH} {o : Ob} {Q : Addr → DH → Prop} (h : ∀ p S1, S p = none → S1 p = some o → Ext S S1 → (∀ b, b ≠ p → S1 b = S b) → Q p S1) : newO S o Q := fun p hp => h p _ hp upo_same (Ext.new hp) fun b hb => upo_ne hb
theorem lc_map {g : DTG} {te : DTE} {E : DW} {τ : DSt} {G : DH → Prop} {p : Addr} {Q : DH → Prop} {S : DH} (f : D → D) (ds : List D) (h0 : S p = some (.lst [])) (hG : ∀ acc, G (upo S p (.lst acc)))
    (hs : ∀ d ∈ ds, ∀ acc (N : DH → Prop), N (upo S p (.lst (acc ++ [f d]))) → acc.length < 16777216 →
      g d τ (upo S p (.lst acc)) fun τ1 S1 => te E τ1 S1 fun y S3 => (match S3 p with | some (.lst acc) => acc.length < 16777216 ∧ N (upo S3 p (.lst (acc ++ [y]))) | _ => False))
    (hl : ds.length < sizeLine) (hq : Q (upo S p (.lst (ds.map f)))) : dLcL g dYes te E τ G p Q ds S := by
  have hf : ds.filter (fun _ => true) = ds := List.filter_eq_self.mpr fun _ _ => rfl
  rw [← upo_id h0]
  refine lc_pure (fun _ => true) f ds [] hG (fun d hd acc N M hN hM hl => ?_) (by simpa using hl) (by rw [hf]; exact hq)
  have := hs d hd acc N (hN rfl) (by rw [line_lt] at hl; exact hl)
  simpa only [dYes, if_true, line_lt] using this
theorem wh_go {c : DTT} {tb : DTS} {A : DEnds} (I : DSt → DH → Prop) (μ : DSt → DH → Nat)
    (hs : ∀ τ S (N : DSt → DH → Prop), I τ S → (∀ τ' S', I τ' S' → μ τ' S' < μ τ S → N τ' S') → c A.xe τ S fun b S' => if b = true then tb { A with nx := N, ct := N, bk := A.nx } τ S' else A.nx τ S') :
    ∀ (n : Nat) (τ : DSt) (S : DH), μ τ S < n → I τ S → dWh c tb A n τ S
  | 0, τ, S, h, _ => absurd h (Nat.not_lt_zero _)
  | n + 1, τ, S, h, hi => hs τ S _ hi fun τ' S' h' hl => wh_go I μ hs n τ' S' (by omega) h'
theorem while_inv {c : DTT} {tb : DTS} {A : DEnds} {τ : DSt} {S : DH} (I : DSt → DH → Prop) (μ : DSt → DH → Nat) (h0 : I τ S)
    (hs : ∀ τ S (N : DSt → DH → Prop), I τ S → (∀ τ' S', I τ' S' → μ τ' S' < μ τ S → N τ' S') → c A.xe τ S fun b S' => if b = true then tb { A with nx := N, ct := N, bk := A.nx } τ S' else A.nx τ S') : dWhile c tb A τ S :=
  ⟨_, wh_go I μ hs (μ τ S + 1) τ S (Nat.lt_succ_self _) h0⟩
/-! == of scalars -/
section
variable {S : DH} {Q : DK}
@[simp] theorem dEq_bl (n a b : Bool) : dEq n (.bl a) (.bl b) S Q = Q (.bl (if n then !(a == b) else a == b)) S := rfl
@[simp] theorem dEq_int (n : Bool) (a b : Int) : dEq n (.int a) (.int b) S Q = Q (.bl (if n then !(a == b) else a == b)) S := rfl
@[simp] theorem dEq_str (n : Bool) (a b : Str) : dEq n (.str a) (.str b) S Q = Q (.bl (if n then !(a == b) else a == b)) S := rfl
end
mutual
theorem Pd.ext {S S' : DH} (e : Ext S S') : ∀ (p : PyData) (d : D), Pd S d p → Pd S' d p
  | .none, _, h => by cases h; exact .non
  | .bool b, _, h => by cases h; exact .bl b
  | .int i, _, h => by cases h; exact .int i
  | .str x, _, h => by cases h; exact .str x
  | .tuple ps, _, h => by cases h with | tup hs => exact .tup (PdA.ext e ps _ hs)
  | .list ps, _, h => by
    cases h with
    | rol hs => exact .rol (PdA.ext e ps _ hs)
    | lst ea hs => exact .lst (e _ _ ea) (PdA.ext e ps _ hs)
  | .dict _, _, h => by cases h
theorem PdA.ext {S S' : DH} (e : Ext S S') : ∀ (ps : List PyData) (ds : List D), PdA S ds ps → PdA S' ds ps
  | [], _, h => by cases h; exact .nil
  | p :: ps, _, h => by cases h with | cons h1 h2 => exact .cons (Pd.ext e p _ h1) (PdA.ext e ps _ h2)
end
theorem tyName_ext {S S' : DH} (e : Ext S S') {d : D} {n : String} (h : tyName d S = some n) : tyName d S' = some n := by
  cases d with
  | ref a =>
    rw [tyName_ref] at h ⊢
    cases q : S a with
    | none => rw [q] at h; cases h
    | some o => rw [q] at h; rw [e a o q]; exact h
  | _ => exact h
/-- what repr takes -/
def Shows (S : DH) (d : D) (p : PyData) : Prop := Pd S d p ∧ p.showable = true ∧ p.depth ≤ 100 ∧ p.shown.length ≤ sizeLine
theorem Shows.ext {S S' : DH} {d : D} {p : PyData} (e : Ext S S') (h : Shows S d p) : Shows S' d p := ⟨h.1.ext e p d, h.2⟩
theorem cRepr_of {S : DH} {d : D} {p : PyData} {Q : DK} (h : Shows S d p) (q : Q (.str p.shown) S) : cRepr [d] S Q := ⟨p, h.1, h.2.1, h.2.2.1, h.2.2.2, q⟩
end Dt
set_option maxRecDepth 100000
set_option maxHeartbeats 4000000
/-! Dat9: the law's own head, from a def's promise over data. -/
namespace Dt
open PySem PySem.Spec L2 PySem.W PyProof.Rows
theorem rds_ints {K : PySem.W.Frag} {H : Hp} : ∀ ns : List Int, RDs K H (ns.map D.int) (ns.map V.int)
  | [] => .nil
  | i :: r => .cons rfl (rds_ints r)
section
variable {P : Program} {w : World} {K : PySem.W.Frag} {mg mb : Str → Option Value} {k : Nat} {fa a : Addr} {fd : FuncData} {x : Str} {sp : DSp} {s : Shared} {ns : List Int}
/-- what the ground of the law's call holds -/
structure Grd (K : PySem.W.Frag) (mg mb : Str → Option Value) (s : Shared) : Prop where
  kin : K.In s.heap
  glob : s.heap.Ns mainGlobals mg
  blt : s.heap.Ns builtinsNs mb
  bbs : ∀ x : Str, x ≠ "__name__" → mb x = bootBuiltins x
  lim : s.heap.NoLimit
  gens : s.gens = #[]
theorem head_run (G : Grd K mg mb s) (hr : Room k callerA) (F : ∀ base : Heap, K.In base → base.Ns mainGlobals mg → DFn P w K mg base k fa fd [x] sp) (hb : ∀ (s : Shared) (u : Value), BindsTo s fd ⟨[u], []⟩ [(x, u)])
    (hsp : ∀ S, sp [.rol (ns.map D.int)] S (fun d _ => d = .bl true) fun _ _ _ => False) {H : Hp} (hH : ∀ b u, H b = some u → K.lookup b = none ∧ (∃ o, u = .frz o (.lst (ns.map V.int))) ∧ ∃ o its n, s.heap.get? b = some o ∧ o.data = .seq its n) (hok : HOk P w H s.heap) (hS : SqR K H a (ns.map V.int)) :
    codeAny (model P w) callerA (.call (.ref fa) ⟨[.ref a], []⟩) (fun r s' => r = .ok (.ret (.bool true)) ∧ OldK s.heap s'.heap ∧ s'.os = s.os ∧ AllBare s'.gens) s := by
  have up : ∀ {b : Addr} {o : Obj}, s.heap.get? b = some o → (∀ its n, o.data ≠ .seq its n) → (hidT s.heap H).get? b = some o := fun {b o} e nd => hidT_get e (by
    cases q : H b with
    | none => rfl
    | some u =>
      obtain ⟨_, _, o', its, n, e', d'⟩ := hH b u q
      cases e.symm.trans e'
      exact absurd d' (nd its n))
  have upNs : ∀ {b : Addr} {m : Str → Option Value}, s.heap.Ns b m → (hidT s.heap H).Ns b m := fun {b m} ⟨o, es, ep, e, d, r⟩ => ⟨o, es, ep, up e (fun its n z => by cases d.symm.trans z), d, r⟩
  have kin : K.In (hidT s.heap H) := fun b o e => hidT_get (G.kin b o e) (by
    cases q : H b with
    | none => rfl
    | some u => cases (hH b u q).1.symm.trans e)
  obtain ⟨mc, c1, c2⟩ := G.lim
  have env : Env0 P w K mg (hidT s.heap H) callerA [] s H :=
    ⟨rfl, ⟨kin, upNs G.glob, ⟨mb, upNs G.blt, G.bbs⟩, ⟨mc, upNs c1, c2⟩⟩, fun _ _ e => of_hidT e, by rw [hidT_size]; exact Nat.le_refl _, trivial, fun _ z => (nomatch z), hok, .of_eq G.gens⟩
  refine codeAny_mono ((F _ kin (upNs G.glob)).run callerA [] s H ⟨[.ref a], []⟩ [.ref a] [.ref a] (fun v _ => v = .bl true) (fun _ _ _ => False) hr rfl env (hb s (.ref a)) (.cons rfl .nil)
    ⟨[.rol (ns.map D.int)], fun _ => none, (fun _ _ z => nomatch z), RDs.cons ⟨a, _, rfl, hS, rds_ints ns⟩ .nil, (F _ kin (upNs G.glob)).mono _ _ _ _ _ _ (fun d S' e v H' _ _ r => ?_) (fun _ _ _ z => z.elim) (hsp _)⟩) fun r s' h => ?_
  · subst e
    exact r
  · match r, h with
    | .error e, ⟨_, _, _, _, _, _, _, _, _, _, _, _, z⟩ => exact z.elim
    | .ok (.ret u), ⟨v, H', os, bare, un, hok', rv, e⟩ =>
      cases e
      cases (show u = Value.bool true from rv)
      refine ⟨rfl, OldK.of_keep fun b o e => ?_, os, bare⟩
      cases q : H b with
      | none => exact un.keep b o e q (fun z => nomatch z) (fun z => nomatch z)
      | some u =>
        obtain ⟨_, ⟨ob, rfl⟩, _⟩ := hH b u q
        have e1 := (hok b _ q).1
        have e2 := (hok' b _ (un.frzs b ob _ q)).1
        cases e.symm.trans e1
        exact e2
/-- the same for the script as it is handed in -/
theorem head_call {vs : List Value} (G : Grd K mg mb s) (hr : Room k callerA) (F : ∀ base : Heap, K.In base → base.Ns mainGlobals mg → DFn P w K mg base k fa fd [x] sp) (hb : ∀ (s : Shared) (u : Value), BindsTo s fd ⟨[u], []⟩ [(x, u)])
    (hsp : ∀ S, sp [.rol (ns.map D.int)] S (fun d _ => d = .bl true) fun _ _ _ => False) (ha : s.heap.get? a = some { cls := .type "list", data := .seq vs.toArray }) (hi : IntsAre vs ns) (hl : ns.length ≤ sizeLine) :
    codeAny (model P w) callerA (.call (.ref fa) ⟨[.ref a], []⟩) (fun r s' => r = .ok (.ret (.bool true)) ∧ OldK s.heap s'.heap ∧ s'.os = s.os ∧ AllBare s'.gens) s := by
  have rv := vals_ints hi
  cases hk : K.lookup a with
  | some o =>
    have e := G.kin a o hk
    cases ha.symm.trans e
    refine head_run (H := fun _ => none) G hr F hb hsp (fun _ _ z => nomatch z) (fun _ _ z => nomatch z) (.inr ⟨_, vs.toArray, _, hk, rfl, rfl, rfl, ?_, rv⟩)
    rw [List.size_toArray, hi.length]
    exact hl
  | none =>
    refine head_run (H := upd (fun _ => none) a (.frz { cls := .type "list", data := .seq vs.toArray } (.lst (ns.map V.int)))) G hr F hb hsp (fun b u z => ?_) (fun b u z => ?_) (.inl ⟨_, upd_same⟩)
    all_goals
      by_cases hba : b = a
      · subst hba
        rw [upd_same] at z
        cases z
        first
          | exact ⟨hk, ⟨_, rfl⟩, _, vs.toArray, _, ha, rfl⟩
          | exact ⟨ha, by rw [List.length_map]; exact hl, vs, _, rv, ha⟩
      · rw [upd_ne hba] at z
        cases z
end
/-- the goal that k_head leaves, from the promise of the law's def -/
theorem dwalk {l : OpenLaw} {n k : Nat} {q : Program} {loose : List Str} {XP : (Str → Option Value) → Heap → Prop} {YP : World → Heap → Prop} {d : DefRec} {K : Params → PySem.W.Frag} {sp : DSp} {x : Str} (hn : l.most = some n) (hn2 : n ≤ sizeLine) (hdf : d.params.defaults = []) (hr : Room k callerA) (hY : ∀ (w : World) (h : Heap), YP w h → (K w.params).In h)
    (F : ∀ (w : World) (mg : Str → Option Value) (fa : Addr) (h : Heap), (K w.params).In h → h.Ns mainGlobals mg → mg d.name = some (.ref fa) →
      ∃ fd : FuncData, (∀ (s : Shared) (u : Value), BindsTo s fd ⟨[u], []⟩ [(x, u)]) ∧ ∀ base : Heap, (K w.params).In base → base.Ns mainGlobals mg → DFn l.prog w (K w.params) mg base k fa fd [x] sp)
    (hsp : ∀ (ns : List Int) S, ns.length ≤ n → sp [.rol (ns.map D.int)] S (fun d _ => d = .bl true) fun _ _ _ => False) : WalkO q loose XP YP l.row.toRowW d [] (fun f vs => PySem.call f vs) := by
  refine Att.attach_call hn hdf fun w _ s₁ mg mb fa _ _ _ _ a vs ns G Y _ _ _ hmg hobj hints hlen hg => ?_
  have KX := hY w _ Y
  obtain ⟨fd, hb, hF⟩ := F w mg fa _ KX G.T.g hmg
  exact head_call (ns := ns) ⟨KX, G.T.g, G.T.b, G.T.builtins, G.T.nolimit, hg⟩ hr hF hb (fun S => hsp ns S hlen) hobj hints (Nat.le_trans hlen hn2)
end Dt
set_option maxRecDepth 100000
set_option maxHeartbeats 4000000
/-! DatA: in, tuple * int, a tuple of the module. -/
namespace Dt
open PySem PySem.Spec L2
@[simp] def flD : D → Bool
  | .non => true
  | .bl _ => true
  | .int _ => true
  | .str _ => true
  | _ => false
@[simp] def eqF : D → D → Bool
  | .non, .non => true
  | .bl a, .bl b => a == b
  | .bl a, .int b => (if a then 1 else 0) == b
  | .int a, .bl b => a == (if b then 1 else 0)
  | .int a, .int b => a == b
  | .str a, .str b => a == b
  | _, _ => false
def inF (x : D) (ds : List D) : Bool := ds.any fun y => eqF y x
section
variable {K : PySem.W.Frag} {H : Hp}
theorem flD_V {d : D} {v : V} (r : RD K H d v) (f : flD d = true) : flatV v = true := by
  cases d <;> first | (cases r; rfl) | cases f
theorem eqF_V {d e : D} {v u : V} (r : RD K H d v) (s : RD K H e u) (f : flD d = true) (g : flD e = true) : eqV v u = eqF d e := by
  cases d <;> first | (simp at f; done) | skip
  all_goals (cases e <;> first | (simp at g; done) | skip)
  all_goals (cases r; cases s; rfl)
theorem flDs_V : ∀ {ds : List D} {vs : List V}, RDs K H ds vs → ds.all flD = true → vs.all flatV = true
  | [], _, r, _ => by cases r; rfl
  | d :: ds, _, r, h => by
    obtain ⟨v, vs, rfl, r1, r2⟩ := r
    rw [List.all_cons, Bool.and_eq_true] at h
    rw [List.all_cons, flD_V r1 h.1, flDs_V r2 h.2]
    rfl
theorem inF_V {x : D} {v : V} (rx : RD K H x v) (fx : flD x = true) : ∀ {ds : List D} {vs : List V}, RDs K H ds vs → ds.all flD = true → inV v vs = inF x ds
  | [], _, r, _ => by cases r; rfl
  | d :: ds, _, r, h => by
    obtain ⟨w, vs, rfl, r1, r2⟩ := r
    rw [List.all_cons, Bool.and_eq_true] at h
    have e := inF_V rx fx r2 h.2
    unfold inV inF at e ⊢
    rw [List.any_cons, List.any_cons, eqF_V r1 rx h.1 fx, e]
end
@[simp] def dInF (neg : Bool) (d : D) (ds : List D) (S : DH) (Q : DK) : Prop := flD d = true ∧ ds.all flD = true ∧ Q (.bl (if neg then !inF d ds else inF d ds)) S
@[simp] def dIn (neg : Bool) : R2D := fun d e S Q => match e with
  | .tup ds => dInF neg d ds S Q
  | .rol ds => dInF neg d ds S Q
  | .ref a => (match S a with
    | some (.lst ds) => dInF neg d ds S Q
    | some (.dK kvs) => opt (dkey d) fun k => Q (.bl (if neg then !(lk kvs k).isSome else (lk kvs k).isSome)) S
    | _ => False)
  | _ => False
theorem dIn_mono (neg : Bool) : Mono2 (dIn neg) := fun x y S Q Q' k h => by
  cases y with
  | tup ds => exact ⟨h.1, h.2.1, k _ _ h.2.2⟩
  | rol ds => exact ⟨h.1, h.2.1, k _ _ h.2.2⟩
  | ref a =>
    revert h
    show (match S a with | some (.lst ds) => _ | some (.dK kvs) => _ | _ => False) → (match S a with | some (.lst ds) => _ | some (.dK kvs) => _ | _ => False)
    split
    · exact fun h => ⟨h.1, h.2.1, k _ _ h.2.2⟩
    · exact fun h => opt_mono (fun _ z => k _ _ z) h
    · exact fun h => h
  | _ => exact h.elim
section
variable {X : Cx}
theorem od_in_neg (neg : Bool) (op : CmpOp) (he : op = if neg then .NotIn else .In) (hu : X.A.units + 1 < cLine) : OpR X (compareOp op) (upO X.K (dIn neg)) := by
  rintro pins s σ H x y v u Q I rx ry ⟨d, e, S, rep, rd, re, h⟩
  have seq : ∀ {p : Addr} {xs : List V} {ds : List D}, y = .ref p → (SqL X.K H p xs ∨ SqT X.K H p xs) → RDs X.K H ds xs → dInF neg d ds S (fun z S' => ∀ v H', LeH H H' → Rep X.K S' H' → RD X.K H' z v → Q v H') → rIn X.K neg x y H Q := fun {p xs ds} e1 sq rs h =>
    ⟨p, xs, e1, sq, flD_V rd h.1, flDs_V rs h.2.1, by rw [inF_V rd h.1 rs h.2.1]; exact h.2.2 _ H (LeH.refl H) rep rfl⟩
  have go : rIn X.K neg x y H Q → wpAny (model X.prog X.w) X.A (compareOp op v u) (EP X pins σ Q) X.xe s := fun z => by
    subst he
    cases neg
    · exact op_in_seq pins s σ H x y v u Q I rx ry z
    · exact op_notIn_seq pins s σ H x y v u Q I rx ry z
  cases e with
  | tup ds =>
    obtain ⟨p, xs, rfl, sq, rs⟩ : ∃ p xs, y = V.ref p ∧ SqT X.K H p xs ∧ RDs X.K H ds xs := re
    exact go (seq rfl (.inr sq) rs h)
  | rol ds =>
    obtain ⟨p, xs, rfl, sq, rs⟩ : ∃ p xs, y = V.ref p ∧ SqR X.K H p xs ∧ RDs X.K H ds xs := re
    exact go (seq rfl (.inl sq.l) rs h)
  | ref a =>
    cases re
    revert h
    show (match S a with | some (.lst ds) => _ | some (.dK kvs) => _ | _ => False) → _
    split
    · rename_i ds ea
      intro h
      obtain ⟨xs, e0, rs⟩ : ∃ xs, H a = some (.lst xs) ∧ RDs X.K H ds xs := rep a _ ea
      exact go (seq rfl (.inl (.of e0)) rs h)
    · rename_i kvs ea
      intro h
      obtain ⟨ws, e0, rk⟩ : ∃ ws, H a = some (.dK ws) ∧ RKs X.K H kvs ws := rep a _ ea
      obtain ⟨k, ek, h⟩ := opt_ex h
      have ey := dkey_rd ek rd
      subst ey
      cases ry
      have g : DGet H a (kV k) (valV ws k) := DGet.k e0
      subst he
      cases neg
      · exact d_in hu I g rx fun s3 I3 => ⟨.bl _, H, I3, rfl, by rw [rk.isSome k]; exact h _ H (LeH.refl H) rep rfl⟩
      · exact d_notIn hu I g rx fun s3 I3 => ⟨.bl _, H, I3, rfl, by rw [rk.isSome k]; exact h _ H (LeH.refl H) rep rfl⟩
    · exact fun h => h.elim
  | _ => exact h.elim
theorem od_in (hu : X.A.units + 1 < cLine) : OpD X (compareOp .In) (dIn false) := ⟨dIn_mono false, od_in_neg false .In rfl hu⟩
theorem od_nin (hu : X.A.units + 1 < cLine) : OpD X (compareOp .NotIn) (dIn true) := ⟨dIn_mono true, od_in_neg true .NotIn rfl hu⟩
/-- tuple * int -/
@[simp] def dMulT : R2D := fun d e S Q => match d, e with
  | .tup xs, .int n => xs ≠ [] ∧ 2 ≤ n ∧ n ≤ 1000 ∧ xs.length ≤ 1000 ∧ Q (.tup (List.replicate n.toNat xs).flatten) S
  | _, _ => False
theorem od_mulT : OpD X (binaryOp .Mult) dMulT := by
  refine ⟨fun x y S Q Q' k h => ?_, fun pins s σ H x y v u Q I rx ry ⟨d, e, S, rep, rd, re, h⟩ => ?_⟩
  · cases x <;> cases y <;> first | exact h.elim | exact ⟨h.1, h.2.1, h.2.2.1, h.2.2.2.1, k _ _ h.2.2.2.2⟩
  · cases d <;> cases e <;> first | exact h.elim | skip
    rename_i xs n
    cases re
    obtain ⟨p, ys, rfl, sq, rs⟩ : ∃ p ys, x = V.ref p ∧ SqT X.K H p ys ∧ RDs X.K H xs ys := rd
    obtain ⟨h1, h2, h3, h4, h⟩ := h
    have hl := rs.length
    refine op_repT pins s σ H _ _ v u Q I rx ry ⟨p, n, ys, rfl, rfl, sq, fun z => h1 (by subst z; exact List.eq_nil_of_length_eq_zero hl), h2, h3, by rw [← hl]; exact h4, fun q hq => ?_⟩
    have le : LeH H (upd H q (.tup (List.replicate n.toNat ys).flatten)) := LeH.new hq
    exact h _ _ le (rep.garb hq) ⟨q, _, rfl, .inl (.of upd_same), (rs.rep n.toNat).le le⟩
/-- a tuple of the module's own -/
theorem de_gtup {x : Str} {a : Addr} {pos : Pos} {ds : List D} {its : Array Value} {n : Nat} {od : Option Addr} {sl : Array (Option Value)} (hg : Gl X x) (hm : X.mg x = some (.ref a)) (hk : X.K.lookup a = some ⟨.type "tuple", od, .seq its n, sl⟩) (hz : its.size ≤ sizeLine) (hd : ∃ vs : List V, Vals vs its.toList ∧ ∀ H, RDs X.K H ds vs)
    (hdb : (x == ("__debug__" : Str)) = false := by decide) : DE X (.Name x pos) (dC (.tup ds)) := by
  obtain ⟨vs, h1, h2⟩ := hd
  exact de_c (pe_glob (v := .ref a) hg hm rfl hdb) fun H => ⟨a, vs, rfl, .inr ⟨_, its, n, hk, rfl, rfl, hz, h1⟩, h2 H⟩
end
/-- a promise that nobody asks -/
abbrev spNo : DSp := fun _ _ _ _ => False
theorem DFn.never {P : Program} {w : World} {K : PySem.W.Frag} {mg : Str → Option Value} {base : Heap} {k : Nat} {f : Addr} {fd : FuncData} {ps : List Str} (_ : Nat) : DFn P w K mg base k f fd ps spNo :=
  ⟨fun _ _ _ _ _ _ _ _ h => h.elim, fun _ _ _ _ h => h.elim, fun _ _ _ _ _ _ _ _ _ _ _ _ _ _ ⟨_, _, _, _, h⟩ => h.elim⟩
@[simp] def prevSp (sp : Nat → DSp) : Nat → DSp
  | 0 => spNo
  | n + 1 => sp n
end Dt
set_option maxRecDepth 100000
set_option maxHeartbeats 4000000
/-! DatB: names, plain texts. -/
namespace Dt
open PySem PySem.Spec L2
abbrev LET : Str := "abcdefghijklmnopqrstuvwxyz"
def hit (d : D) : Bool := match d with | .str s => !(Builtin.Str.occurrences LET s 0 LET.length 1).isEmpty | _ => false
def isNm (d : D) : Bool := match d with | .str x => decide (1 ≤ x.length) && decide (x.length ≤ 8) && (x.cps.toList.map signD).all hit | _ => false
def sp_is_name : DSp := fun ds S Q _ => ∃ (d : D) (n : String), ds = [d] ∧ tyName d S = some n ∧ (∀ x, d = .str x → x.length ≤ 1048576) ∧ ∀ S', Ext S S' → Q (.bl (isNm d)) S'
theorem sp_is_name_mono : SpMono sp_is_name := fun ds S Q Q' E E' k _ ⟨d, n, h1, h2, h3, h⟩ => ⟨d, n, h1, h2, h3, fun S' e => k _ _ (h S' e)⟩
theorem isNm_no {d : D} {S : DH} {n : String} (h : tyName d S = some n) (hn : n ≠ "str") : isNm d = false := by
  cases d with
  | str x => simp at h; exact absurd h.symm hn
  | _ => rfl
theorem find_ge (s : Str) : decide ((0 : Int) ≤ Txt.find LET s) = hit (.str s) := by
  unfold Txt.find hit
  simp only
  cases Builtin.Str.occurrences LET s 0 LET.length 1 with
  | nil => rfl
  | cons i r => simp
theorem min_ge {ns : List Int} {m : Int} (hm : m ∈ ns) (hle : ∀ y, y ∈ ns → m ≤ y) : decide (0 ≤ m) = ns.all fun y => decide (0 ≤ y) := by
  rw [Bool.eq_iff_iff]
  simp only [decide_eq_true_eq, List.all_eq_true]
  exact ⟨fun h y hy => Int.le_trans h (hle y hy), fun h => h m hm⟩
def fnd (d : D) : Int := match d with | .str s => Txt.find LET s | _ => 0
/-- a text of few plain signs -/
def Pl (n : Nat) (x : Str) : Prop := x.length ≤ n ∧ ∀ c ∈ x.cps.toList, c < 128
theorem Pl.mono {n m : Nat} {x : Str} (h : Pl n x) (l : n ≤ m) : Pl m x := ⟨Nat.le_trans h.1 l, h.2⟩
theorem Pl.app {n m : Nat} {x y : Str} (h : Pl n x) (k : Pl m y) : Pl (n + m) (x ++ y) := by
  have e : (x ++ y).cps = x.cps ++ y.cps := rfl
  refine ⟨?_, fun c hc => ?_⟩
  · have h1 : x.cps.size ≤ n := h.1
    have h2 : y.cps.size ≤ m := k.1
    show (x ++ y).cps.size ≤ n + m
    rw [e, Array.size_append]
    omega
  · rw [e, Array.toList_append] at hc
    rcases List.mem_append.mp hc with z | z
    · exact h.2 c z
    · exact k.2 c z
theorem Pl.cut {n : Nat} {x : Str} (h : Pl n x) (lo hi : Option Int) : Pl n (cutS x lo hi) := by
  refine ⟨Nat.le_trans (cutS_length x lo hi) h.1, fun c hc => h.2 c ?_⟩
  have e : (cutS x lo hi).cps.toList = (x.cps.toList.drop (HT.sIx x.length 0 lo)).take (HT.sIx x.length x.length hi - HT.sIx x.length 0 lo) := rfl
  rw [e] at hc
  exact List.mem_of_mem_drop (List.mem_of_mem_take hc)
theorem cut1_len (x : Str) : (cutS x none (some 1)).length ≤ 1 := by
  have e : (cutS x none (some 1)).length = ((x.cps.toList.drop (HT.sIx x.length 0 none)).take (HT.sIx x.length x.length (some 1) - HT.sIx x.length 0 none)).length := by
    show (cutS x none (some 1)).cps.size = _
    rw [← Array.length_toList]
    rfl
  rw [e, List.length_take, HT.sIx_none, show (1 : Int) = ((1 : Nat) : Int) from rfl, HT.sIx_nat]
  omega
theorem fold_mem {c : Nat} {a : Array Nat} : ∀ (n : Nat) (b : Array Nat), c ∈ ((List.replicate n a).foldl (· ++ ·) b).toList → c ∈ b.toList ∨ c ∈ a.toList
  | 0, b, h => .inl h
  | n + 1, b, h => by
    rw [List.replicate_succ, List.foldl_cons] at h
    rcases fold_mem n _ h with z | z
    · rw [Array.toList_append] at z
      exact List.mem_append.mp z
    · exact .inr z
theorem fold_size {a : Array Nat} : ∀ (n : Nat) (b : Array Nat), ((List.replicate n a).foldl (· ++ ·) b).size = b.size + n * a.size
  | 0, b => by simp
  | n + 1, b => by
    rw [List.replicate_succ, List.foldl_cons, fold_size n, Array.size_append, Nat.succ_mul]
    omega
theorem mul_ok {x : Str} (h : x.length ≤ 1) {n : Nat} (hn : n ≤ 9) (h1 : 1 ≤ n) : MulOk x (n : Int) := by
  unfold MulOk
  refine ⟨?_, fun _ _ => ?_, fun _ _ => ?_⟩
  · rw [Bool.or_eq_false_iff]
    constructor <;> rw [decide_eq_false_iff_not] <;> omega
  · have : 1 ≤ ((2 : Int) ^ 63 - 1) / (n : Int) := (Int.le_ediv_iff_mul_le (by omega)).mpr (by omega)
    omega
  · have hz : x.length * n ≤ 9 := Nat.le_trans (Nat.mul_le_mul h hn) (by decide)
    have e : (n : Int).toNat = n := by omega
    rw [e]
    show decide (_ > sizeLine) = false
    rw [decide_eq_false_iff_not, sizeLine_eq]
    omega
theorem Pl.mul {x : Str} (h : Pl 1 x) {n : Nat} (hn : n ≤ 9) : Pl 9 (Txt.mul x (n : Int)) := by
  unfold Txt.mul
  split
  · exact ⟨by decide, fun c hc => by cases hc⟩
  · split
    · exact h.mono (by decide)
    · refine ⟨?_, fun c hc => ?_⟩
      · show ((List.replicate ((n : Int)).toNat x.cps).foldl (· ++ ·) #[]).size ≤ 9
        rw [fold_size]
        have h1 : x.cps.size ≤ 1 := h.1
        have e : (n : Int).toNat = n := by omega
        rw [e]
        have := Nat.mul_le_mul hn h1
        simpa using this
      · rcases fold_mem _ _ hc with z | z
        · cases z
        · exact h.2 c z
theorem Pl.lit (s : String) (n : Nat) (h : (decide ((Str.ofString s).length ≤ n) && (Str.ofString s).cps.toList.all fun c => decide (c < 128)) = true) : Pl n (Str.ofString s) := by
  rw [Bool.and_eq_true] at h
  exact ⟨of_decide_eq_true h.1, fun c hc => of_decide_eq_true (List.all_eq_true.mp h.2 c hc)⟩
/-- all but p stands -/
def ExtB (p : Addr) (S S' : DH) : Prop := ∀ b o, b ≠ p → S b = some o → S' b = some o
theorem Pl.join : ∀ ys : List Str, (∀ y ∈ ys, Pl 1 y) → Pl ys.length (Txt.join (.ofString "") ys) := fun ys h => by
  exact (show Txt.join (.ofString "") ys = Str.join (.ofString "") ys from PySem.StrLaws.glued_eq_join ..) ▸ go ys h
where
  go : ∀ ys : List Str, (∀ y ∈ ys, Pl 1 y) → Pl ys.length (Str.join (.ofString "") ys)
  | [], _ => ⟨by decide, fun c hc => by cases hc⟩
  | [x], h => h x (List.mem_cons_self ..)
  | x :: z :: r, h => by
    have e : Pl 0 (Str.ofString "") := Pl.lit "" 0 (by decide +kernel)
    have k := ((h x (List.mem_cons_self ..)).app e).app (go (z :: r) fun y hy => h y (List.mem_cons_of_mem _ hy))
    exact k.mono (by simp; omega)
theorem sum_le1 : ∀ ys : List Str, (∀ y ∈ ys, y.length ≤ 1) → (ys.map (·.length)).sum ≤ ys.length
  | [], _ => Nat.le_refl _
  | x :: r, h => by
    have := sum_le1 r fun y hy => h y (List.mem_cons_of_mem _ hy)
    have := h x (List.mem_cons_self ..)
    simp
    omega
theorem rng_at {i n : Nat} {d : D} (h : (rngD 0 n)[i]? = some d) (hn : n < 2 ^ 100) : ∃ k : Nat, k < 2 ^ 100 ∧ d = .int k := by
  obtain ⟨h1, h2⟩ := List.getElem?_eq_some_iff.mp h
  simp [rngD] at h1 h2
  exact ⟨i, by omega, h2.symm⟩
end Dt
set_option maxRecDepth 100000
set_option maxHeartbeats 4000000
/-! DatC: data within bounds. -/
namespace Dt
open PySem PySem.Spec L2
abbrev sp_l_is_name : DSp := sp_is_name
theorem sp_l_is_name_mono : SpMono sp_l_is_name := sp_is_name_mono
structure Wt (w dp : Nat) (p : PyData) : Prop where
  sh : p.showable = true
  dp : p.depth ≤ dp
  lf : p.leavesShort 13 = true
  cl : p.canLay0 = true
  wt : p.weight ≤ w
theorem Wt.mono {w dp w' dp' : Nat} {p : PyData} (h : Wt w dp p) (a : w ≤ w') (b : dp ≤ dp') : Wt w' dp' p := ⟨h.sh, Nat.le_trans h.dp b, h.lf, h.cl, Nat.le_trans h.wt a⟩
def Nz (w dp : Nat) (S : DH) (d : D) : Prop := ∃ p, Pd S d p ∧ Wt w dp p
section
variable {S S' : DH} {d : D} {w dp w' dp' n : Nat}
theorem Nz.mono (h : Nz w dp S d) (a : w ≤ w') (b : dp ≤ dp') : Nz w' dp' S d := let ⟨p, h1, h2⟩ := h; ⟨p, h1, h2.mono a b⟩
theorem Nz.ext (h : Nz w dp S d) (e : Ext S S') : Nz w dp S' d := let ⟨p, h1, h2⟩ := h; ⟨p, h1.ext e p d, h2⟩
mutual
theorem Pd.extB {S S' : DH} {q : Addr} (hq : ∀ ds, S q ≠ some (.lst ds)) (e : ExtB q S S') : ∀ (p : PyData) (d : D), Pd S d p → Pd S' d p
  | .none, _, h => by cases h; exact .non
  | .bool b, _, h => by cases h; exact .bl b
  | .int i, _, h => by cases h; exact .int i
  | .str x, _, h => by cases h; exact .str x
  | .tuple ps, _, h => by cases h with | tup hs => exact .tup (PdA.extB hq e ps _ hs)
  | .list ps, _, h => by
    cases h with
    | rol hs => exact .rol (PdA.extB hq e ps _ hs)
    | lst ea hs => exact .lst (e _ _ (fun z => hq _ (by rw [← z]; exact ea)) ea) (PdA.extB hq e ps _ hs)
  | .dict _, _, h => by cases h
theorem PdA.extB {S S' : DH} {q : Addr} (hq : ∀ ds, S q ≠ some (.lst ds)) (e : ExtB q S S') : ∀ (ps : List PyData) (ds : List D), PdA S ds ps → PdA S' ds ps
  | [], _, h => by cases h; exact .nil
  | p :: ps, _, h => by cases h with | cons h1 h2 => exact .cons (Pd.extB hq e p _ h1) (PdA.extB hq e ps _ h2)
end
theorem FeedOb.nl {n : Nat} {o : Ob} (h : FeedOb n o) {q : Addr} {S : DH} (e : S q = some o) : ∀ ds, S q ≠ some (.lst ds) := fun ds z => by
  obtain ⟨_, _, _, rfl, _⟩ := h
  rw [e] at z
  cases z
theorem Nz.extB {q : Addr} (h : Nz w dp S d) (hq : ∀ ds, S q ≠ some (.lst ds)) (e : ExtB q S S') : Nz w dp S' d := let ⟨p, h1, h2⟩ := h; ⟨p, h1.extB hq e p d, h2⟩
theorem Nz.non : Nz w dp S .non := ⟨.none, .non, rfl, Nat.zero_le _, rfl, rfl, Nat.zero_le _⟩
theorem Nz.bl (b : Bool) : Nz w dp S (.bl b) := ⟨.bool b, .bl b, rfl, Nat.zero_le _, rfl, rfl, Nat.zero_le _⟩
theorem Nz.int (i : Int) (h1 : PyData.showable (.int i) = true) (h2 : PyData.leavesShort 13 (.int i) = true) (h3 : PyData.weight (.int i) ≤ w) : Nz w dp S (.int i) := ⟨.int i, .int i, h1, Nat.zero_le _, h2, rfl, h3⟩
theorem Nz.str {x : Str} (h : Pl n x) (hn : n ≤ w) : Nz w dp S (.str x) := by
  refine ⟨.str x, .str x, rfl, Nat.zero_le _, ?_, ?_, Nat.le_trans h.1 hn⟩
  · simp only [PyData.leavesShort, List.all_eq_true, decide_eq_true_eq]
    exact fun c hc => Nat.lt_trans (h.2 c hc) (by decide)
  · show PyData.strOk x = true
    unfold PyData.strOk
    rw [← Array.all_toList, List.all_eq_true]
    exact fun c hc => decide_eq_true (Nat.lt_trans (h.2 c hc) (by decide))
theorem Nz.lit (s : String) (h : (decide ((Str.ofString s).length ≤ w) && (Str.ofString s).cps.toList.all fun c => decide (c < 128)) = true) : Nz w dp S (.str s) := .str (Pl.lit s w h) (Nat.le_refl _)
/-- all of a list -/
structure WtA (w dp : Nat) (ps : List PyData) : Prop where
  sh : PyData.showableAll ps = true
  dp : PyData.depthAll ps ≤ dp
  lf : PyData.leavesShortAll 13 ps = true
  cl : PyData.canLayAll0 ps = true
  wt : PyData.weightAll ps ≤ ps.length * (w + 1)
theorem NzA : ∀ {ds : List D}, (∀ d ∈ ds, Nz w dp S d) → ∃ ps, PdA S ds ps ∧ WtA w dp ps ∧ ps.length = ds.length
  | [], _ => ⟨[], .nil, ⟨rfl, Nat.zero_le _, rfl, rfl, Nat.zero_le _⟩, rfl⟩
  | d :: ds, h => by
    obtain ⟨ps, h1, h2, h3⟩ := NzA (ds := ds) fun e he => h e (List.mem_cons_of_mem _ he)
    obtain ⟨p, h4, h5⟩ := h d (List.mem_cons_self ..)
    refine ⟨p :: ps, .cons h4 h1, ⟨?_, ?_, ?_, ?_, ?_⟩, by simp [h3]⟩
    · simp only [PyData.showableAll, h5.sh, h2.sh, Bool.and_self]
    · simp only [PyData.depthAll]
      have := h5.dp; have := h2.dp
      omega
    · simp only [PyData.leavesShortAll, h5.lf, h2.lf, Bool.and_self]
    · simp only [PyData.canLayAll0, h5.cl, h2.cl, Bool.and_self]
    · simp only [PyData.weightAll, List.length_cons, Nat.succ_mul]
      have := h5.wt; have := h2.wt
      omega
theorem WtA.tup {ps : List PyData} (h : WtA w dp ps) (hw : ps.length * (w + 1) ≤ w') : Wt w' (dp + 1) (.tuple ps) := ⟨h.sh, Nat.succ_le_succ h.dp, h.lf, h.cl, Nat.le_trans h.wt hw⟩
theorem WtA.lst {ps : List PyData} (h : WtA w dp ps) (hw : ps.length * (w + 1) ≤ w') : Wt w' (dp + 1) (.list ps) := ⟨h.sh, Nat.succ_le_succ h.dp, h.lf, h.cl, Nat.le_trans h.wt hw⟩
theorem Nz.tup {ds : List D} (h : ∀ d ∈ ds, Nz w dp S d) (hn : ds.length ≤ n) (hw : n * (w + 1) ≤ w') : Nz w' (dp + 1) S (.tup ds) := by
  obtain ⟨ps, h1, h2, h3⟩ := NzA h
  exact ⟨.tuple ps, .tup h1, h2.tup (by rw [h3]; exact Nat.le_trans (Nat.mul_le_mul_right _ hn) hw)⟩
theorem Nz.lst {ds : List D} {a : Addr} (e : S a = some (.lst ds)) (h : ∀ d ∈ ds, Nz w dp S d) (hn : ds.length ≤ n) (hw : n * (w + 1) ≤ w') : Nz w' (dp + 1) S (.ref a) := by
  obtain ⟨ps, h1, h2, h3⟩ := NzA h
  exact ⟨.list ps, .lst e h1, h2.lst (by rw [h3]; exact Nat.le_trans (Nat.mul_le_mul_right _ hn) hw)⟩
theorem wts_kids : ∀ {ps : List PyData} {ds : List D}, PdA S ds ps → PyData.showableAll ps = true → PyData.depthAll ps ≤ dp → PyData.leavesShortAll 13 ps = true → PyData.canLayAll0 ps = true → PyData.weightAll ps ≤ w → ∀ d ∈ ds, Nz w dp S d
  | [], _, h, _, _, _, _, _ => by cases h; exact fun _ z => nomatch z
  | p :: ps, _, h, h1, h2, h3, h4, h5 => by
    cases h with
    | cons ha hb =>
      simp only [PyData.showableAll, PyData.depthAll, PyData.leavesShortAll, PyData.canLayAll0, PyData.weightAll, Bool.and_eq_true] at h1 h2 h3 h4 h5
      intro d hd
      rcases List.mem_cons.mp hd with rfl | z
      · exact ⟨p, ha, h1.1, by omega, h3.1, h4.1, by omega⟩
      · exact wts_kids hb h1.2 (by omega) h3.2 h4.2 (by omega) d z
theorem Nz.kids {ds : List D} (h : Nz w dp S (.tup ds)) : ∀ d ∈ ds, Nz w dp S d := by
  obtain ⟨p, h1, h2⟩ := h
  cases h1 with
  | tup hs => exact wts_kids hs h2.sh (Nat.le_trans (Nat.le_succ _) h2.dp) h2.lf h2.cl h2.wt
theorem Nz.ty (h : Nz w dp S d) : ∃ n, tyName d S = some n := by
  obtain ⟨p, h1, _⟩ := h
  cases h1 with
  | lst e _ => exact ⟨"list", tyName_lst S e⟩
  | _ => exact ⟨_, rfl⟩
theorem Nz.len {x : Str} (h : Nz w dp S (.str x)) : x.length ≤ w := by
  obtain ⟨p, h1, h2⟩ := h
  cases h1
  exact h2.wt
theorem Nz.shows (h : Nz w dp S d) (hw : w ≤ 2 ^ 20) (hd : dp ≤ 100) : ∃ p, Shows S d p := by
  obtain ⟨p, h1, h2⟩ := h
  exact ⟨p, h1, h2.sh, Nat.le_trans h2.dp hd, PyData.shown_fits (B := 13) (by decide) (by decide) h2.lf (Nat.le_trans h2.wt hw)⟩
theorem Nz.shaped (h : Nz w dp S d) (hd : dp ≤ 64) : ∃ p, Pd S d p ∧ SeqAt.shaped p = true := by
  obtain ⟨p, h1, h2⟩ := h
  exact ⟨p, h1, by unfold SeqAt.shaped; rw [h2.cl, decide_eq_true (Nat.le_trans h2.dp hd)]; rfl⟩
/-- a list beside the empty one -/
theorem dEq_nilL {neg : Bool} {a b : Addr} {ds : List D} {Q : DK} (ea : S a = some (.lst ds)) (eb : S b = some (.lst [])) (h : Nz w dp S (.ref a)) (hd : dp ≤ 64) (q : Q (.bl (if neg then !ds.isEmpty else ds.isEmpty)) S) : dEq neg (.ref a) (.ref b) S Q := by
  obtain ⟨p, h1, h2⟩ := h.shaped hd
  show dEqG neg (.ref a) (.ref b) S Q
  cases h1 with
  | lst e hs =>
    rw [ea] at e
    cases e
    refine ⟨_, .list [], .lst ea hs, .lst eb .nil, h2, by decide, ?_⟩
    cases hs with
    | nil => simpa [PyData.eqv, PyData.eqvAll] using q
    | cons _ _ => simpa [PyData.eqv, PyData.eqvAll] using q
theorem dEq_nilT {neg : Bool} {ds : List D} {Q : DK} (h : Nz w dp S (.tup ds)) (hd : dp ≤ 64) (q : Q (.bl (if neg then !ds.isEmpty else ds.isEmpty)) S) : dEq neg (.tup ds) (.tup []) S Q := by
  obtain ⟨p, h1, h2⟩ := h.shaped hd
  show dEqG neg (.tup ds) (.tup []) S Q
  cases h1 with
  | tup hs =>
    refine ⟨_, .tuple [], .tup hs, .tup .nil, h2, by decide, ?_⟩
    cases hs with
    | nil => simpa [PyData.eqv, PyData.eqvAll] using q
    | cons _ _ => simpa [PyData.eqv, PyData.eqvAll] using q
end
end Dt
set_option maxRecDepth 100000
set_option maxHeartbeats 4000000
/-! DatP: what is a pattern, told of data. -/
namespace Dt
open PySem PySem.Spec L2
def isOne (d : D) (ws : List Str) : Bool := match d with
  | .str x => ws.any fun w => w == x
  | _ => false
theorem isOne_no {d : D} {S : DH} {n : String} {ws : List Str} (h : tyName d S = some n) (hn : n ≠ "str") : isOne d ws = false := by
  cases d with
  | str x => simp at h; exact absurd h.symm hn
  | _ => rfl
def Texts (S : DH) (e : D) (ws : List Str) : Prop := e = .tup (ws.map D.str) ∨ ∃ q, e = .ref q ∧ S q = some (.lst (ws.map D.str))
def sp_is_one_of : DSp := fun ds S Q _ => ∃ (d e : D) (n : String) (ws : List Str), ds = [d, e] ∧ tyName d S = some n ∧ Texts S e ws ∧ Q (.bl (isOne d ws)) S
theorem sp_is_one_of_mono : SpMono sp_is_one_of := fun ds S Q Q' E E' k _ ⟨d, e, n, ws, h1, h2, h3, h⟩ => ⟨d, e, n, ws, h1, h2, h3, k _ _ h⟩
abbrev sp_l_is_text : DSp := sp_is_one_of
theorem sp_l_is_text_mono : SpMono sp_l_is_text := sp_is_one_of_mono
theorem inF_map (x : Str) (ws : List Str) : inF (.str x) (ws.map D.str) = ws.any fun w => w == x := by
  unfold inF
  rw [List.any_map]
  rfl
theorem all_flD (ws : List Str) : (ws.map D.str).all flD = true := by
  rw [List.all_map, List.all_eq_true]
  exact fun _ _ => rfl
/-- a display of texts behind a thing -/
theorem one_of {S : DH} {d : D} {w dp : Nat} {ws : List Str} {Q : DK} {E : DXK} (hd : Nz w dp S d) (h : ∀ S1, Ext S S1 → Q (.bl (isOne d ws)) S1) : newO S (.lst (ws.map D.str)) fun q S1 => sp_is_one_of [d, .ref q] S1 Q E :=
  newO_of fun q S1 f a x _ => by
    obtain ⟨n, hn⟩ := hd.ty
    exact ⟨d, .ref q, n, ws, rfl, tyName_ext x hn, .inr ⟨q, rfl, a⟩, h S1 x⟩
def wordD (d : D) : Bool := isNm d || isOne d ["*"]
def sp_is_word : DSp := fun ds S Q _ => ∃ (d : D) (dp : Nat), ds = [d] ∧ Nz 1048576 dp S d ∧ ∀ S', Ext S S' → Q (.bl (wordD d)) S'
theorem sp_is_word_mono : SpMono sp_is_word := fun ds S Q Q' E E' k _ ⟨d, dp, h1, h2, h⟩ => ⟨d, dp, h1, h2, fun S' e => k _ _ (h S' e)⟩
theorem Nz.name {S : DH} {d : D} {dp : Nat} {Q : DK} {E : DXK} (hd : Nz 1048576 dp S d) (h : ∀ S', Ext S S' → Q (.bl (isNm d)) S') : sp_is_name [d] S Q E := by
  obtain ⟨n, hn⟩ := hd.ty
  exact ⟨d, n, rfl, hn, fun x e => by subst e; exact hd.len, h⟩
def leafD (d : D) : Bool := match d with
  | .tup (h :: r) => if isOne h ["stay"] then r.isEmpty else if isOne h ["step"] then (match r with | [a, b] => isOne a ["on", "back"] && wordD b | _ => false) else isOne h ["at", "off"] && (match r with | [a] => isNm a | _ => false)
  | _ => false
def partsD (d : D) : Option (List D) := if leafD d then some [] else match d with
  | .tup [h, x] => if isOne h ["many"] then some [x] else if isOne h ["then", "either"] then (match x with | .tup ds => if ds.length ≤ 39 then some ds else none | _ => none) else none
  | _ => none
def withinD (d : D) : Option (List D) := match d with
  | .tup [h] => if isOne h ["stay"] then some [] else none
  | .tup [h, a, b] => if isOne h ["step"] && isOne a ["on", "back"] && (isOne b ["*"] || isNm b) then some [] else none
  | .tup [h, x] => if isOne h ["at", "off"] then (if isNm x then some [] else none) else if isOne h ["many"] then some [x] else if isOne h ["then", "either"] then (match x with | .tup ds => some ds | _ => none) else none
  | _ => none
theorem isOne_ex {d : D} {ws vs : List Str} (h : isOne d ws = true) (e : (ws.all fun w => !vs.contains w) = true) : isOne d vs = false := by
  cases d with
  | str x =>
    simp only [isOne, List.any_eq_true, beq_iff_eq] at h
    obtain ⟨w, hw, rfl⟩ := h
    have := List.all_eq_true.mp e w hw
    simp only [Bool.not_eq_true', List.contains_eq_mem, decide_eq_false_iff_not] at this
    simp only [isOne, List.any_eq_false, beq_iff_eq]
    exact fun v hv z => this (by rw [← z]; exact hv)
  | _ => rfl
/-- the two looks agree but for many parts -/
theorem parts_within (d : D) : partsD d = withinD d ∨ (partsD d = none ∧ ∃ ds, withinD d = some ds ∧ 40 ≤ ds.length) := by
  unfold partsD withinD leafD
  match d with
  | .tup [] => left; rfl
  | .tup [h] =>
    left
    dsimp only [List.isEmpty_nil]
    by_cases e1 : isOne h ["stay"] = true
    · simp [e1]
    · simp [e1]
  | .tup [h, x] =>
    dsimp only
    by_cases e1 : isOne h ["stay"] = true
    · left
      have a1 := isOne_ex (vs := ["at", "off"]) e1 (by decide +kernel)
      have a2 := isOne_ex (vs := ["many"]) e1 (by decide +kernel)
      have a3 := isOne_ex (vs := ["then", "either"]) e1 (by decide +kernel)
      simp [e1, a1, a2, a3]
    by_cases e2 : isOne h ["step"] = true
    · left
      have a1 := isOne_ex (vs := ["at", "off"]) e2 (by decide +kernel)
      have a2 := isOne_ex (vs := ["many"]) e2 (by decide +kernel)
      have a3 := isOne_ex (vs := ["then", "either"]) e2 (by decide +kernel)
      simp [e1, e2, a1, a2, a3]
    by_cases e3 : isOne h ["at", "off"] = true
    · left
      have a2 := isOne_ex (vs := ["many"]) e3 (by decide +kernel)
      have a3 := isOne_ex (vs := ["then", "either"]) e3 (by decide +kernel)
      by_cases e6 : isNm x = true <;> simp [e1, e2, e3, a2, a3, e6]
    by_cases e4 : isOne h ["many"] = true
    · left
      simp [e1, e2, e3, e4]
    by_cases e5 : isOne h ["then", "either"] = true
    · cases x with
      | tup ds =>
        by_cases hl : ds.length ≤ 39
        · left; simp [e1, e2, e3, e4, e5, hl]
        · right
          exact ⟨by simp [e1, e2, e3, e4, e5, hl], ds, by simp [e1, e2, e3, e4, e5], by omega⟩
      | _ => left; simp [e1, e2, e3, e4, e5]
    · left; simp [e1, e2, e3, e4, e5]
  | .tup [h, a, b] =>
    left
    dsimp only
    by_cases e1 : isOne h ["stay"] = true
    · have a1 := isOne_ex (vs := ["step"]) e1 (by decide +kernel)
      simp [e1, a1]
    by_cases e2 : isOne h ["step"] = true
    · unfold wordD
      by_cases e3 : isOne a ["on", "back"] = true <;> by_cases e4 : isNm b = true <;> by_cases e5 : isOne b ["*"] = true <;> simp [e1, e2, e3, e4, e5]
    · simp [e1, e2]
  | .tup (h :: a :: b :: c :: r) =>
    left
    dsimp only
    by_cases e1 : isOne h ["stay"] = true <;> by_cases e2 : isOne h ["step"] = true <;> simp [e1, e2]
  | .non => left; rfl
  | .bl _ => left; rfl
  | .int _ => left; rfl
  | .str _ => left; rfl
  | .rol _ => left; rfl
  | .ref _ => left; rfl
/-- the look by a pile: top first; count behind the last look -/
def runP (f : D → Option (List D)) : Nat → Nat → List (D × Nat) → Bool
  | _, _, [] => true
  | 0, _, _ :: _ => false
  | n + 1, c, (d, k) :: r => match f d with
    | none => false
    | some ds => if k > 10 ∨ c + 1 > 40 then false else runP f n (c + 1) ((ds.map fun e => (e, k + 1)).reverse ++ r)
theorem runP_len (f : D → Option (List D)) : ∀ (n c : Nat) (st : List (D × Nat)), c ≤ 40 → 40 < st.length + c → runP f n c st = false
  | n, c, [], h0, h => by simp at h; omega
  | 0, c, _ :: _, _, _ => rfl
  | n + 1, c, (d, k) :: r, h0, h => by
    unfold runP
    cases f d with
    | none => rfl
    | some ds =>
      simp only
      split
      · rfl
      · rename_i hc
        refine runP_len f n (c + 1) _ (by omega) ?_
        simp at h ⊢
        omega
theorem runP_eq : ∀ (n c : Nat) (st : List (D × Nat)), runP partsD n c st = runP withinD n c st
  | _, _, [] => by simp [runP]
  | 0, _, _ :: _ => rfl
  | n + 1, c, (d, k) :: r => by
    unfold runP
    rcases parts_within d with h | ⟨h1, ds, h2, h3⟩
    · rw [h]
      cases withinD d with
      | none => rfl
      | some ds =>
        simp only
        split
        · rfl
        · exact runP_eq n (c + 1) _
    · rw [h1, h2]
      simp only
      split
      · rfl
      · rename_i hc
        refine (runP_len withinD n (c + 1) _ (by omega) ?_).symm
        simp
        omega
def patD (d : D) : Bool := runP partsD 41 0 [(d, 1)]
end Dt
namespace Dt
open PySem PySem.Spec L2
def sp_is_leaf : DSp := fun ds S Q _ => ∃ (d : D) (dp : Nat), ds = [d] ∧ Nz 1048576 dp S d ∧ ∀ S', Ext S S' → Q (.bl (leafD d)) S'
theorem sp_is_leaf_mono : SpMono sp_is_leaf := fun ds S Q Q' E E' k _ ⟨d, dp, h1, h2, h⟩ => ⟨d, dp, h1, h2, fun S' e => k _ _ (h S' e)⟩
/-- None, or a new list -/
def sp_opt (f : D → Option (List D)) : DSp := fun ds S Q _ => ∃ (d : D) (dp : Nat), ds = [d] ∧ Nz 1048576 dp S d ∧ (f d = none → ∀ S', Ext S S' → Q .non S') ∧ ∀ es, f d = some es → ∀ q S', Ext S S' → S q = none → S' q = some (.lst es) → Q (.ref q) S'
theorem sp_opt_mono {f : D → Option (List D)} : SpMono (sp_opt f) := fun ds S Q Q' E E' k _ ⟨d, dp, h1, h2, h3, h4⟩ => ⟨d, dp, h1, h2, fun e S' x => k _ _ (h3 e S' x), fun es e q S' x f l => k _ _ (h4 es e q S' x f l)⟩
abbrev sp_parts_right : DSp := sp_opt partsD
abbrev sp_l_within : DSp := sp_opt withinD
theorem sp_parts_right_mono : SpMono sp_parts_right := sp_opt_mono
theorem sp_l_within_mono : SpMono sp_l_within := sp_opt_mono
end Dt
namespace Dt
open PySem PySem.Spec L2
section
variable {α : Type} {x y z : α} {xs : List α}
@[simp] theorem atI_0 : atI (x :: xs) 0 = some x := atI_nat (j := 0) rfl
@[simp] theorem atI_1 : atI (x :: y :: xs) 1 = some y := atI_nat (j := 1) rfl
@[simp] theorem atI_2 : atI (x :: y :: z :: xs) 2 = some z := atI_nat (j := 2) rfl
end
theorem one_ofT {S : DH} {d : D} {w dp : Nat} {ws : List Str} {Q : DK} {E : DXK} (hd : Nz w dp S d) (h : Q (.bl (isOne d ws)) S) : sp_is_one_of [d, .tup (ws.map D.str)] S Q E := by
  obtain ⟨n, hn⟩ := hd.ty
  exact ⟨d, _, n, ws, rfl, hn, .inl rfl, h⟩
end Dt
namespace Dt
open PySem PySem.Spec L2
/-- [None, []][b] -/
theorem pick01 {S : DH} {Q : DK} {b : Bool} (f0 : b = false → ∀ S', Ext S S' → Q .non S') (f1 : b = true → ∀ q S', Ext S S' → S q = none → S' q = some (.lst []) → Q (.ref q) S') :
    newO S (.lst []) fun p S' => newO S' (.lst [.non, .ref p]) fun p S' => dIxS (.ref p) (.int (if b = true then 1 else 0)) S' Q := by
  refine newO_of fun p S1 g a x _ => newO_of fun q S2 g2 a2 x2 _ => ?_
  cases b
  · simp [a2]
    exact f0 rfl S2 (x.trans x2)
  · simp [a2]
    exact f1 rfl p S2 (x.trans x2) g (x2 _ _ a)
end Dt
namespace Dt
open PySem PySem.Spec L2
def sp_is_pattern : DSp := fun ds S Q _ => ∃ (d : D) (dp : Nat), ds = [d] ∧ Nz 200000 dp S d ∧ dp ≤ 40 ∧ ∀ S', Ext S S' → Q (.bl (patD d)) S'
theorem sp_is_pattern_mono : SpMono sp_is_pattern := fun ds S Q Q' E E' k _ ⟨d, dp, h1, h2, h3, h⟩ => ⟨d, dp, h1, h2, h3, fun S' e => k _ _ (h S' e)⟩
abbrev sp_l_right : DSp := sp_is_pattern
theorem sp_l_right_mono : SpMono sp_l_right := sp_is_pattern_mono
theorem last_cc {α : Type} (ys : List α) (y : α) : (ys ++ [y])[(ys ++ [y]).length - 1]? = some y := by simp
theorem wts_len {ps : List PyData} : ps.length ≤ PyData.weightAll ps := by
  induction ps with
  | nil => exact Nat.zero_le _
  | cons p r ih => simp only [PyData.weightAll, List.length_cons]; omega
theorem PdA.len {S : DH} : ∀ {ps : List PyData} {ds : List D}, PdA S ds ps → ds.length = ps.length
  | [], _, h => by cases h; rfl
  | p :: ps, _, h => by cases h with | cons h1 h2 => simp [PdA.len h2]
theorem Nz.few {S : DH} {w dp : Nat} {ds : List D} (h : Nz w dp S (.tup ds)) : ds.length ≤ w := by
  obtain ⟨p, h1, h2⟩ := h
  cases h1 with
  | tup hs => rw [hs.len]; exact Nat.le_trans wts_len h2.wt
/-- the parts are kids of kids -/
theorem within_nz {S : DH} {w dp : Nat} {d : D} {es : List D} (h : Nz w dp S d) (e : withinD d = some es) : (∀ x ∈ es, Nz w dp S x) ∧ es.length ≤ w + 1 := by
  unfold withinD at e
  split at e
  · split at e
    · cases e; exact ⟨(fun _ z => nomatch z), Nat.zero_le _⟩
    · cases e
  · split at e
    · cases e; exact ⟨(fun _ z => nomatch z), Nat.zero_le _⟩
    · cases e
  · rename_i h0 x0
    have hx := h.kids x0 (by simp)
    split at e
    · split at e
      · cases e; exact ⟨(fun _ z => nomatch z), Nat.zero_le _⟩
      · cases e
    · split at e
      · cases e
        refine ⟨fun y hy => ?_, by simp⟩
        rw [List.mem_singleton.mp hy]
        exact hx
      · split at e
        · split at e
          · cases e
            exact ⟨hx.kids, Nat.le_succ_of_le hx.few⟩
          · cases e
        · cases e
  · cases e
theorem parts_nz {S : DH} {w dp : Nat} {d : D} {es : List D} (h : Nz w dp S d) (e : partsD d = some es) : (∀ x ∈ es, Nz w dp S x) ∧ es.length ≤ w + 1 := by
  rcases parts_within d with z | ⟨z, _⟩
  · exact within_nz h (z.symm.trans e)
  · rw [z] at e; cases e
end Dt
namespace Dt
open PySem PySem.Spec L2
/-- a name -/
def Nm (y : Str) : Prop := 1 ≤ y.length ∧ y.length ≤ 8 ∧ ∀ c ∈ y.cps.toList, 97 ≤ c ∧ c ≤ 122
def sp_l_names : DSp := fun ds S Q _ => ∃ (p : Addr) (m n : Nat) (o : Ob), ds = [.ref p, .int (m : Nat)] ∧ m ≤ 8 ∧ S p = some o ∧ FeedOb n o ∧ n < 2 ^ 90 ∧
  ∀ (q : Addr) (S' : DH) (o' : Ob) (ys : List Str), ExtB p S S' → S' p = some o' → FeedOb (n + 12) o' → S q = none → S' q = some (.lst (ys.map D.str)) → ys.length = m → (∀ y ∈ ys, Nm y) → ys.Nodup → Q (.ref q) S'
theorem sp_l_names_mono : SpMono sp_l_names := fun ds S Q Q' E E' k _ ⟨p, m, n, o, h1, h2, h3, h4, h5, h⟩ => ⟨p, m, n, o, h1, h2, h3, h4, h5, fun q S' o' ys a b c d e f g i => k _ _ (h q S' o' ys a b c d e f g i)⟩
end Dt
namespace Dt
open PySem PySem.Spec L2
/-! simp is kept out of what comes behind -/
theorem sp_l_next_cong {ds ds' : List D} {S : DH} {Q : DK} {E : DXK} (h : ds = ds') : sp_l_next ds S Q E = sp_l_next ds' S Q E := by rw [h]
theorem newO_cong {S : DH} {o o' : Ob} {Q : Addr → DH → Prop} (h : o = o') : newO S o Q = newO S o' Q := by rw [h]
theorem mJoin_cong {d d' : D} {ds : List D} {S : DH} {Q : DK} (h : d = d') : mJoin d ds S Q = mJoin d' ds S Q := by rw [h]
theorem dLcL_cong {g : DTG} {tt : DTT} {te : DTE} {E : DW} {τ : DSt} {G : DH → Prop} {p : Addr} {Q : DH → Prop} {ds ds' : List D} {S : DH} (h : ds = ds') : dLcL g tt te E τ G p Q ds S = dLcL g tt te E τ G p Q ds' S := by rw [h]
end Dt
namespace Dt
open PySem PySem.Spec L2
@[simp] theorem cutD_drop (ds : List D) (k : Nat) : cutD ds (some (k : Int)) none = ds.drop k := by
  unfold cutD
  rw [HT.sIx_nat, HT.sIx_none]
  rcases Nat.le_total k ds.length with h | h
  · rw [Nat.min_eq_left h]
    exact List.take_of_length_le (by simp)
  · rw [Nat.min_eq_right h, List.drop_eq_nil_of_le (Nat.le_refl _), List.drop_eq_nil_of_le h]
    simp
@[simp] theorem cutD_take (ds : List D) (k : Nat) : cutD ds none (some (k : Int)) = ds.take k := by
  unfold cutD
  rw [HT.sIx_nat, HT.sIx_none, List.drop_zero, Nat.sub_zero]
  rcases Nat.le_total k ds.length with h | h
  · rw [Nat.min_eq_left h]
  · rw [Nat.min_eq_right h, List.take_of_length_le (Nat.le_refl _), List.take_of_length_le h]
theorem cutS_take (x : Str) (k : Nat) : (cutS x none (some (k : Int))).cps.toList = x.cps.toList.take k := by
  have e : x.length = x.cps.toList.length := by simp [Str.length]
  show (x.cps.toList.drop (HT.sIx x.length 0 none)).take (HT.sIx x.length x.length (some (k : Int)) - HT.sIx x.length 0 none) = _
  rw [HT.sIx_nat, HT.sIx_none, List.drop_zero, Nat.sub_zero, e]
  rcases Nat.le_total k x.cps.toList.length with h | h
  · rw [Nat.min_eq_left h]
  · rw [Nat.min_eq_right h, List.take_of_length_le (Nat.le_refl _), List.take_of_length_le h]
theorem cutS_mid (x : Str) (a b : Nat) (ha : a ≤ b) (hb : b ≤ x.cps.toList.length) : (cutS x (some (a : Int)) (some (b : Int))).cps.toList = (x.cps.toList.drop a).take (b - a) := by
  have e : x.length = x.cps.toList.length := by simp [Str.length]
  show (x.cps.toList.drop (HT.sIx x.length 0 (some (a : Int)))).take (HT.sIx x.length x.length (some (b : Int)) - HT.sIx x.length 0 (some (a : Int))) = _
  rw [HT.sIx_nat, HT.sIx_nat, e, Nat.min_eq_left (Nat.le_trans ha hb), Nat.min_eq_left hb]
theorem str_len (x : Str) : x.length = x.cps.toList.length := by simp [Str.length]
theorem app_tl (x y : Str) : (x ++ y).cps.toList = x.cps.toList ++ y.cps.toList := by
  show (x.cps ++ y.cps).toList = _
  rw [Array.toList_append]
/-- one sign each, joined -/
theorem join_one : ∀ ys : List Str, (∀ y ∈ ys, ∃ c, y = ⟨#[c]⟩ ∧ 97 ≤ c ∧ c ≤ 122) → (Txt.join (.ofString "") ys).cps.toList.length = ys.length ∧ ∀ c ∈ (Txt.join (.ofString "") ys).cps.toList, 97 ≤ c ∧ c ≤ 122 := fun ys h => by
  rw [show Txt.join (.ofString "") ys = Str.join (.ofString "") ys from PySem.StrLaws.glued_eq_join ..]
  exact go ys h
where
  go : ∀ ys : List Str, (∀ y ∈ ys, ∃ c, y = ⟨#[c]⟩ ∧ 97 ≤ c ∧ c ≤ 122) → (Str.join (.ofString "") ys).cps.toList.length = ys.length ∧ ∀ c ∈ (Str.join (.ofString "") ys).cps.toList, 97 ≤ c ∧ c ≤ 122
  | [], _ => ⟨rfl, fun c hc => by cases hc⟩
  | [x], h => by
    obtain ⟨c, rfl, h1, h2⟩ := h x (List.mem_cons_self ..)
    exact ⟨rfl, fun d hd => by rw [List.mem_singleton.mp hd]; exact ⟨h1, h2⟩⟩
  | x :: z :: r, h => by
    obtain ⟨k1, k2⟩ := go (z :: r) fun y hy => h y (List.mem_cons_of_mem _ hy)
    obtain ⟨c, rfl, h1, h2⟩ := h x (List.mem_cons_self ..)
    have e : (Str.join (.ofString "") (⟨#[c]⟩ :: z :: r)).cps.toList = c :: (Str.join (.ofString "") (z :: r)).cps.toList := by
      show ((⟨#[c]⟩ : Str) ++ (Str.ofString "") ++ Str.join (.ofString "") (z :: r)).cps.toList = _
      rw [app_tl, app_tl]
      rfl
    rw [e]
    exact ⟨by simpa using k1, fun d hd => by
      rcases List.mem_cons.mp hd with rfl | hd
      · exact ⟨h1, h2⟩
      · exact k2 d hd⟩
theorem letter_at (j : Nat) (h : j < 26) : (Str.ofString "abcdefghijklmnopqrstuvwxyz").cps.toList[j]? = some (97 + j) := by
  have : ∀ j : Fin 26, (Str.ofString "abcdefghijklmnopqrstuvwxyz").cps.toList[j.val]? = some (97 + j.val) := by decide +kernel
  exact this ⟨j, h⟩
theorem signs_apart (st : Nat) (h : st < 26) : ((List.range 8).map fun k => 97 + (st + 5 * k) % 26).Nodup := by
  have : ∀ st : Fin 26, ((List.range 8).map fun k => 97 + (st.val + 5 * k) % 26).Nodup := by decide +kernel
  exact this ⟨st, h⟩
end Dt
namespace Dt
theorem nodup_of_map {α β : Type} (f : α → β) {l : List α} (h : (l.map f).Nodup) : l.Nodup := List.Pairwise.of_map f (fun _ _ h e => h (congrArg f e)) h
end Dt
namespace Dt
open PySem PySem.Spec L2
/-- what is kept is told by the kind itself: simp leaves it as it is -/
abbrev Ty {α : Sort u} (_ : α) : Type := Prop
abbrev Ty2 {α : Sort u} {β : Sort v} (_ : α) (_ : β) : Type := Prop
def hold {α : Sort u} (f : α → Prop) (a : α) : Ty a := f a
def hold2 {α : Sort u} {β : Sort v} (f : α → β → Prop) (a : α) (b : β) : Ty2 a b := f a b
end Dt
namespace Dt
open PySem PySem.Spec L2
def dLcLf (g : DTG) (tt : DTT) (te : DTE) (E : DW) (τ : DSt) (G : DH → Prop) (p : Addr) (ds : List D) (S : DH) (Q : DH → Prop) : Prop := dLcL g tt te E τ G p Q ds S
end Dt
set_option maxRecDepth 100000
set_option maxHeartbeats 4000000
/-! DatQ: drawn leaves and patterns. -/
namespace Dt
open PySem PySem.Spec L2
/-- words and marks by draws: names_here = [.., words, marks] -/
def NmsAt (S : DH) (nh : Addr) (ws ms : List Str) : Prop := ∃ (e0 : D) (a1 a2 : Addr), S nh = some (.lst [e0, .ref a1, .ref a2]) ∧ S a1 = some (.lst (ws.map D.str)) ∧ S a2 = some (.lst (ms.map D.str)) ∧ 1 ≤ ws.length ∧ ws.length ≤ 8 ∧ 1 ≤ ms.length ∧ ms.length ≤ 8 ∧ (∀ w ∈ ws, Nm w) ∧ ∀ m ∈ ms, Nm m
theorem NmsAt.extB {S S' : DH} {nh q : Addr} {ws ms : List Str} (h : NmsAt S nh ws ms) (hq : ∀ ds, S q ≠ some (.lst ds)) (e : ExtB q S S') : NmsAt S' nh ws ms := by
  obtain ⟨e0, a1, a2, h1, h2, h3, h4⟩ := h
  exact ⟨e0, a1, a2, e _ _ (fun z => hq _ (by rw [← z]; exact h1)) h1, e _ _ (fun z => hq _ (by rw [← z]; exact h2)) h2, e _ _ (fun z => hq _ (by rw [← z]; exact h3)) h3, h4⟩
theorem NmsAt.ext {S S' : DH} {nh : Addr} {ws ms : List Str} (h : NmsAt S nh ws ms) (e : Ext S S') : NmsAt S' nh ws ms := by
  obtain ⟨e0, a1, a2, h1, h2, h3, h4⟩ := h
  exact ⟨e0, a1, a2, e _ _ h1, e _ _ h2, e _ _ h3, h4⟩
theorem ExtB.refl (p : Addr) (S : DH) : ExtB p S S := fun _ _ _ h => h
theorem ExtB.trans {p : Addr} {S S1 S2 : DH} (a : ExtB p S S1) (b : ExtB p S1 S2) : ExtB p S S2 := fun x o n h => b x o n (a x o n h)
theorem ExtB.put {p : Addr} {S S1 : DH} {o : Ob} (a : ExtB p S S1) : ExtB p S (upo S1 p o) := fun x ob n h => by rw [upo_ne n]; exact a x ob n h
theorem ExtB.ext {p : Addr} {S S1 S2 : DH} (a : ExtB p S S1) (b : Ext S1 S2) : ExtB p S S2 := fun x o n h => b x o (a x o n h)
theorem Ext.b {p : Addr} {S S1 : DH} (b : Ext S S1) : ExtB p S S1 := fun x o n h => b x o h
/-- what stood free, stood free ahead -/
theorem ExtB.free {p b : Addr} {S S1 : DH} (h : ExtB p S S1) {o : Ob} (hp : S1 p = some o) (hb : S1 b = none) : S b = none := by
  cases z : S b with
  | none => rfl
  | some ob2 =>
    by_cases e : b = p
    · subst e; rw [hp] at hb; cases hb
    · have := h b ob2 e z
      rw [hb] at this
      cases this
def IsLf (ws ms : List Str) (d : D) : Prop := d = .tup [.str "stay"] ∨ (∃ a m : Str, (a = "at" ∨ a = "off") ∧ m ∈ ms ∧ d = .tup [.str a, .str m]) ∨ ∃ s w : Str, (s = "on" ∨ s = "back") ∧ (w = "*" ∨ w ∈ ws) ∧ d = .tup [.str "step", .str s, .str w]
def sp_l_leaf : DSp := fun ds S Q _ => ∃ (p nh : Addr) (ws ms : List Str) (n : Nat) (o : Ob), ds = [.ref p, .ref nh] ∧ S p = some o ∧ FeedOb n o ∧ n < 2 ^ 90 ∧ NmsAt S nh ws ms ∧
  ∀ (d : D) (S' : DH) (o' : Ob), ExtB p S S' → S' p = some o' → FeedOb (n + 3) o' → IsLf ws ms d → Q d S'
theorem sp_l_leaf_mono : SpMono sp_l_leaf := fun ds S Q Q' E E' k _ ⟨p, nh, ws, ms, n, o, h1, h2, h3, h4, h5, h⟩ => ⟨p, nh, ws, ms, n, o, h1, h2, h3, h4, h5, fun d S' o' a b c e => k _ _ (h d S' o' a b c e)⟩
/-- patterns of so much within one another -/
def IsPat (ws ms : List Str) : Nat → D → Prop
  | 0, d => IsLf ws ms d
  | n + 1, d => IsLf ws ms d ∨ (∃ e, d = .tup [.str "many", e] ∧ IsPat ws ms n e) ∨ ∃ (h : Str) (es : List D), d = .tup [.str h, .tup es] ∧ (h = "then" ∨ h = "either") ∧ es.length ≤ 3 ∧ ∀ e ∈ es, IsPat ws ms n e
theorem IsLf.pat {ws ms : List Str} {d : D} (h : IsLf ws ms d) : ∀ n, IsPat ws ms n d
  | 0 => h
  | _ + 1 => .inl h
def costP : Nat → Nat
  | 0 => 4
  | n + 1 => 5 + 3 * costP n
def sp_l_pattern (k : Nat) : DSp := fun ds S Q _ => ∃ (p nh : Addr) (j : Nat) (ws ms : List Str) (n : Nat) (o : Ob), ds = [.ref p, .ref nh, .int (j : Nat)] ∧ j ≤ k ∧ S p = some o ∧ FeedOb n o ∧ n + costP k < 2 ^ 90 ∧ NmsAt S nh ws ms ∧
  ∀ (d : D) (S' : DH) (o' : Ob), ExtB p S S' → S' p = some o' → FeedOb (n + costP k) o' → IsPat ws ms k d → Q d S'
theorem sp_l_pattern_mono (k : Nat) : SpMono (sp_l_pattern k) := fun ds S Q Q' E E' kk _ ⟨p, nh, j, ws, ms, n, o, h1, h0, h2, h3, h4, h5, h⟩ => ⟨p, nh, j, ws, ms, n, o, h1, h0, h2, h3, h4, h5, fun d S' o' a b c e => kk _ _ (h d S' o' a b c e)⟩
theorem sp_l_leaf_cong {ds ds' : List D} {S : DH} {Q : DK} {E : DXK} (h : ds = ds') : sp_l_leaf ds S Q E = sp_l_leaf ds' S Q E := by rw [h]
theorem sp_l_pattern_cong {k : Nat} {ds ds' : List D} {S : DH} {Q : DK} {E : DXK} (h : ds = ds') : sp_l_pattern k ds S Q E = sp_l_pattern k ds' S Q E := by rw [h]
theorem opt_cong {α : Type} {a a' : Option α} {k : α → Prop} (h : a = a') : opt a k = opt a' k := by rw [h]
end Dt
namespace Dt
open PySem PySem.Spec L2
theorem Nm.pl {y : Str} (h : Nm y) : Pl 8 y := ⟨h.2.1, fun c hc => Nat.lt_of_le_of_lt (h.2.2 c hc).2 (by decide)⟩
section
variable {S : DH} {ds : List D} {d : D}
theorem Nz.t1 (h : ∀ d ∈ ds, Nz 40 1 S d) (hn : ds.length ≤ 3) : Nz 130 2 S (.tup ds) := Nz.tup h hn (by decide)
theorem Nz.t2 (h : ∀ d ∈ ds, Nz 130 2 S d) (hn : ds.length ≤ 3) : Nz 400 3 S (.tup ds) := Nz.tup h hn (by decide)
end
theorem IsLf.nz {ws ms : List Str} {d : D} {S : DH} (h : IsLf ws ms d) (h1 : ∀ w ∈ ws, Nm w) (h2 : ∀ m ∈ ms, Nm m) : Nz 30 1 S d := by
  have nm : ∀ {y : Str}, Nm y → Nz 9 0 S (.str y) := fun h => Nz.str h.pl (by decide)
  rcases h with rfl | ⟨a, m, ha, hm, rfl⟩ | ⟨s, w, hs, hw, rfl⟩
  · refine Nz.tup (w := 9) (n := 3) (fun d hd => ?_) (by decide) (by decide)
    rw [List.mem_singleton.mp hd]
    exact Nz.lit _ (by decide +kernel)
  · refine Nz.tup (w := 9) (n := 3) (fun d hd => ?_) (by simp) (by decide)
    simp only [List.mem_cons, List.not_mem_nil, or_false] at hd
    rcases hd with rfl | rfl
    · rcases ha with rfl | rfl <;> exact Nz.lit _ (by decide +kernel)
    · exact nm (h2 m hm)
  · refine Nz.tup (w := 9) (n := 3) (fun d hd => ?_) (by simp) (by decide)
    simp only [List.mem_cons, List.not_mem_nil, or_false] at hd
    rcases hd with rfl | rfl | rfl
    · exact Nz.lit _ (by decide +kernel)
    · rcases hs with rfl | rfl <;> exact Nz.lit _ (by decide +kernel)
    · rcases hw with rfl | hw
      · exact Nz.lit _ (by decide +kernel)
      · exact nm (h1 w hw)
def wP : Nat → Nat
  | 0 => 30
  | k + 1 => 6 * wP k + 20
theorem wP_ge : ∀ k, 30 ≤ wP k
  | 0 => Nat.le_refl _
  | k + 1 => by have := wP_ge k; simp only [wP]; omega
theorem IsPat.nz {ws ms : List Str} {S : DH} (h1 : ∀ w ∈ ws, Nm w) (h2 : ∀ m ∈ ms, Nm m) : ∀ (k : Nat) (d : D), IsPat ws ms k d → Nz (wP k) (1 + 2 * k) S d
  | 0, d, h => (show IsLf ws ms d from h).nz h1 h2
  | k + 1, d, h => by
    have hk := wP_ge k
    rcases h with h | ⟨e, rfl, he⟩ | ⟨x, es, rfl, hx, hl, he⟩
    · exact (h.nz h1 h2).mono (wP_ge (k + 1)) (by omega)
    · refine (Nz.tup (w := wP k) (n := 2) (dp := 1 + 2 * k) (fun d hd => ?_) (by simp) (Nat.le_refl _)).mono (by simp only [wP]; omega) (by omega)
      simp only [List.mem_cons, List.not_mem_nil, or_false] at hd
      rcases hd with rfl | rfl
      · exact (Nz.lit (w := 9) _ (by decide +kernel)).mono (by omega) (Nat.le_refl _)
      · exact IsPat.nz h1 h2 k _ he
    · refine (Nz.tup (w := 3 * (wP k + 1)) (n := 2) (dp := 2 + 2 * k) (fun d hd => ?_) (by simp) (Nat.le_refl _)).mono (by simp only [wP]; omega) (by omega)
      simp only [List.mem_cons, List.not_mem_nil, or_false] at hd
      rcases hd with rfl | rfl
      · rcases hx with rfl | rfl <;> exact (Nz.lit (w := 9) _ (by decide +kernel)).mono (by omega) (Nat.le_refl _)
      · exact (Nz.tup (w := wP k) (n := 3) (dp := 1 + 2 * k) (fun d hd => IsPat.nz h1 h2 k d (he d hd)) hl (Nat.le_refl _)).mono (Nat.le_refl _) (by omega)
theorem IsPat.tup {ws ms : List Str} : ∀ {k : Nat} {d : D}, IsPat ws ms k d → ∃ es, d = .tup es
  | 0, d, h => by
    rcases (show IsLf ws ms d from h) with rfl | ⟨a, m, _, _, rfl⟩ | ⟨s, w, _, _, rfl⟩ <;> exact ⟨_, rfl⟩
  | k + 1, d, h => by
    rcases h with h | ⟨e, rfl, _⟩ | ⟨x, es, rfl, _⟩
    · exact IsPat.tup (k := 0) h
    · exact ⟨_, rfl⟩
    · exact ⟨_, rfl⟩
end Dt
namespace Dt
open PySem PySem.Spec L2
section
variable {S : DH} {w w' dp : Nat}
theorem PdA.app : ∀ {ps qs : List PyData} {ds es : List D}, PdA S ds ps → PdA S es qs → PdA S (ds ++ es) (ps ++ qs)
  | [], _, _, _, h, k => by cases h; exact k
  | p :: ps, _, _, _, h, k => by cases h with | cons h1 h2 => exact .cons h1 (PdA.app h2 k)
theorem PdA.cut : ∀ {ds es : List D} {ps : List PyData}, PdA S (ds ++ es) ps → ∃ qs rs, ps = qs ++ rs ∧ PdA S ds qs ∧ PdA S es rs
  | [], es, ps, h => ⟨[], ps, rfl, .nil, h⟩
  | d :: ds, es, ps, h => by
    cases h with
    | cons h1 h2 =>
      obtain ⟨qs, rs, rfl, h3, h4⟩ := PdA.cut h2
      exact ⟨_ :: qs, rs, rfl, .cons h1 h3, h4⟩
theorem all_app : ∀ ps qs : List PyData, PyData.showableAll (ps ++ qs) = (PyData.showableAll ps && PyData.showableAll qs) ∧ PyData.depthAll (ps ++ qs) = max (PyData.depthAll ps) (PyData.depthAll qs) ∧
    PyData.leavesShortAll 13 (ps ++ qs) = (PyData.leavesShortAll 13 ps && PyData.leavesShortAll 13 qs) ∧ PyData.canLayAll0 (ps ++ qs) = (PyData.canLayAll0 ps && PyData.canLayAll0 qs) ∧ PyData.weightAll (ps ++ qs) = PyData.weightAll ps + PyData.weightAll qs
  | [], qs => by simp [PyData.showableAll, PyData.depthAll, PyData.leavesShortAll, PyData.canLayAll0, PyData.weightAll]
  | p :: ps, qs => by
    obtain ⟨h1, h2, h3, h4, h5⟩ := all_app ps qs
    refine ⟨?_, ?_, ?_, ?_, ?_⟩
    · simp only [List.cons_append, PyData.showableAll, h1, Bool.and_assoc]
    · simp only [List.cons_append, PyData.depthAll, h2]; omega
    · simp only [List.cons_append, PyData.leavesShortAll, h3, Bool.and_assoc]
    · simp only [List.cons_append, PyData.canLayAll0, h4, Bool.and_assoc]
    · simp only [List.cons_append, PyData.weightAll, h5]; omega
theorem Nz.app {ds es : List D} (h : Nz w dp S (.tup ds)) (k : Nz w' dp S (.tup es)) : Nz (w + w') dp S (.tup (ds ++ es)) := by
  obtain ⟨p, h1, h2⟩ := h
  obtain ⟨q, k1, k2⟩ := k
  cases h1 with
  | tup hs =>
    cases k1 with
    | tup ks =>
      rename_i ps qs
      obtain ⟨a1, a2, a3, a4, a5⟩ := all_app ps qs
      refine ⟨_, .tup (hs.app ks), ?_, ?_, ?_, ?_, ?_⟩
      · show PyData.showableAll _ = true
        rw [a1, show PyData.showableAll ps = true from h2.sh, show PyData.showableAll qs = true from k2.sh]; rfl
      · show PyData.depthAll _ + 1 ≤ dp
        have b1 : PyData.depthAll ps + 1 ≤ dp := h2.dp
        have b2 : PyData.depthAll qs + 1 ≤ dp := k2.dp
        rw [a2]; omega
      · show PyData.leavesShortAll 13 _ = true
        rw [a3, show PyData.leavesShortAll 13 ps = true from h2.lf, show PyData.leavesShortAll 13 qs = true from k2.lf]; rfl
      · show PyData.canLayAll0 _ = true
        rw [a4, show PyData.canLayAll0 ps = true from h2.cl, show PyData.canLayAll0 qs = true from k2.cl]; rfl
      · show PyData.weightAll _ ≤ _
        have b1 : PyData.weightAll ps ≤ w := h2.wt
        have b2 : PyData.weightAll qs ≤ w' := k2.wt
        rw [a5]; omega
theorem Nz.split {ds es : List D} (h : Nz w dp S (.tup (ds ++ es))) : Nz w dp S (.tup ds) ∧ Nz w dp S (.tup es) := by
  obtain ⟨p, h1, h2⟩ := h
  cases h1 with
  | tup hs =>
    obtain ⟨qs, rs, rfl, k1, k2⟩ := hs.cut
    obtain ⟨a1, a2, a3, a4, a5⟩ := all_app qs rs
    have b1 : PyData.showableAll (qs ++ rs) = true := h2.sh
    have b2 : PyData.depthAll (qs ++ rs) + 1 ≤ dp := h2.dp
    have b3 : PyData.leavesShortAll 13 (qs ++ rs) = true := h2.lf
    have b4 : PyData.canLayAll0 (qs ++ rs) = true := h2.cl
    have b5 : PyData.weightAll (qs ++ rs) ≤ w := h2.wt
    rw [a1, Bool.and_eq_true] at b1
    rw [a2] at b2
    rw [a3, Bool.and_eq_true] at b3
    rw [a4, Bool.and_eq_true] at b4
    rw [a5] at b5
    exact ⟨⟨_, .tup k1, b1.1, (show PyData.depthAll qs + 1 ≤ dp by omega), b3.1, b4.1, (show PyData.weightAll qs ≤ w by omega)⟩, ⟨_, .tup k2, b1.2, (show PyData.depthAll rs + 1 ≤ dp by omega), b3.2, b4.2, (show PyData.weightAll rs ≤ w by omega)⟩⟩
theorem Nz.take {ds : List D} (h : Nz w dp S (.tup ds)) (k : Nat) : Nz w dp S (.tup (ds.take k)) := (Nz.split (es := ds.drop k) (by rw [List.take_append_drop]; exact h)).1
theorem Nz.drop {ds : List D} (h : Nz w dp S (.tup ds)) (k : Nat) : Nz w dp S (.tup (ds.drop k)) := (Nz.split (ds := ds.take k) (by rw [List.take_append_drop]; exact h)).2
theorem Nz.toL {ds : List D} {a : Addr} (h : Nz w dp S (.tup ds)) (e : S a = some (.lst ds)) : Nz w dp S (.ref a) := by
  obtain ⟨p, h1, h2⟩ := h
  cases h1 with
  | tup hs => exact ⟨_, .lst e hs, h2.sh, h2.dp, h2.lf, h2.cl, h2.wt⟩
theorem Nz.one {d : D} (h : Nz w dp S d) : Nz (w + 1) (dp + 1) S (.tup [d]) := Nz.tup (n := 1) (fun x hx => by rw [List.mem_singleton.mp hx]; exact h) (by simp) (by omega)
end
end Dt
namespace Dt
open PySem PySem.Spec L2
@[simp] theorem cutD_drop1 (ds : List D) (k : Nat) : cutD ds (some ((k : Int) + 1)) none = ds.drop (k + 1) := cutD_drop ds (k + 1)
@[simp] theorem cutD_take1 (ds : List D) (k : Nat) : cutD ds none (some ((k : Int) + 1)) = ds.take (k + 1) := cutD_take ds (k + 1)
end Dt
namespace Dt
open PySem PySem.Spec L2
/-- one statement at a time: what comes behind is a letter -/
theorem dSeq_gen {a b : DTS} {A : DEnds} {τ : DSt} {S : DH} (h : ∀ R, R = b → dSeq a R A τ S) : dSeq a b A τ S := h b rfl
end Dt
set_option maxRecDepth 100000
set_option maxHeartbeats 4000000
namespace K07
open PySem PySem.Spec L2 Dt
/-! the text by places -/
def topS (i : Nat) : Stmt := PySem.Challenge.pw_pathask_k07_what_is_a_pattern.main.body.getD i (.Pass ⟨0, 0, 0, 0⟩)
abbrev s_is_name : Stmt := topS 3
theorem sc_is_name : FnScope ["thing", "sign"] ["thing"] (defScope s_is_name) := ⟨rfl, rfl, rfl, by decide +kernel, rfl, by decide +kernel, by decide +kernel⟩
abbrev s_is_one_of : Stmt := topS 11
theorem sc_is_one_of : FnScope ["thing", "some"] ["thing", "some"] (defScope s_is_one_of) := ⟨rfl, rfl, rfl, by decide +kernel, rfl, by decide +kernel, by decide +kernel⟩
abbrev s_l_cell_at : Stmt := topS 16
theorem sc_l_cell_at : FnScope ["_law_script", "_law_k", "_law_seed"] ["_law_script", "_law_k"] (defScope s_l_cell_at) := ⟨rfl, rfl, rfl, by decide +kernel, rfl, by decide +kernel, by decide +kernel⟩
abbrev s_l_feed : Stmt := topS 17
theorem sc_l_feed : FnScope ["_law_cell"] ["_law_cell"] (defScope s_l_feed) := ⟨rfl, rfl, rfl, by decide +kernel, rfl, by decide +kernel, by decide +kernel⟩
abbrev s_l_next : Stmt := topS 18
theorem sc_l_next : FnScope ["_law_feed_here", "_law_many", "_law_found", "_law_one", "_law_two"] ["_law_feed_here", "_law_many"] (defScope s_l_next) := ⟨rfl, rfl, rfl, by decide +kernel, rfl, by decide +kernel, by decide +kernel⟩
abbrev s_l_is_name : Stmt := topS 22
theorem sc_l_is_name : FnScope ["_law_thing", "_law_sign"] ["_law_thing"] (defScope s_l_is_name) := ⟨rfl, rfl, rfl, by decide +kernel, rfl, by decide +kernel, by decide +kernel⟩
abbrev s_l_is_text : Stmt := topS 23
theorem sc_l_is_text : FnScope ["_law_thing", "_law_some"] ["_law_thing", "_law_some"] (defScope s_l_is_text) := ⟨rfl, rfl, rfl, by decide +kernel, rfl, by decide +kernel, by decide +kernel⟩
abbrev s_is_word : Stmt := topS 10
theorem sc_is_word : FnScope ["thing"] ["thing"] (defScope s_is_word) := ⟨rfl, rfl, rfl, by decide +kernel, rfl, by decide +kernel, by decide +kernel⟩
abbrev s_l_names : Stmt := topS 19
theorem sc_l_names : FnScope ["_law_feed_here", "_law_many", "_law_letters", "_law_word", "_law_way", "_law_turn", "_law_names_here", "_law_place", "_law_start", "_law_k", "_law_sign"] ["_law_feed_here", "_law_many"] (defScope s_l_names) := ⟨rfl, rfl, rfl, by decide +kernel, rfl, by decide +kernel, by decide +kernel⟩
abbrev s_l_leaf : Stmt := topS 20
theorem sc_l_leaf : FnScope ["_law_feed_here", "_law_names_here", "_law_way", "_law_word"] ["_law_feed_here", "_law_names_here"] (defScope s_l_leaf) := ⟨rfl, rfl, rfl, by decide +kernel, rfl, by decide +kernel, by decide +kernel⟩
abbrev s_l_within : Stmt := topS 24
theorem sc_l_within : FnScope ["_law_thing", "_law_good"] ["_law_thing"] (defScope s_l_within) := ⟨rfl, rfl, rfl, by decide +kernel, rfl, by decide +kernel, by decide +kernel⟩
abbrev s_is_leaf : Stmt := topS 12
theorem sc_is_leaf : FnScope ["thing"] ["thing"] (defScope s_is_leaf) := ⟨rfl, rfl, rfl, by decide +kernel, rfl, by decide +kernel, by decide +kernel⟩
abbrev s_l_right : Stmt := topS 25
theorem sc_l_right : FnScope ["_law_thing", "_law_left", "_law_count", "_law_deep", "_law_part", "_law_some", "_law_one"] ["_law_thing"] (defScope s_l_right) := ⟨rfl, rfl, rfl, by decide +kernel, rfl, by decide +kernel, by decide +kernel⟩
abbrev s_l_bad : Stmt := topS 26
theorem sc_l_bad : FnScope ["_law_feed_here", "_law_names_here", "_law_part", "_law_leaf_here", "_law_word", "_law_some"] ["_law_feed_here", "_law_names_here", "_law_part"] (defScope s_l_bad) := ⟨rfl, rfl, rfl, by decide +kernel, rfl, by decide +kernel, by decide +kernel⟩
abbrev s_l_great : Stmt := topS 28
theorem sc_l_great : FnScope ["_law_feed_here", "_law_names_here", "_law_leaf_here", "_law_pattern_here", "_law_k", "_law_some", "_law_many", "_law_head", "_law_other"] ["_law_feed_here", "_law_names_here"] (defScope s_l_great) := ⟨rfl, rfl, rfl, by decide +kernel, rfl, by decide +kernel, by decide +kernel⟩
abbrev s_parts_right : Stmt := topS 13
theorem sc_parts_right : FnScope ["thing"] ["thing"] (defScope s_parts_right) := ⟨rfl, rfl, rfl, by decide +kernel, rfl, by decide +kernel, by decide +kernel⟩
abbrev s_is_pattern : Stmt := topS 14
theorem sc_is_pattern : FnScope ["thing", "left", "count", "part", "deep", "some", "one"] ["thing"] (defScope s_is_pattern) := ⟨rfl, rfl, rfl, by decide +kernel, rfl, by decide +kernel, by decide +kernel⟩
abbrev s_l_pattern : Stmt := topS 21
theorem sc_l_pattern : FnScope ["_law_feed_here", "_law_names_here", "_law_deep", "_law_way", "_law_many", "_law_parts", "_law_k"] ["_law_feed_here", "_law_names_here", "_law_deep"] (defScope s_l_pattern) := ⟨rfl, rfl, rfl, by decide +kernel, rfl, by decide +kernel, by decide +kernel⟩
abbrev s_l_with : Stmt := topS 27
theorem sc_l_with : FnScope ["_law_pattern_here", "_law_feed_here", "_law_bad_here", "_law_at", "_law_part"] ["_law_pattern_here", "_law_feed_here", "_law_bad_here"] (defScope s_l_with) := ⟨rfl, rfl, rfl, by decide +kernel, rfl, by decide +kernel, by decide +kernel⟩
abbrev s_l_told : Stmt := topS 29
theorem sc_l_told : FnScope ["_law_thing", "_law_kept", "_law_found"] ["_law_thing"] (defScope s_l_told) := ⟨rfl, rfl, rfl, by decide +kernel, rfl, by decide +kernel, by decide +kernel⟩
abbrev s_law : Stmt := topS 30
theorem sc_law : FnScope ["_law_script", "_law_feed_here", "_law_names_here", "_law_k", "_law_pattern_here", "_law_bent", "_law_thing"] ["_law_script"] (defScope s_law) := ⟨rfl, rfl, rfl, by decide +kernel, rfl, by decide +kernel, by decide +kernel⟩
structure Txt (K : PySem.W.Frag) (mg : Str → Option Value) where
  a_is_name : Addr
  f_is_name : FuncData
  F_is_name : Fun K "is_name" "is_name" s_is_name a_is_name f_is_name
  m_is_name : mg "is_name" = some (.ref a_is_name)
  d_is_name : Binds K f_is_name ["thing"] []
  a_is_one_of : Addr
  f_is_one_of : FuncData
  F_is_one_of : Fun K "is_one_of" "is_one_of" s_is_one_of a_is_one_of f_is_one_of
  m_is_one_of : mg "is_one_of" = some (.ref a_is_one_of)
  d_is_one_of : Binds K f_is_one_of ["thing", "some"] []
  a_l_cell_at : Addr
  f_l_cell_at : FuncData
  F_l_cell_at : Fun K "_law_cell_at" "_law_cell_at" s_l_cell_at a_l_cell_at f_l_cell_at
  m_l_cell_at : mg "_law_cell_at" = some (.ref a_l_cell_at)
  d_l_cell_at : Binds K f_l_cell_at ["_law_script", "_law_k"] []
  a_l_feed : Addr
  f_l_feed : FuncData
  F_l_feed : Fun K "_law_feed" "_law_feed" s_l_feed a_l_feed f_l_feed
  m_l_feed : mg "_law_feed" = some (.ref a_l_feed)
  d_l_feed : Binds K f_l_feed ["_law_cell"] []
  a_l_next : Addr
  f_l_next : FuncData
  F_l_next : Fun K "_law_next" "_law_next" s_l_next a_l_next f_l_next
  m_l_next : mg "_law_next" = some (.ref a_l_next)
  d_l_next : Binds K f_l_next ["_law_feed_here", "_law_many"] []
  a_l_is_name : Addr
  f_l_is_name : FuncData
  F_l_is_name : Fun K "_law_is_name" "_law_is_name" s_l_is_name a_l_is_name f_l_is_name
  m_l_is_name : mg "_law_is_name" = some (.ref a_l_is_name)
  d_l_is_name : Binds K f_l_is_name ["_law_thing"] []
  a_l_is_text : Addr
  f_l_is_text : FuncData
  F_l_is_text : Fun K "_law_is_text" "_law_is_text" s_l_is_text a_l_is_text f_l_is_text
  m_l_is_text : mg "_law_is_text" = some (.ref a_l_is_text)
  d_l_is_text : Binds K f_l_is_text ["_law_thing", "_law_some"] []
  a_is_word : Addr
  f_is_word : FuncData
  F_is_word : Fun K "is_word" "is_word" s_is_word a_is_word f_is_word
  m_is_word : mg "is_word" = some (.ref a_is_word)
  d_is_word : Binds K f_is_word ["thing"] []
  a_l_names : Addr
  f_l_names : FuncData
  F_l_names : Fun K "_law_names" "_law_names" s_l_names a_l_names f_l_names
  m_l_names : mg "_law_names" = some (.ref a_l_names)
  d_l_names : Binds K f_l_names ["_law_feed_here", "_law_many"] []
  a_l_leaf : Addr
  f_l_leaf : FuncData
  F_l_leaf : Fun K "_law_leaf" "_law_leaf" s_l_leaf a_l_leaf f_l_leaf
  m_l_leaf : mg "_law_leaf" = some (.ref a_l_leaf)
  d_l_leaf : Binds K f_l_leaf ["_law_feed_here", "_law_names_here"] []
  a_l_within : Addr
  f_l_within : FuncData
  F_l_within : Fun K "_law_within" "_law_within" s_l_within a_l_within f_l_within
  m_l_within : mg "_law_within" = some (.ref a_l_within)
  d_l_within : Binds K f_l_within ["_law_thing"] []
  a_is_leaf : Addr
  f_is_leaf : FuncData
  F_is_leaf : Fun K "is_leaf" "is_leaf" s_is_leaf a_is_leaf f_is_leaf
  m_is_leaf : mg "is_leaf" = some (.ref a_is_leaf)
  d_is_leaf : Binds K f_is_leaf ["thing"] []
  a_l_right : Addr
  f_l_right : FuncData
  F_l_right : Fun K "_law_right" "_law_right" s_l_right a_l_right f_l_right
  m_l_right : mg "_law_right" = some (.ref a_l_right)
  d_l_right : Binds K f_l_right ["_law_thing"] []
  a_l_bad : Addr
  f_l_bad : FuncData
  F_l_bad : Fun K "_law_bad" "_law_bad" s_l_bad a_l_bad f_l_bad
  m_l_bad : mg "_law_bad" = some (.ref a_l_bad)
  d_l_bad : Binds K f_l_bad ["_law_feed_here", "_law_names_here", "_law_part"] []
  a_l_great : Addr
  f_l_great : FuncData
  F_l_great : Fun K "_law_great" "_law_great" s_l_great a_l_great f_l_great
  m_l_great : mg "_law_great" = some (.ref a_l_great)
  d_l_great : Binds K f_l_great ["_law_feed_here", "_law_names_here"] []
  a_parts_right : Addr
  f_parts_right : FuncData
  F_parts_right : Fun K "parts_right" "parts_right" s_parts_right a_parts_right f_parts_right
  m_parts_right : mg "parts_right" = some (.ref a_parts_right)
  d_parts_right : Binds K f_parts_right ["thing"] []
  a_is_pattern : Addr
  f_is_pattern : FuncData
  F_is_pattern : Fun K "is_pattern" "is_pattern" s_is_pattern a_is_pattern f_is_pattern
  m_is_pattern : mg "is_pattern" = some (.ref a_is_pattern)
  d_is_pattern : Binds K f_is_pattern ["thing"] []
  a_l_pattern : Addr
  f_l_pattern : FuncData
  F_l_pattern : Fun K "_law_pattern" "_law_pattern" s_l_pattern a_l_pattern f_l_pattern
  m_l_pattern : mg "_law_pattern" = some (.ref a_l_pattern)
  d_l_pattern : Binds K f_l_pattern ["_law_feed_here", "_law_names_here", "_law_deep"] []
  a_l_with : Addr
  f_l_with : FuncData
  F_l_with : Fun K "_law_with" "_law_with" s_l_with a_l_with f_l_with
  m_l_with : mg "_law_with" = some (.ref a_l_with)
  d_l_with : Binds K f_l_with ["_law_pattern_here", "_law_feed_here", "_law_bad_here"] []
  a_l_told : Addr
  f_l_told : FuncData
  F_l_told : Fun K "_law_told" "_law_told" s_l_told a_l_told f_l_told
  m_l_told : mg "_law_told" = some (.ref a_l_told)
  d_l_told : Binds K f_l_told ["_law_thing"] []
  a_law : Addr
  f_law : FuncData
  F_law : Fun K "law" "law" s_law a_law f_law
  m_law : mg "law" = some (.ref a_law)
  d_law : Binds K f_law ["_law_script"] []
  t_ANY_WORD : Tok
  g_ANY_WORD : mg "ANY_WORD" = some (.str "*" t_ANY_WORD)
  t_LETTERS : Tok
  g_LETTERS : mg "LETTERS" = some (.str "abcdefghijklmnopqrstuvwxyz" t_LETTERS)
  t_MOST_DEEP : Tok
  g_MOST_DEEP : mg "MOST_DEEP" = some (.int 10 t_MOST_DEEP)
  t_MOST_PARTS : Tok
  g_MOST_PARTS : mg "MOST_PARTS" = some (.int 40 t_MOST_PARTS)
  t_MOST_SIGNS : Tok
  g_MOST_SIGNS : mg "MOST_SIGNS" = some (.int 8 t_MOST_SIGNS)
  t_MOST_WITHIN : Tok
  g_MOST_WITHIN : mg "MOST_WITHIN" = some (.int 39 t_MOST_WITHIN)
  a_SIDES : Addr
  i_SIDES : Array Value
  n_SIDES : Nat
  o_SIDES : Option Addr
  s_SIDES : Array (Option Value)
  g_SIDES : mg "SIDES" = some (.ref a_SIDES)
  l_SIDES : K.lookup a_SIDES = some ⟨.type "tuple", o_SIDES, .seq i_SIDES n_SIDES, s_SIDES⟩
  z_SIDES : i_SIDES.size ≤ sizeLine
  v_SIDES : ∃ vs : List V, Vals vs i_SIDES.toList ∧ ∀ H, RDs K H [.str "on", .str "back"] vs
  b_all : mg "all" = none
  b_bool : mg "bool" = none
  b_int : mg "int" = none
  b_isinstance : mg "isinstance" = none
  b_len : mg "len" = none
  b_list : mg "list" = none
  b_max : mg "max" = none
  b_min : mg "min" = none
  b_range : mg "range" = none
  b_repr : mg "repr" = none
  b_str : mg "str" = none
  b_tuple : mg "tuple" = none
end K07
set_option maxRecDepth 100000
set_option maxHeartbeats 4000000
namespace K07
open PySem PySem.Spec L2 Dt

/-! l_cell_at -/
def t_l_cell_at : DTS := (dSeq (dIf (dTest (dOp rLt (dVar 1) (dCB cLen (dCons (dVar 0) dNil))))
      (dRet (dOp dIxS (dVar 0) (dVar 1)))
      dNx)
    (dSeq (dAsg (dC (.int 0)) (dGN 2))
    (dSeq (dIf (dTest (dOp rGt (dCB cLen (dCons (dVar 0) dNil)) (dC (.int 0))))
      (dAsg (dOp dIxS (dVar 0) (dOp rMod (dVar 1) (dCB cLen (dCons (dVar 0) dNil)))) (dGN 2))
      dNx)
    (dRet (dOp dAdd (dOp dAdd (dOp dMul (dOp rMod (dVar 2) (dC (.int 1000003))) (dC (.int 48271))) (dOp dMul (dC (.int 7919)) (dVar 1))) (dC (.int 1)))))))
theorem ok_l_cell_at {P : Program} {w : World} {K : PySem.W.Frag} {mg : Str → Option Value} {base : Heap} (T : Txt K mg) {sp : DSp}
    (mono : SpMono sp) (len : ∀ ds S Q E, sp ds S Q E → ds.length = 2)
    (h : ∀ ds S Q E, sp ds S Q E → t_l_cell_at { nx := fun _ S' => Q .non S', rt := Q, xe := fun C fs _ S' => E C fs S' } (dstart ["_law_script", "_law_k", "_law_seed"] ds) S) : DFn P w K mg base 1 T.a_l_cell_at T.f_l_cell_at ["_law_script", "_law_k"] sp := by
  refine dfn_of (t := t_l_cell_at) T.F_l_cell_at sc_l_cell_at mono len (fun cdv A outer s H E hr gu => ?_) h
  have hu1 := hu_of hr
  have hu2 := hu_big hr
  exact (dss_cons (ds_if (dt_cmp od_lt (dv 1) (de_callB cd_len (by rfl) T.b_len (by decide +kernel) (da_cons (dv 0) da_nil)) (nomark _))
      (dss_one (ds_ret (de_ix (ixD_any hu1) (dv 0) (dv 1))))
      dss_nil)
    (dss_cons (ds_set (i := 2) sc_l_cell_at.nd rfl (by first | exact Or.inl rfl | exact Or.inr rfl) de_int)
    (dss_cons (ds_if (dt_cmp od_gt (de_callB cd_len (by rfl) T.b_len (by decide +kernel) (da_cons (dv 0) da_nil)) de_int (nomark _))
      (dss_one (ds_set (i := 2) sc_l_cell_at.nd rfl (by first | exact Or.inl rfl | exact Or.inr rfl) (de_ix (ixD_any hu1) (dv 0) (de_op od_mod (dv 1) (de_callB cd_len (by rfl) T.b_len (by decide +kernel) (da_cons (dv 0) da_nil))))))
      dss_nil)
    (dss_one (ds_ret (de_op od_add (de_op od_add (de_op od_mul (de_op od_mod (dv 2) de_int) de_int) (de_op od_mul de_int (dv 1))) de_int))))))

/-! l_feed -/
def t_l_feed : DTS := (dRet (dDisp [("left", (dCB cMax2 (dCons (dC (.int 0)) (dCons (dOp rSub (dVar 0) (dOp rPow (dC (.int 10)) (dC (.int 18)))) dNil)))), ("seed", (dOp rMod (dVar 0) (dC (.int 1000003)))), ("drawn", (dC (.int 0)))]))
theorem ok_l_feed {P : Program} {w : World} {K : PySem.W.Frag} {mg : Str → Option Value} {base : Heap} (T : Txt K mg) {sp : DSp}
    (mono : SpMono sp) (len : ∀ ds S Q E, sp ds S Q E → ds.length = 1)
    (h : ∀ ds S Q E, sp ds S Q E → t_l_feed { nx := fun _ S' => Q .non S', rt := Q, xe := fun C fs _ S' => E C fs S' } (dstart ["_law_cell"] ds) S) : DFn P w K mg base 1 T.a_l_feed T.f_l_feed ["_law_cell"] sp := by
  refine dfn_of (t := t_l_feed) T.F_l_feed sc_l_feed mono len (fun cdv A outer s H E hr gu => ?_) h
  have hu1 := hu_of hr
  have hu2 := hu_big hr
  exact (dss_one (ds_ret (de_disp (DPs.cons (de_callB (cd_max2 rfl) (by rfl) T.b_max (by decide +kernel) (da_cons de_int (da_cons (de_op od_sub (dv 0) (de_op od_pow de_int de_int)) da_nil))) (DPs.cons (de_op od_mod (dv 0) de_int) (DPs.cons de_int DPs.nil))))))

/-! l_next -/
def t_l_next : DTS := (dSeq (dPut (dVar 0) (dC (.str "drawn")) (dOp dAdd (dOp dIxS (dVar 0) (dC (.str "drawn"))) (dC (.int 1))))
    (dSeq (dIf (dTest (dOp rGt (dOp dIxS (dVar 0) (dC (.str "left"))) (dC (.int 0))))
      (dSeq (dAsg (dOp rMod (dOp dIxS (dVar 0) (dC (.str "left"))) (dVar 1)) (dGN 2))
    (dSeq (dPut (dVar 0) (dC (.str "left")) (dOp rFdiv (dOp dIxS (dVar 0) (dC (.str "left"))) (dVar 1)))
    (dRet (dVar 2))))
      dNx)
    (dSeq (dAsg (dOp rMod (dOp dMul (dOp dAdd (dOp dIxS (dVar 0) (dC (.str "seed"))) (dC (.int 1))) (dOp dAdd (dOp dMul (dOp dIxS (dVar 0) (dC (.str "drawn"))) (dOp dIxS (dVar 0) (dC (.str "drawn")))) (dC (.int 48271)))) (dC (.int 65537))) (dGN 3))
    (dSeq (dAsg (dOp rMod (dOp dAdd (dOp dMul (dVar 3) (dVar 3)) (dOp dMul (dC (.int 30269)) (dOp dIxS (dVar 0) (dC (.str "drawn"))))) (dC (.int 65521))) (dGN 4))
    (dRet (dOp rMod (dOp rMod (dOp dAdd (dOp dMul (dVar 4) (dVar 4)) (dOp dMul (dC (.int 40503)) (dVar 3))) (dC (.int 65519))) (dVar 1)))))))
theorem ok_l_next {P : Program} {w : World} {K : PySem.W.Frag} {mg : Str → Option Value} {base : Heap} (T : Txt K mg) {sp : DSp}
    (mono : SpMono sp) (len : ∀ ds S Q E, sp ds S Q E → ds.length = 2)
    (h : ∀ ds S Q E, sp ds S Q E → t_l_next { nx := fun _ S' => Q .non S', rt := Q, xe := fun C fs _ S' => E C fs S' } (dstart ["_law_feed_here", "_law_many", "_law_found", "_law_one", "_law_two"] ds) S) : DFn P w K mg base 1 T.a_l_next T.f_l_next ["_law_feed_here", "_law_many"] sp := by
  refine dfn_of (t := t_l_next) T.F_l_next sc_l_next mono len (fun cdv A outer s H E hr gu => ?_) h
  have hu1 := hu_of hr
  have hu2 := hu_big hr
  exact (dss_cons (ds_put hu1 (dv 0) de_str (de_op od_add (de_ix (ixD_any hu1) (dv 0) de_str) de_int))
    (dss_cons (ds_if (dt_cmp od_gt (de_ix (ixD_any hu1) (dv 0) de_str) de_int (nomark _))
      (dss_cons (ds_set (i := 2) sc_l_next.nd rfl (by first | exact Or.inl rfl | exact Or.inr rfl) (de_op od_mod (de_ix (ixD_any hu1) (dv 0) de_str) (dv 1)))
    (dss_cons (ds_put hu1 (dv 0) de_str (de_op od_fdiv (de_ix (ixD_any hu1) (dv 0) de_str) (dv 1)))
    (dss_one (ds_ret (dv 2)))))
      dss_nil)
    (dss_cons (ds_set (i := 3) sc_l_next.nd rfl (by first | exact Or.inl rfl | exact Or.inr rfl) (de_op od_mod (de_op od_mul (de_op od_add (de_ix (ixD_any hu1) (dv 0) de_str) de_int) (de_op od_add (de_op od_mul (de_ix (ixD_any hu1) (dv 0) de_str) (de_ix (ixD_any hu1) (dv 0) de_str)) de_int)) de_int))
    (dss_cons (ds_set (i := 4) sc_l_next.nd rfl (by first | exact Or.inl rfl | exact Or.inr rfl) (de_op od_mod (de_op od_add (de_op od_mul (dv 3) (dv 3)) (de_op od_mul de_int (de_ix (ixD_any hu1) (dv 0) de_str))) de_int))
    (dss_one (ds_ret (de_op od_mod (de_op od_mod (de_op od_add (de_op od_mul (dv 4) (dv 4)) (de_op od_mul de_int (dv 3))) de_int) (dv 1))))))))
theorem r_l_next (ds S Q E) (h : sp_l_next ds S Q E) : t_l_next { nx := fun _ S' => Q .non S', rt := Q, xe := fun C fs _ S' => E C fs S' } (dstart ["_law_feed_here", "_law_many", "_law_found", "_law_one", "_law_two"] ds) S := by
  obtain ⟨p, m, n, o, rfl, h2, h3, h4, ⟨l, s, d, rfl, h5, h6, h7, h8, h9⟩, h10, h⟩ := h
  have b1 : Bd 101 (d + 1) := Bd.nat (n := n + 1) (by omega) (by omega) (by omega)
  have b2 : Bd 203 ((d + 1) * (d + 1) + 48271) := Bd.add (b1.mul b1) (show Bd 202 48271 by unfold Bd; decide)
  have b3 : Bd 20 (s + 1) := by unfold Bd; omega
  have b4 : ∀ x : Int, Bd 17 (x % 65537) := fun x => Bd.mod (by decide) (by unfold Bd; decide)
  have b5 : ∀ x : Int, Bd 17 (x % 65521) := fun x => Bd.mod (by decide) (by unfold Bd; decide)
  have c1 : CDivW l m := wide_div h2 (b := 100) (by omega) (by decide) (by decide)
  have e1 := Int.emod_nonneg l (show m ≠ 0 by omega)
  have e2 := Int.emod_lt_of_pos l h2
  have c2 := b1.cm b1
  have c3 := b3.cm b2
  have c4 := fun x y => (b4 x).cm (b4 y)
  have c5 := (show Bd 15 30269 by unfold Bd; decide).cm b1
  have c6 := fun x y => (b5 x).cm (b5 y)
  have c7 := fun x => (show Bd 16 40503 by unfold Bd; decide).cm (b4 x)
  simp [t_l_next, dstart, h4, lk, pt, h2, c1, c2, c3, c4, c5, c6, c7, upo_upo]
  split
  · exact h _ _ e1 e2 ⟨l / m, s, d + 1, rfl, Int.ediv_nonneg h5 (by omega), h6, h7, by omega, by omega⟩
  · exact h _ _ (Int.emod_nonneg _ (by omega)) (Int.emod_lt_of_pos _ h2) ⟨l, s, d + 1, rfl, h5, h6, h7, by omega, by omega⟩
theorem r_l_feed (ds S Q E) (h : sp_l_feed ds S Q E) : t_l_feed { nx := fun _ S' => Q .non S', rt := Q, xe := fun C fs _ S' => E C fs S' } (dstart ["_law_cell"] ds) S := by
  obtain ⟨c, rfl, h⟩ := h
  have c1 : CPow 10 18 := by unfold CPow; decide
  simp [t_l_feed, dstart, c1, mergeD, pt, lk, upo_upo]
  intro p hp
  simp [upo_upo]
  refine h p _ _ hp upo_same (Ext.new hp) ⟨_, _, _, rfl, ?_, Int.emod_nonneg _ (by decide), Int.emod_lt_of_pos _ (by decide), by decide, by decide⟩
  split <;> omega
theorem atI_map {ns : List Int} {k : Nat} (h : k < ns.length) : atI (ns.map D.int) (k : Int) = some (.int (ns.getD k 0)) := by
  refine atI_nat ?_
  simp [h]
theorem r_l_cell_at (ds S Q E) (h : sp_l_cell_at ds S Q E) : t_l_cell_at { nx := fun _ S' => Q .non S', rt := Q, xe := fun C fs _ S' => E C fs S' } (dstart ["_law_script", "_law_k", "_law_seed"] ds) S := by
  obtain ⟨ns, k, rfl, h2, h⟩ := h
  have b1 : ∀ x : Int, Bd 20 (x % 1000003) := fun x => Bd.mod (by decide) (by unfold Bd; decide)
  have c1 := fun x => (b1 x).cm (show Bd 17 48271 by unfold Bd; decide)
  have c2 := (show Bd 17 7919 by unfold Bd; decide).cm (show Bd 100 (k : Int) by unfold Bd; omega)
  simp [t_l_cell_at, dstart]
  unfold cellZ at h
  by_cases h3 : k < ns.length
  · rw [if_pos h3] at h
    rw [if_pos h3, atI_map h3]
    exact h
  · rw [if_neg h3] at h
    rw [if_neg h3]
    by_cases h4 : 0 < ns.length
    · rw [if_pos h4] at h
      rw [if_pos h4]
      have h5 : k % ns.length < ns.length := Nat.mod_lt _ h4
      have e : ((k : Int) % (ns.length : Int)) = ((k % ns.length : Nat) : Int) := by omega
      rw [e, atI_map h5]
      simp [h4, c1, c2]
      simpa using h
    · rw [if_neg h4] at h
      rw [if_neg h4]
      have c3 : CMulW 0 48271 := (show Bd 1 0 by unfold Bd; decide).cm (show Bd 17 48271 by unfold Bd; decide)
      simp [c3, c2]
      simpa using h
end K07
set_option maxRecDepth 100000
set_option maxHeartbeats 4000000
namespace K07
open PySem PySem.Spec L2 Dt

/-! is_name -/
def t_is_name : DTS := (dSeq (dIf (dOr (dNot (dTest (dIsi "str" (dVar 0)))) (dOr (dTest (dOp rLt (dCB cLen (dCons (dVar 0) dNil)) (dC (.int 1)))) (dTest (dOp rGt (dCB cLen (dCons (dVar 0) dNil)) (dC (.int 8))))))
      (dRet (dC (.bl false)))
      dNx)
    (dRet (dCB cAll (dCons (dLc (dSeqI (dVar 0)) (dGN 1) dYes (dOp (dInS false) (dVar 1) (dC (.str "abcdefghijklmnopqrstuvwxyz"))) [1]) dNil))))
theorem ok_is_name {P : Program} {w : World} {K : PySem.W.Frag} {mg : Str → Option Value} {base : Heap} (T : Txt K mg) {sp : DSp}
    (mono : SpMono sp) (len : ∀ ds S Q E, sp ds S Q E → ds.length = 1)
    (h : ∀ ds S Q E, sp ds S Q E → t_is_name { nx := fun _ S' => Q .non S', rt := Q, xe := fun C fs _ S' => E C fs S' } (dstart ["thing", "sign"] ds) S) : DFn P w K mg base 1 T.a_is_name T.f_is_name ["thing"] sp := by
  refine dfn_of (t := t_is_name) T.F_is_name sc_is_name mono len (fun cdv A outer s H E hr gu => ?_) h
  have hu1 := hu_of hr
  have hu2 := hu_big hr
  exact (dss_cons (ds_if (DWt.pt (dw_or (dt_not (dt_val (de_isi (T := "str") (by decide) (dv 0) (by rfl) T.b_isinstance (by rfl) T.b_str (by decide +kernel)))) (dw_or (dt_cmp od_lt (de_callB cd_len (by rfl) T.b_len (by decide +kernel) (da_cons (dv 0) da_nil)) de_int (nomark _)) (dw_or1 (dt_cmp od_gt (de_callB cd_len (by rfl) T.b_len (by decide +kernel) (da_cons (dv 0) da_nil)) (de_gint (by rfl) T.g_MOST_SIGNS) (nomark _))))))
      (dss_one (ds_ret de_bl))
      dss_nil)
    (dss_one (ds_ret (de_callB (cd_all rfl) (by rfl) T.b_all (by decide +kernel) (da_cons (de_lc (own := [("sign", 1)]) rfl sc_is_name.nd (di_seq (dv 0)) (blkOk_by (own := [("sign", 1)]) (N := ["thing", "sign"]) (sc := defScope s_is_name) (by decide +kernel)) ⟨fun _ _ _ _ _ => (dw_name (i := 1) sc_is_name.nd rfl (by first | exact Or.inl rfl | exact Or.inr rfl) (by decide)), fun _ _ _ _ _ => dts_nil, fun _ _ _ _ _ => (de_cmp od_inS (dv 1) (de_gstr (by rfl) T.g_LETTERS) (by rfl))⟩) da_nil)))))

/-! l_is_name -/
def t_l_is_name : DTS := (dSeq (dIf (dOr (dNot (dTest (dIsi "str" (dVar 0)))) (dNot (dTest (dChain rLe rLe (dC (.int 1)) (dCB cLen (dCons (dVar 0) dNil)) (dC (.int 8))))))
      (dRet (dC (.bl false)))
      dNx)
    (dRet (dOp rGe (dCB cMinL (dCons (dLc (dSeqI (dVar 0)) (dGN 1) dYes (dBM "str" mFind (dC (.str "abcdefghijklmnopqrstuvwxyz")) (dCons (dVar 1) dNil)) [1]) dNil)) (dC (.int 0)))))
theorem ok_l_is_name {P : Program} {w : World} {K : PySem.W.Frag} {mg : Str → Option Value} {base : Heap} (T : Txt K mg) {sp : DSp}
    (mono : SpMono sp) (len : ∀ ds S Q E, sp ds S Q E → ds.length = 1)
    (h : ∀ ds S Q E, sp ds S Q E → t_l_is_name { nx := fun _ S' => Q .non S', rt := Q, xe := fun C fs _ S' => E C fs S' } (dstart ["_law_thing", "_law_sign"] ds) S) : DFn P w K mg base 1 T.a_l_is_name T.f_l_is_name ["_law_thing"] sp := by
  refine dfn_of (t := t_l_is_name) T.F_l_is_name sc_l_is_name mono len (fun cdv A outer s H E hr gu => ?_) h
  have hu1 := hu_of hr
  have hu2 := hu_big hr
  exact (dss_cons (ds_if (DWt.pt (dw_or (dt_not (dt_val (de_isi (T := "str") (by decide) (dv 0) (by rfl) T.b_isinstance (by rfl) T.b_str (by decide +kernel)))) (dw_or1 (dt_not (dt_chain od_le od_le de_int (de_callB cd_len (by rfl) T.b_len (by decide +kernel) (da_cons (dv 0) da_nil)) de_int)))))
      (dss_one (ds_ret de_bl))
      dss_nil)
    (dss_one (ds_ret (de_cmp od_ge (de_callB (cd_minL rfl) (by rfl) T.b_min (by decide +kernel) (da_cons (de_lc (own := [("_law_sign", 1)]) rfl sc_l_is_name.nd (di_seq (dv 0)) (blkOk_by (own := [("_law_sign", 1)]) (N := ["_law_thing", "_law_sign"]) (sc := defScope s_l_is_name) (by decide +kernel)) ⟨fun _ _ _ _ _ => (dw_name (i := 1) sc_l_is_name.nd rfl (by first | exact Or.inl rfl | exact Or.inr rfl) (by decide)), fun _ _ _ _ _ => dts_nil, fun _ _ _ _ _ => (de_bm PySem.F.plainAttrs_str PySem.F.slot_str_find PySem.F.type_str_find md_find de_str (da_cons (dv 1) da_nil))⟩) da_nil)) de_int (nomark _)))))
theorem r_is_name (ds S Q E) (h : sp_is_name ds S Q E) : t_is_name { nx := fun _ S' => Q .non S', rt := Q, xe := fun C fs _ S' => E C fs S' } (dstart ["thing", "sign"] ds) S := by
  obtain ⟨d, n, rfl, h2, h3, h⟩ := h
  by_cases hn : n = "str"
  · subst hn
    cases d with
    | str x =>
      have hx := h3 x rfl
      simp [t_is_name, dstart]
      have hl : (x.length : Int) < 1 ↔ ¬ 1 ≤ x.length := by omega
      have hs : x.cps.toList.length = x.length := by simp [Str.length]
      refine ⟨by omega, ?_⟩
      split
      · rename_i h4
        have e : isNm (.str x) = false := by simp [isNm]; omega
        rw [e] at h
        exact h S (Ext.refl S)
      · refine ⟨by omega, ?_⟩
        split
        · rename_i h4
          have e : isNm (.str x) = false := by simp [isNm]; omega
          rw [e] at h
          exact h S (Ext.refl S)
        · rename_i h4 h5
          refine newO_of fun p S1 hp a1 x1 _ => ?_
          refine lc_map (fun d => .bl (hit d)) _ a1 (fun _ => trivial) (fun d hd acc N hN hl => ?_) (by simp [hs]; omega) ?_
          · obtain ⟨c, hc, rfl⟩ := List.mem_map.mp hd
            simp [signD]
            exact ⟨hl, hN⟩
          · have e : isNm (.str x) = (((x.cps.toList.map signD).map hit).all id) := by
              have h6 : 1 ≤ x.length := by omega
              have h7 : x.length ≤ 8 := by omega
              simp [isNm, h6, h7, List.all_map]
            rw [e] at h
            refine ⟨p, (x.cps.toList.map signD).map hit, rfl, ?_, h _ (Ext.put x1 hp)⟩
            simp
    | ref a => rw [tyName_ref] at h2; split at h2 <;> simp at h2
    | _ => simp at h2
  · have e := isNm_no h2 hn
    rw [e] at h
    simp [t_is_name, dstart, h2, hn]
    exact h S (Ext.refl S)
theorem r_l_is_name (ds S Q E) (h : sp_is_name ds S Q E) : t_l_is_name { nx := fun _ S' => Q .non S', rt := Q, xe := fun C fs _ S' => E C fs S' } (dstart ["_law_thing", "_law_sign"] ds) S := by
  obtain ⟨d, n, rfl, h2, h3, h⟩ := h
  by_cases hn : n = "str"
  · subst hn
    cases d with
    | str x =>
      have hx := h3 x rfl
      have hs : x.cps.toList.length = x.length := by simp [Str.length]
      simp [t_l_is_name, dstart]
      refine ⟨by omega, ?_⟩
      have bad : ¬ (1 ≤ x.length ∧ x.length ≤ 8) → Q (.bl false) S := fun hb => by
        have e : isNm (.str x) = false := by
          simp [isNm]
          omega
        rw [e] at h
        exact h S (Ext.refl S)
      split
      · split
        · refine newO_of fun p S1 hp a1 x1 _ => ?_
          refine lc_map (fun d => .int (fnd d)) _ a1 (fun _ => trivial) (fun d hd acc N hN hl => ?_) (by simp [hs]; omega) ?_
          · obtain ⟨c, hc, rfl⟩ := List.mem_map.mp hd
            simp [signD]
            exact ⟨hl, hN⟩
          · refine ⟨p, (x.cps.toList.map signD).map fnd, rfl, ?_, ?_, fun m hm hle => ?_⟩
            · simp
            · simp [hs]
              omega
            · have e : isNm (.str x) = decide (0 ≤ m) := by
                rw [min_ge hm hle]
                have h6 : 1 ≤ x.length := by omega
                have h7 : x.length ≤ 8 := by omega
                simp only [isNm, h6, h7, decide_true, Bool.true_and, List.all_map]
                refine congrArg (fun f => x.cps.toList.all f) (funext fun c => ?_)
                exact (find_ge ⟨#[c]⟩).symm
              rw [e] at h
              have := h _ (Ext.put (o := .lst ((x.cps.toList.map signD).map fun d => .int (fnd d))) x1 hp)
              simpa using this
        · exact bad (by omega)
      · exact bad (by omega)
    | ref a => rw [tyName_ref] at h2; split at h2 <;> simp at h2
    | _ => simp at h2
  · have e := isNm_no h2 hn
    rw [e] at h
    simp [t_l_is_name, dstart, h2, hn]
    exact h S (Ext.refl S)
end K07
set_option maxRecDepth 100000
set_option maxHeartbeats 4000000
namespace K07
open PySem PySem.Spec L2 Dt

/-! is_one_of -/
def t_is_one_of : DTS := (dRet (dAndV (dIsi "str" (dVar 0)) (dOp (dIn false) (dVar 0) (dVar 1))))
theorem ok_is_one_of {P : Program} {w : World} {K : PySem.W.Frag} {mg : Str → Option Value} {base : Heap} (T : Txt K mg) {sp : DSp}
    (mono : SpMono sp) (len : ∀ ds S Q E, sp ds S Q E → ds.length = 2)
    (h : ∀ ds S Q E, sp ds S Q E → t_is_one_of { nx := fun _ S' => Q .non S', rt := Q, xe := fun C fs _ S' => E C fs S' } (dstart ["thing", "some"] ds) S) : DFn P w K mg base 1 T.a_is_one_of T.f_is_one_of ["thing", "some"] sp := by
  refine dfn_of (t := t_is_one_of) T.F_is_one_of sc_is_one_of mono len (fun cdv A outer s H E hr gu => ?_) h
  have hu1 := hu_of hr
  have hu2 := hu_big hr
  exact (dss_one (ds_ret (de_and (de_isi (T := "str") (by decide) (dv 0) (by rfl) T.b_isinstance (by rfl) T.b_str (by decide +kernel)) (de_one (de_cmp (od_in hu1) (dv 0) (dv 1) (by rfl))))))

/-! l_is_text -/
def t_l_is_text : DTS := (dRet (dAndV (dIsi "str" (dVar 0)) (dOp (dIn false) (dVar 0) (dVar 1))))
theorem ok_l_is_text {P : Program} {w : World} {K : PySem.W.Frag} {mg : Str → Option Value} {base : Heap} (T : Txt K mg) {sp : DSp}
    (mono : SpMono sp) (len : ∀ ds S Q E, sp ds S Q E → ds.length = 2)
    (h : ∀ ds S Q E, sp ds S Q E → t_l_is_text { nx := fun _ S' => Q .non S', rt := Q, xe := fun C fs _ S' => E C fs S' } (dstart ["_law_thing", "_law_some"] ds) S) : DFn P w K mg base 1 T.a_l_is_text T.f_l_is_text ["_law_thing", "_law_some"] sp := by
  refine dfn_of (t := t_l_is_text) T.F_l_is_text sc_l_is_text mono len (fun cdv A outer s H E hr gu => ?_) h
  have hu1 := hu_of hr
  have hu2 := hu_big hr
  exact (dss_one (ds_ret (de_and (de_isi (T := "str") (by decide) (dv 0) (by rfl) T.b_isinstance (by rfl) T.b_str (by decide +kernel)) (de_one (de_cmp (od_in hu1) (dv 0) (dv 1) (by rfl))))))

/-! is_word -/
def t_is_word : DTS := (dRet (dOrV (dCall sp_is_name (dCons (dVar 0) dNil)) (dAndV (dIsi "str" (dVar 0)) (dOp (dEq false) (dVar 0) (dC (.str "*"))))))
theorem ok_is_word {P : Program} {w : World} {K : PySem.W.Frag} {mg : Str → Option Value} {base : Heap} (T : Txt K mg) (G_is_name : DFn P w K mg base 1 T.a_is_name T.f_is_name ["thing"] sp_is_name) {sp : DSp}
    (mono : SpMono sp) (len : ∀ ds S Q E, sp ds S Q E → ds.length = 1)
    (h : ∀ ds S Q E, sp ds S Q E → t_is_word { nx := fun _ S' => Q .non S', rt := Q, xe := fun C fs _ S' => E C fs S' } (dstart ["thing"] ds) S) : DFn P w K mg base 2 T.a_is_word T.f_is_word ["thing"] sp := by
  refine dfn_of (t := t_is_word) T.F_is_word sc_is_word mono len (fun cdv A outer s H E hr gu => ?_) h
  have hu1 := hu_of hr
  have hu2 := hu_big hr
  exact (dss_one (ds_ret (de_or (de_call G_is_name (hr.mono (by decide)) gu (by rfl) T.m_is_name T.F_is_name.kp T.d_is_name (da_cons (dv 0) da_nil)) (de_one (de_and (de_isi (T := "str") (by decide) (dv 0) (by rfl) T.b_isinstance (by rfl) T.b_str (by decide +kernel)) (de_one (de_cmp (od_eq hr.units) (dv 0) (de_gstr (by rfl) T.g_ANY_WORD) (nomark _))))))))
theorem r_is_one_of (ds S Q E) (h : sp_is_one_of ds S Q E) : t_is_one_of { nx := fun _ S' => Q .non S', rt := Q, xe := fun C fs _ S' => E C fs S' } (dstart ["thing", "some"] ds) S := by
  obtain ⟨d, e, n, ws, rfl, h2, h3, h⟩ := h
  by_cases hn : n = "str"
  · subst hn
    cases d with
    | str x =>
      have h' : Q (.bl (ws.any fun w => w == x)) S := h
      rcases h3 with rfl | ⟨q, rfl, hq⟩
      · simp [t_is_one_of, dstart, inF_map, all_flD]
        exact h'
      · simp [t_is_one_of, dstart, inF_map, all_flD, hq]
        exact h'
    | ref a => rw [tyName_ref] at h2; split at h2 <;> simp at h2
    | _ => simp at h2
  · rw [isOne_no h2 hn] at h
    simp [t_is_one_of, dstart, h2, hn]
    exact h
theorem r_l_is_text (ds S Q E) (h : sp_is_one_of ds S Q E) : t_l_is_text { nx := fun _ S' => Q .non S', rt := Q, xe := fun C fs _ S' => E C fs S' } (dstart ["_law_thing", "_law_some"] ds) S := r_is_one_of ds S Q E h
theorem r_is_word (ds S Q E) (h : sp_is_word ds S Q E) : t_is_word { nx := fun _ S' => Q .non S', rt := Q, xe := fun C fs _ S' => E C fs S' } (dstart ["thing"] ds) S := by
  obtain ⟨d, dp, rfl, hd, h⟩ := h
  simp [t_is_word, dstart]
  refine hd.name fun S1 e1 => ?_
  have hd1 := hd.ext e1
  obtain ⟨n, hn⟩ := hd1.ty
  have h1 := h S1 e1
  unfold wordD at h1
  by_cases e : isNm d = true
  · simp [e] at h1 ⊢
    exact h1
  · simp [e] at h1 ⊢
    by_cases hs : n = "str"
    · subst hs
      cases d with
      | str x =>
        simp [isOne] at h1 ⊢
        rw [BEq.comm]
        exact h1
      | ref a => rw [tyName_ref] at hn; split at hn <;> simp at hn
      | _ => simp at hn
    · rw [isOne_no hn hs] at h1
      simp [hn, hs]
      exact h1
end K07
set_option maxRecDepth 100000
set_option maxHeartbeats 4000000
namespace K07
open PySem PySem.Spec L2 Dt

/-! is_leaf -/
def t_is_leaf : DTS := (dSeq (dIf (dOr (dNot (dTest (dIsi "tuple" (dVar 0)))) (dTest (dOp (dEq false) (dCB cLen (dCons (dVar 0) dNil)) (dC (.int 0)))))
      (dRet (dC (.bl false)))
      dNx)
    (dSeq (dIf (dTest (dCall sp_is_one_of (dCons (dOp dIxS (dVar 0) (dC (.int 0))) (dCons (dLst (dCons (dC (.str "stay")) dNil)) dNil))))
      (dRet (dOp (dEq false) (dCB cLen (dCons (dVar 0) dNil)) (dC (.int 1))))
      dNx)
    (dSeq (dIf (dTest (dCall sp_is_one_of (dCons (dOp dIxS (dVar 0) (dC (.int 0))) (dCons (dLst (dCons (dC (.str "step")) dNil)) dNil))))
      (dRet (dAndV (dOp (dEq false) (dCB cLen (dCons (dVar 0) dNil)) (dC (.int 3))) (dAndV (dCall sp_is_one_of (dCons (dOp dIxS (dVar 0) (dC (.int 1))) (dCons (dC (.tup [.str "on", .str "back"])) dNil))) (dCall sp_is_word (dCons (dOp dIxS (dVar 0) (dC (.int 2))) dNil)))))
      dNx)
    (dRet (dAndV (dCall sp_is_one_of (dCons (dOp dIxS (dVar 0) (dC (.int 0))) (dCons (dLst (dCons (dC (.str "at")) (dCons (dC (.str "off")) dNil))) dNil))) (dAndV (dOp (dEq false) (dCB cLen (dCons (dVar 0) dNil)) (dC (.int 2))) (dCall sp_is_name (dCons (dOp dIxS (dVar 0) (dC (.int 1))) dNil))))))))
theorem ok_is_leaf {P : Program} {w : World} {K : PySem.W.Frag} {mg : Str → Option Value} {base : Heap} (T : Txt K mg) (G_is_name : DFn P w K mg base 1 T.a_is_name T.f_is_name ["thing"] sp_is_name) (G_is_one_of : DFn P w K mg base 1 T.a_is_one_of T.f_is_one_of ["thing", "some"] sp_is_one_of) (G_is_word : DFn P w K mg base 2 T.a_is_word T.f_is_word ["thing"] sp_is_word) {sp : DSp}
    (mono : SpMono sp) (len : ∀ ds S Q E, sp ds S Q E → ds.length = 1)
    (h : ∀ ds S Q E, sp ds S Q E → t_is_leaf { nx := fun _ S' => Q .non S', rt := Q, xe := fun C fs _ S' => E C fs S' } (dstart ["thing"] ds) S) : DFn P w K mg base 3 T.a_is_leaf T.f_is_leaf ["thing"] sp := by
  refine dfn_of (t := t_is_leaf) T.F_is_leaf sc_is_leaf mono len (fun cdv A outer s H E hr gu => ?_) h
  have hu1 := hu_of hr
  have hu2 := hu_big hr
  exact (dss_cons (ds_if (DWt.pt (dw_or (dt_not (dt_val (de_isi (T := "tuple") (by decide) (dv 0) (by rfl) T.b_isinstance (by rfl) T.b_tuple (by decide +kernel)))) (dw_or1 (dt_cmp (od_eq hr.units) (de_callB cd_len (by rfl) T.b_len (by decide +kernel) (da_cons (dv 0) da_nil)) de_int (nomark _)))))
      (dss_one (ds_ret de_bl))
      dss_nil)
    (dss_cons (ds_if (dt_val (de_call G_is_one_of (hr.mono (by decide)) gu (by rfl) T.m_is_one_of T.F_is_one_of.kp T.d_is_one_of (da_cons (de_ix (ixD_any hu1) (dv 0) de_int) (da_cons (de_lst (da_cons de_str da_nil)) da_nil))))
      (dss_one (ds_ret (de_cmp (od_eq hr.units) (de_callB cd_len (by rfl) T.b_len (by decide +kernel) (da_cons (dv 0) da_nil)) de_int (nomark _))))
      dss_nil)
    (dss_cons (ds_if (dt_val (de_call G_is_one_of (hr.mono (by decide)) gu (by rfl) T.m_is_one_of T.F_is_one_of.kp T.d_is_one_of (da_cons (de_ix (ixD_any hu1) (dv 0) de_int) (da_cons (de_lst (da_cons de_str da_nil)) da_nil))))
      (dss_one (ds_ret (de_and (de_cmp (od_eq hr.units) (de_callB cd_len (by rfl) T.b_len (by decide +kernel) (da_cons (dv 0) da_nil)) de_int (nomark _)) (de_and (de_call G_is_one_of (hr.mono (by decide)) gu (by rfl) T.m_is_one_of T.F_is_one_of.kp T.d_is_one_of (da_cons (de_ix (ixD_any hu1) (dv 0) de_int) (da_cons (de_gtup (by rfl) T.g_SIDES T.l_SIDES T.z_SIDES T.v_SIDES) da_nil))) (de_one (de_call G_is_word (hr.mono (by decide)) gu (by rfl) T.m_is_word T.F_is_word.kp T.d_is_word (da_cons (de_ix (ixD_any hu1) (dv 0) de_int) da_nil)))))))
      dss_nil)
    (dss_one (ds_ret (de_and (de_call G_is_one_of (hr.mono (by decide)) gu (by rfl) T.m_is_one_of T.F_is_one_of.kp T.d_is_one_of (da_cons (de_ix (ixD_any hu1) (dv 0) de_int) (da_cons (de_lst (da_cons de_str (da_cons de_str da_nil))) da_nil))) (de_and (de_cmp (od_eq hr.units) (de_callB cd_len (by rfl) T.b_len (by decide +kernel) (da_cons (dv 0) da_nil)) de_int (nomark _)) (de_one (de_call G_is_name (hr.mono (by decide)) gu (by rfl) T.m_is_name T.F_is_name.kp T.d_is_name (da_cons (de_ix (ixD_any hu1) (dv 0) de_int) da_nil))))))))))

/-! parts_right -/
def t_parts_right : DTS := (dSeq (dIf (dTest (dCall sp_is_leaf (dCons (dVar 0) dNil)))
      (dRet (dLst dNil))
      dNx)
    (dSeq (dIf (dOr (dNot (dTest (dIsi "tuple" (dVar 0)))) (dTest (dOp (dEq true) (dCB cLen (dCons (dVar 0) dNil)) (dC (.int 2)))))
      (dRet (dC .non))
      dNx)
    (dSeq (dIf (dTest (dCall sp_is_one_of (dCons (dOp dIxS (dVar 0) (dC (.int 0))) (dCons (dLst (dCons (dC (.str "many")) dNil)) dNil))))
      (dRet (dLst (dCons (dOp dIxS (dVar 0) (dC (.int 1))) dNil)))
      dNx)
    (dSeq (dIf (dOr (dNot (dTest (dCall sp_is_one_of (dCons (dOp dIxS (dVar 0) (dC (.int 0))) (dCons (dLst (dCons (dC (.str "then")) (dCons (dC (.str "either")) dNil))) dNil))))) (dNot (dTest (dIsi "tuple" (dOp dIxS (dVar 0) (dC (.int 1)))))))
      (dRet (dC .non))
      dNx)
    (dSeq (dIf (dTest (dOp rGt (dCB cLen (dCons (dOp dIxS (dVar 0) (dC (.int 1))) dNil)) (dC (.int 39))))
      (dRet (dC .non))
      dNx)
    (dRet (dCB cList (dCons (dOp dIxS (dVar 0) (dC (.int 1))) dNil))))))))
theorem ok_parts_right {P : Program} {w : World} {K : PySem.W.Frag} {mg : Str → Option Value} {base : Heap} (T : Txt K mg) (G_is_one_of : DFn P w K mg base 1 T.a_is_one_of T.f_is_one_of ["thing", "some"] sp_is_one_of) (G_is_leaf : DFn P w K mg base 3 T.a_is_leaf T.f_is_leaf ["thing"] sp_is_leaf) {sp : DSp}
    (mono : SpMono sp) (len : ∀ ds S Q E, sp ds S Q E → ds.length = 1)
    (h : ∀ ds S Q E, sp ds S Q E → t_parts_right { nx := fun _ S' => Q .non S', rt := Q, xe := fun C fs _ S' => E C fs S' } (dstart ["thing"] ds) S) : DFn P w K mg base 4 T.a_parts_right T.f_parts_right ["thing"] sp := by
  refine dfn_of (t := t_parts_right) T.F_parts_right sc_parts_right mono len (fun cdv A outer s H E hr gu => ?_) h
  have hu1 := hu_of hr
  have hu2 := hu_big hr
  exact (dss_cons (ds_if (dt_val (de_call G_is_leaf (hr.mono (by decide)) gu (by rfl) T.m_is_leaf T.F_is_leaf.kp T.d_is_leaf (da_cons (dv 0) da_nil)))
      (dss_one (ds_ret (de_lst da_nil)))
      dss_nil)
    (dss_cons (ds_if (DWt.pt (dw_or (dt_not (dt_val (de_isi (T := "tuple") (by decide) (dv 0) (by rfl) T.b_isinstance (by rfl) T.b_tuple (by decide +kernel)))) (dw_or1 (dt_cmp (od_ne hr.units) (de_callB cd_len (by rfl) T.b_len (by decide +kernel) (da_cons (dv 0) da_nil)) de_int (nomark _)))))
      (dss_one (ds_ret de_non))
      dss_nil)
    (dss_cons (ds_if (dt_val (de_call G_is_one_of (hr.mono (by decide)) gu (by rfl) T.m_is_one_of T.F_is_one_of.kp T.d_is_one_of (da_cons (de_ix (ixD_any hu1) (dv 0) de_int) (da_cons (de_lst (da_cons de_str da_nil)) da_nil))))
      (dss_one (ds_ret (de_lst (da_cons (de_ix (ixD_any hu1) (dv 0) de_int) da_nil))))
      dss_nil)
    (dss_cons (ds_if (DWt.pt (dw_or (dt_not (dt_val (de_call G_is_one_of (hr.mono (by decide)) gu (by rfl) T.m_is_one_of T.F_is_one_of.kp T.d_is_one_of (da_cons (de_ix (ixD_any hu1) (dv 0) de_int) (da_cons (de_lst (da_cons de_str (da_cons de_str da_nil))) da_nil))))) (dw_or1 (dt_not (dt_val (de_isi (T := "tuple") (by decide) (de_ix (ixD_any hu1) (dv 0) de_int) (by rfl) T.b_isinstance (by rfl) T.b_tuple (by decide +kernel)))))))
      (dss_one (ds_ret de_non))
      dss_nil)
    (dss_cons (ds_if (dt_cmp od_gt (de_callB cd_len (by rfl) T.b_len (by decide +kernel) (da_cons (de_ix (ixD_any hu1) (dv 0) de_int) da_nil)) (de_gint (by rfl) T.g_MOST_WITHIN) (nomark _))
      (dss_one (ds_ret de_non))
      dss_nil)
    (dss_one (ds_ret (de_callTy cd_list (by rfl) T.b_list (by decide +kernel) (da_cons (de_ix (ixD_any hu1) (dv 0) de_int) da_nil)))))))))
theorem r_is_leaf (ds S Q E) (h : sp_is_leaf ds S Q E) : t_is_leaf { nx := fun _ S' => Q .non S', rt := Q, xe := fun C fs _ S' => E C fs S' } (dstart ["thing"] ds) S := by
  obtain ⟨d, dp, rfl, hd, h⟩ := h
  obtain ⟨n, hn⟩ := hd.ty
  by_cases ht : n = "tuple"
  · subst ht
    cases d with
    | tup es =>
      cases es with
      | nil =>
        simp [t_is_leaf, dstart]
        exact h S (Ext.refl S)
      | cons d0 r =>
        have hk := hd.kids
        have h0 := hk d0 (List.mem_cons_self ..)
        have e0 : ¬ ((r.length : Int) + 1 = 0) := by omega
        simp only [t_is_leaf, dstart]
        simp [e0]
        refine one_of (ws := ["stay"]) h0 fun S1 e1 => ?_
        by_cases c1 : isOne d0 ["stay"] = true
        · simp [c1]
          have := h S1 e1
          cases r with
          | nil => simpa [leafD, c1] using this
          | cons a r =>
            have e2 : ((r.length : Int) + 1 + 1 == 1) = false := by rw [beq_eq_false_iff_ne]; omega
            simpa [leafD, c1, e2] using this
        simp [c1]
        refine one_of (ws := ["step"]) (h0.ext e1) fun S2 e2 => ?_
        by_cases c2 : isOne d0 ["step"] = true
        · simp [c2]
          rcases r with _ | ⟨a, _ | ⟨b, _ | ⟨c, r⟩⟩⟩
          · simpa [leafD, c1, c2] using h S2 (e1.trans e2)
          · simpa [leafD, c1, c2] using h S2 (e1.trans e2)
          · simp
            have ha := hk a (by simp)
            have hb := hk b (by simp)
            refine one_ofT (ws := ["on", "back"]) ((ha.ext e1).ext e2) ?_
            by_cases c3 : isOne a ["on", "back"] = true
            · simp [c3]
              refine ⟨b, dp, rfl, (hb.ext e1).ext e2, fun S3 e3 => ?_⟩
              simpa [leafD, c1, c2, c3] using h S3 (e1.trans (e2.trans e3))
            · simp [c3]
              simpa [leafD, c1, c2, c3] using h S2 (e1.trans e2)
          · have e3 : ¬ ((r.length : Int) + 1 + 1 + 1 + 1 = 3) := by omega
            simp [e3]
            simpa [leafD, c1, c2] using h S2 (e1.trans e2)
        simp [c2]
        refine one_of (ws := ["at", "off"]) ((h0.ext e1).ext e2) fun S3 e3 => ?_
        have e123 := e1.trans (e2.trans e3)
        by_cases c3 : isOne d0 ["at", "off"] = true
        · simp [c3]
          rcases r with _ | ⟨a, _ | ⟨b, r⟩⟩
          · simpa [leafD, c1, c2, c3] using h S3 e123
          · simp
            have ha := hk a (by simp)
            refine (ha.ext e123).name fun S4 e4 => ?_
            simpa [leafD, c1, c2, c3] using h S4 (e123.trans e4)
          · have e4 : ¬ ((r.length : Int) + 1 + 1 + 1 = 2) := by omega
            simp [e4]
            simpa [leafD, c1, c2, c3] using h S3 e123
        · simp [c3]
          simpa [leafD, c1, c2, c3] using h S3 e123
    | ref a => rw [tyName_ref] at hn; split at hn <;> simp at hn
    | _ => simp at hn
  · have e : leafD d = false := by
      cases d with
      | tup es => simp at hn; exact absurd hn.symm ht
      | _ => rfl
    rw [e] at h
    simp [t_is_leaf, dstart, hn, ht]
    exact h S (Ext.refl S)
theorem r_parts_right (ds S Q E) (h : sp_parts_right ds S Q E) : t_parts_right { nx := fun _ S' => Q .non S', rt := Q, xe := fun C fs _ S' => E C fs S' } (dstart ["thing"] ds) S := by
  obtain ⟨d, dp, rfl, hd, hN, hS⟩ := h
  simp [t_parts_right, dstart]
  refine ⟨d, dp, rfl, hd, fun S1 e1 => ?_⟩
  by_cases c0 : leafD d = true
  · simp [c0]
    refine newO_of fun q S2 f a x _ => hS [] (by simp [partsD, c0]) q S2 (e1.trans x) (e1.free f) a
  simp [c0]
  have hd1 := hd.ext e1
  obtain ⟨n, hn⟩ := hd1.ty
  by_cases ht : n = "tuple"
  · subst ht
    cases d with
    | tup es =>
      have hk := hd.kids
      rcases es with _ | ⟨d0, _ | ⟨a, _ | ⟨b, r⟩⟩⟩
      · simp
        exact hN (by simp [partsD, c0]) S1 e1
      · simp
        exact hN (by simp [partsD, c0]) S1 e1
      · have h0 := hk d0 (by simp)
        have ha := hk a (by simp)
        simp
        refine one_of (ws := ["many"]) (h0.ext e1) fun S2 e2 => ?_
        by_cases c1 : isOne d0 ["many"] = true
        · simp [c1]
          refine newO_of fun q S3 f l x _ => hS [a] (by simp [partsD, c0, c1]) q S3 (e1.trans (e2.trans x)) ((e1.trans e2).free f) l
        simp [c1]
        refine one_of (ws := ["then", "either"]) ((h0.ext e1).ext e2) fun S3 e3 => ?_
        have e123 := e1.trans (e2.trans e3)
        by_cases c2 : isOne d0 ["then", "either"] = true
        · simp [c2]
          obtain ⟨m, hm⟩ := (ha.ext e123).ty
          by_cases hta : m = "tuple"
          · subst hta
            cases a with
            | tup qs =>
              simp
              by_cases hl : qs.length ≤ 39
              · have h39 : ¬ (39 < (qs.length : Int)) := by omega
                simp [h39]
                refine newO_of fun q S4 f l x _ => hS qs (by simp [partsD, c0, c1, c2, hl]) q S4 (e123.trans x) (e123.free f) l
              · have h39 : 39 < (qs.length : Int) := by omega
                simp [h39]
                exact hN (by simp [partsD, c0, c1, c2, hl]) S3 e123
            | ref a => rw [tyName_ref] at hm; split at hm <;> simp at hm
            | _ => simp at hm
          · simp [hm, hta]
            refine hN ?_ S3 e123
            cases a with
            | tup qs => simp at hm; exact absurd hm.symm hta
            | _ => simp [partsD, c0, c1, c2]
        · simp [c2]
          exact hN (by simp [partsD, c0, c1, c2]) S3 e123
      · have e4 : ¬ ((r.length : Int) + 1 + 1 + 1 = 2) := by omega
        simp [e4]
        exact hN (by simp [partsD, c0]) S1 e1
    | ref a => rw [tyName_ref] at hn; split at hn <;> simp at hn
    | _ => simp at hn
  · simp [hn, ht]
    refine hN ?_ S1 e1
    cases d with
    | tup es => simp at hn; exact absurd hn.symm ht
    | _ => simp [partsD, c0]
end K07
set_option maxRecDepth 100000
set_option maxHeartbeats 4000000
namespace K07
open PySem PySem.Spec L2 Dt

/-! l_within -/
def t_l_within : DTS := (dSeq (dIf (dOr (dNot (dTest (dIsi "tuple" (dVar 0)))) (dNot (dTest (dChain rLe rLe (dC (.int 1)) (dCB cLen (dCons (dVar 0) dNil)) (dC (.int 3))))))
      (dRet (dC .non))
      dNx)
    (dSeq (dIf (dTest (dOp (dEq false) (dCB cLen (dCons (dVar 0) dNil)) (dC (.int 1))))
      (dRet (dOp dIxS (dLst (dCons (dC .non) (dCons (dLst dNil) dNil))) (dCB cInt (dCons (dCall sp_l_is_text (dCons (dOp dIxS (dVar 0) (dC (.int 0))) (dCons (dLst (dCons (dC (.str "stay")) dNil)) dNil))) dNil))))
      dNx)
    (dSeq (dIf (dTest (dOp (dEq false) (dCB cLen (dCons (dVar 0) dNil)) (dC (.int 3))))
      (dSeq (dAsg (dAndV (dCall sp_l_is_text (dCons (dOp dIxS (dVar 0) (dC (.int 0))) (dCons (dLst (dCons (dC (.str "step")) dNil)) dNil))) (dCall sp_l_is_text (dCons (dOp dIxS (dVar 0) (dC (.int 1))) (dCons (dLst (dCons (dC (.str "on")) (dCons (dC (.str "back")) dNil))) dNil)))) (dGN 1))
    (dSeq (dAsg (dAndV (dVar 1) (dOrV (dCall sp_l_is_text (dCons (dOp dIxS (dVar 0) (dC (.int 2))) (dCons (dLst (dCons (dC (.str "*")) dNil)) dNil))) (dCall sp_l_is_name (dCons (dOp dIxS (dVar 0) (dC (.int 2))) dNil)))) (dGN 1))
    (dRet (dOp dIxS (dLst (dCons (dC .non) (dCons (dLst dNil) dNil))) (dCB cInt (dCons (dVar 1) dNil))))))
      dNx)
    (dSeq (dIf (dTest (dCall sp_l_is_text (dCons (dOp dIxS (dVar 0) (dC (.int 0))) (dCons (dLst (dCons (dC (.str "at")) (dCons (dC (.str "off")) dNil))) dNil))))
      (dRet (dOp dIxS (dLst (dCons (dC .non) (dCons (dLst dNil) dNil))) (dCB cInt (dCons (dCall sp_l_is_name (dCons (dOp dIxS (dVar 0) (dC (.int 1))) dNil)) dNil))))
      dNx)
    (dSeq (dIf (dTest (dCall sp_l_is_text (dCons (dOp dIxS (dVar 0) (dC (.int 0))) (dCons (dLst (dCons (dC (.str "many")) dNil)) dNil))))
      (dRet (dLst (dCons (dOp dIxS (dVar 0) (dC (.int 1))) dNil)))
      dNx)
    (dSeq (dIf (dAnd (dTest (dCall sp_l_is_text (dCons (dOp dIxS (dVar 0) (dC (.int 0))) (dCons (dLst (dCons (dC (.str "then")) (dCons (dC (.str "either")) dNil))) dNil)))) (dTest (dIsi "tuple" (dOp dIxS (dVar 0) (dC (.int 1))))))
      (dRet (dCB cList (dCons (dOp dIxS (dVar 0) (dC (.int 1))) dNil)))
      dNx)
    (dRet (dC .non))))))))
theorem ok_l_within {P : Program} {w : World} {K : PySem.W.Frag} {mg : Str → Option Value} {base : Heap} (T : Txt K mg) (G_l_is_name : DFn P w K mg base 1 T.a_l_is_name T.f_l_is_name ["_law_thing"] sp_l_is_name) (G_l_is_text : DFn P w K mg base 1 T.a_l_is_text T.f_l_is_text ["_law_thing", "_law_some"] sp_l_is_text) {sp : DSp}
    (mono : SpMono sp) (len : ∀ ds S Q E, sp ds S Q E → ds.length = 1)
    (h : ∀ ds S Q E, sp ds S Q E → t_l_within { nx := fun _ S' => Q .non S', rt := Q, xe := fun C fs _ S' => E C fs S' } (dstart ["_law_thing", "_law_good"] ds) S) : DFn P w K mg base 2 T.a_l_within T.f_l_within ["_law_thing"] sp := by
  refine dfn_of (t := t_l_within) T.F_l_within sc_l_within mono len (fun cdv A outer s H E hr gu => ?_) h
  have hu1 := hu_of hr
  have hu2 := hu_big hr
  exact (dss_cons (ds_if (DWt.pt (dw_or (dt_not (dt_val (de_isi (T := "tuple") (by decide) (dv 0) (by rfl) T.b_isinstance (by rfl) T.b_tuple (by decide +kernel)))) (dw_or1 (dt_not (dt_chain od_le od_le de_int (de_callB cd_len (by rfl) T.b_len (by decide +kernel) (da_cons (dv 0) da_nil)) de_int)))))
      (dss_one (ds_ret de_non))
      dss_nil)
    (dss_cons (ds_if (dt_cmp (od_eq hr.units) (de_callB cd_len (by rfl) T.b_len (by decide +kernel) (da_cons (dv 0) da_nil)) de_int (nomark _))
      (dss_one (ds_ret (de_ix (ixD_any hu1) (de_lst (da_cons de_non (da_cons (de_lst da_nil) da_nil))) (de_callTy cd_int (by rfl) T.b_int (by decide +kernel) (da_cons (de_call G_l_is_text (hr.mono (by decide)) gu (by rfl) T.m_l_is_text T.F_l_is_text.kp T.d_l_is_text (da_cons (de_ix (ixD_any hu1) (dv 0) de_int) (da_cons (de_lst (da_cons de_str da_nil)) da_nil))) da_nil)))))
      dss_nil)
    (dss_cons (ds_if (dt_cmp (od_eq hr.units) (de_callB cd_len (by rfl) T.b_len (by decide +kernel) (da_cons (dv 0) da_nil)) de_int (nomark _))
      (dss_cons (ds_set (i := 1) sc_l_within.nd rfl (by first | exact Or.inl rfl | exact Or.inr rfl) (de_and (de_call G_l_is_text (hr.mono (by decide)) gu (by rfl) T.m_l_is_text T.F_l_is_text.kp T.d_l_is_text (da_cons (de_ix (ixD_any hu1) (dv 0) de_int) (da_cons (de_lst (da_cons de_str da_nil)) da_nil))) (de_one (de_call G_l_is_text (hr.mono (by decide)) gu (by rfl) T.m_l_is_text T.F_l_is_text.kp T.d_l_is_text (da_cons (de_ix (ixD_any hu1) (dv 0) de_int) (da_cons (de_lst (da_cons de_str (da_cons de_str da_nil))) da_nil))))))
    (dss_cons (ds_set (i := 1) sc_l_within.nd rfl (by first | exact Or.inl rfl | exact Or.inr rfl) (de_and (dv 1) (de_one (de_or (de_call G_l_is_text (hr.mono (by decide)) gu (by rfl) T.m_l_is_text T.F_l_is_text.kp T.d_l_is_text (da_cons (de_ix (ixD_any hu1) (dv 0) de_int) (da_cons (de_lst (da_cons de_str da_nil)) da_nil))) (de_one (de_call G_l_is_name (hr.mono (by decide)) gu (by rfl) T.m_l_is_name T.F_l_is_name.kp T.d_l_is_name (da_cons (de_ix (ixD_any hu1) (dv 0) de_int) da_nil)))))))
    (dss_one (ds_ret (de_ix (ixD_any hu1) (de_lst (da_cons de_non (da_cons (de_lst da_nil) da_nil))) (de_callTy cd_int (by rfl) T.b_int (by decide +kernel) (da_cons (dv 1) da_nil)))))))
      dss_nil)
    (dss_cons (ds_if (dt_val (de_call G_l_is_text (hr.mono (by decide)) gu (by rfl) T.m_l_is_text T.F_l_is_text.kp T.d_l_is_text (da_cons (de_ix (ixD_any hu1) (dv 0) de_int) (da_cons (de_lst (da_cons de_str (da_cons de_str da_nil))) da_nil))))
      (dss_one (ds_ret (de_ix (ixD_any hu1) (de_lst (da_cons de_non (da_cons (de_lst da_nil) da_nil))) (de_callTy cd_int (by rfl) T.b_int (by decide +kernel) (da_cons (de_call G_l_is_name (hr.mono (by decide)) gu (by rfl) T.m_l_is_name T.F_l_is_name.kp T.d_l_is_name (da_cons (de_ix (ixD_any hu1) (dv 0) de_int) da_nil)) da_nil)))))
      dss_nil)
    (dss_cons (ds_if (dt_val (de_call G_l_is_text (hr.mono (by decide)) gu (by rfl) T.m_l_is_text T.F_l_is_text.kp T.d_l_is_text (da_cons (de_ix (ixD_any hu1) (dv 0) de_int) (da_cons (de_lst (da_cons de_str da_nil)) da_nil))))
      (dss_one (ds_ret (de_lst (da_cons (de_ix (ixD_any hu1) (dv 0) de_int) da_nil))))
      dss_nil)
    (dss_cons (ds_if (DWt.pt (dw_and (dt_val (de_call G_l_is_text (hr.mono (by decide)) gu (by rfl) T.m_l_is_text T.F_l_is_text.kp T.d_l_is_text (da_cons (de_ix (ixD_any hu1) (dv 0) de_int) (da_cons (de_lst (da_cons de_str (da_cons de_str da_nil))) da_nil)))) (dw_and1 (dt_val (de_isi (T := "tuple") (by decide) (de_ix (ixD_any hu1) (dv 0) de_int) (by rfl) T.b_isinstance (by rfl) T.b_tuple (by decide +kernel))))))
      (dss_one (ds_ret (de_callTy cd_list (by rfl) T.b_list (by decide +kernel) (da_cons (de_ix (ixD_any hu1) (dv 0) de_int) da_nil))))
      dss_nil)
    (dss_one (ds_ret de_non))))))))
theorem r_l_within (ds S Q E) (h : sp_l_within ds S Q E) : t_l_within { nx := fun _ S' => Q .non S', rt := Q, xe := fun C fs _ S' => E C fs S' } (dstart ["_law_thing", "_law_good"] ds) S := by
  obtain ⟨d, dp, rfl, hd, hN, hS⟩ := h
  obtain ⟨n, hn⟩ := hd.ty
  by_cases ht : n = "tuple"
  · subst ht
    cases d with
    | tup es =>
      have hk := hd.kids
      rcases es with _ | ⟨d0, _ | ⟨a, _ | ⟨b, _ | ⟨c, r⟩⟩⟩⟩
      · simp [t_l_within, dstart]
        exact hN (by simp [withinD]) S (Ext.refl S)
      · have h0 := hk d0 (by simp)
        simp [t_l_within, dstart]
        refine newO_of fun p S1 g a1 x1 _ => newO_of fun q S2 g2 a2 x2 _ => one_of (ws := ["stay"]) ((h0.ext x1).ext x2) fun S3 x3 => ?_
        by_cases c1 : isOne d0 ["stay"] = true
        · simp [c1, x3 _ _ a2]
          exact hS [] (by simp [withinD, c1]) p S3 (x1.trans (x2.trans x3)) g (x3 _ _ (x2 _ _ a1))
        · simp [c1, x3 _ _ a2]
          exact hN (by simp [withinD, c1]) S3 (x1.trans (x2.trans x3))
      · have h0 := hk d0 (by simp)
        have ha := hk a (by simp)
        simp [t_l_within, dstart]
        refine one_of (ws := ["at", "off"]) h0 fun S1 e1 => ?_
        by_cases c1 : isOne d0 ["at", "off"] = true
        · simp [c1]
          refine newO_of fun p S2 g a1 x1 _ => newO_of fun q S3 g2 a2 x2 _ => (((ha.ext e1).ext x1).ext x2).name fun S4 x3 => ?_
          have ee := e1.trans (x1.trans (x2.trans x3))
          by_cases c2 : isNm a = true
          · simp [c2, x3 _ _ a2]
            exact hS [] (by simp [withinD, c1, c2]) p S4 ee (e1.free g) (x3 _ _ (x2 _ _ a1))
          · simp [c2, x3 _ _ a2]
            exact hN (by simp [withinD, c1, c2]) S4 ee
        simp [c1]
        refine one_of (ws := ["many"]) (h0.ext e1) fun S2 e2 => ?_
        by_cases c2 : isOne d0 ["many"] = true
        · simp [c2]
          exact newO_of fun q S3 f l x _ => hS [a] (by simp [withinD, c1, c2]) q S3 (e1.trans (e2.trans x)) ((e1.trans e2).free f) l
        simp [c2]
        refine one_of (ws := ["then", "either"]) ((h0.ext e1).ext e2) fun S3 e3 => ?_
        have e123 := e1.trans (e2.trans e3)
        by_cases c3 : isOne d0 ["then", "either"] = true
        · simp [c3]
          obtain ⟨m, hm⟩ := (ha.ext e123).ty
          by_cases hta : m = "tuple"
          · subst hta
            cases a with
            | tup qs =>
              simp
              exact newO_of fun q S4 f l x _ => hS qs (by simp [withinD, c1, c2, c3]) q S4 (e123.trans x) (e123.free f) l
            | ref a => rw [tyName_ref] at hm; split at hm <;> simp at hm
            | _ => simp at hm
          · simp [hm, hta]
            refine hN ?_ S3 e123
            cases a with
            | tup qs => simp at hm; exact absurd hm.symm hta
            | _ => simp [withinD, c1, c2, c3]
        · simp [c3]
          exact hN (by simp [withinD, c1, c2, c3]) S3 e123
      · have h0 := hk d0 (by simp)
        have ha := hk a (by simp)
        have hb := hk b (by simp)
        simp [t_l_within, dstart]
        refine one_of (ws := ["step"]) h0 fun S1 e1 => ?_
        by_cases c1 : isOne d0 ["step"] = true
        · simp [c1]
          refine one_of (ws := ["on", "back"]) (ha.ext e1) fun S2 e2 => ?_
          by_cases c2 : isOne a ["on", "back"] = true
          · simp [c2]
            refine one_of (ws := ["*"]) ((hb.ext e1).ext e2) fun S3 e3 => ?_
            have e123 := e1.trans (e2.trans e3)
            by_cases c3 : isOne b ["*"] = true
            · simp [c3]
              exact pick01 (b := true) (fun z => nomatch z) fun _ q S4 x f l => hS [] (by simp [withinD, c1, c2, c3]) q S4 (e123.trans x) (e123.free f) l
            · simp [c3]
              refine (hb.ext e123).name fun S4 e4 => ?_
              have e1234 := e123.trans e4
              by_cases c4 : isNm b = true
              · simp [c4]
                exact pick01 (b := true) (fun z => nomatch z) fun _ q S4 x f l => hS [] (by simp [withinD, c1, c2, c3, c4]) q S4 (e1234.trans x) (e1234.free f) l
              · simp [c4]
                exact pick01 (b := false) (fun _ S5 x => hN (by simp [withinD, c1, c2, c3, c4]) S5 (e1234.trans x)) fun z => nomatch z
          · simp [c2]
            exact pick01 (b := false) (fun _ S5 x => hN (by simp [withinD, c1, c2]) S5 ((e1.trans e2).trans x)) fun z => nomatch z
        · simp [c1]
          exact pick01 (b := false) (fun _ S5 x => hN (by simp [withinD, c1]) S5 (e1.trans x)) fun z => nomatch z
      · have e4 : ¬ ((r.length : Int) + 1 + 1 + 1 + 1 ≤ 3) := by omega
        simp [t_l_within, dstart, e4]
        exact hN (by simp [withinD]) S (Ext.refl S)
    | ref a => rw [tyName_ref] at hn; split at hn <;> simp at hn
    | _ => simp at hn
  · simp [t_l_within, dstart, hn, ht]
    refine hN ?_ S (Ext.refl S)
    cases d with
    | tup es => simp at hn; exact absurd hn.symm ht
    | _ => simp [withinD]
end K07
set_option maxRecDepth 100000
set_option maxHeartbeats 4000000
namespace K07
open PySem PySem.Spec L2 Dt

/-! l_right -/
def t_l_right : DTS := (dSeq (dAsg (dLst (dCons (dTup (dCons (dC (.int 1)) (dCons (dVar 0) dNil))) dNil)) (dGN 1))
    (dSeq (dAsg (dC (.int 0)) (dGN 2))
    (dSeq (dWhile (dTest (dOp (dEq true) (dVar 1) (dLst dNil)))
      (dSeq (dAsg (dBM "list" mPop (dVar 1) dNil) (dGTup 2 (dGCons (dGN 3) (dGCons (dGN 4) dGNil))))
    (dSeq (dAsg (dOp dAdd (dVar 2) (dC (.int 1))) (dGN 2))
    (dSeq (dAsg (dCall sp_l_within (dCons (dVar 4) dNil)) (dGN 5))
    (dSeq (dIf (dOr (dTest (dOp (dIsN false) (dVar 5) (dC .non))) (dOr (dTest (dOp rGt (dVar 3) (dC (.int 10)))) (dTest (dOp rGt (dVar 2) (dC (.int 40))))))
      (dRet (dC (.bl false)))
      dNx)
    (dAsg (dOp dAdd (dVar 1) (dLc (dSeqI (dVar 5)) (dGN 6) dYes (dTup (dCons (dOp dAdd (dVar 3) (dC (.int 1))) (dCons (dVar 6) dNil))) [6])) (dGN 1)))))))
    (dRet (dC (.bl true))))))
theorem ok_l_right {P : Program} {w : World} {K : PySem.W.Frag} {mg : Str → Option Value} {base : Heap} (T : Txt K mg) (G_l_within : DFn P w K mg base 2 T.a_l_within T.f_l_within ["_law_thing"] sp_l_within) {sp : DSp}
    (mono : SpMono sp) (len : ∀ ds S Q E, sp ds S Q E → ds.length = 1)
    (h : ∀ ds S Q E, sp ds S Q E → t_l_right { nx := fun _ S' => Q .non S', rt := Q, xe := fun C fs _ S' => E C fs S' } (dstart ["_law_thing", "_law_left", "_law_count", "_law_deep", "_law_part", "_law_some", "_law_one"] ds) S) : DFn P w K mg base 3 T.a_l_right T.f_l_right ["_law_thing"] sp := by
  refine dfn_of (t := t_l_right) T.F_l_right sc_l_right mono len (fun cdv A outer s H E hr gu => ?_) h
  have hu1 := hu_of hr
  have hu2 := hu_big hr
  exact (dss_cons (ds_set (i := 1) sc_l_right.nd rfl (by first | exact Or.inl rfl | exact Or.inr rfl) (de_lst (da_cons (de_tup (da_cons de_int (da_cons (dv 0) da_nil))) da_nil)))
    (dss_cons (ds_set (i := 2) sc_l_right.nd rfl (by first | exact Or.inl rfl | exact Or.inr rfl) de_int)
    (dss_cons (ds_while (passes_of rfl) (dt_cmp (od_ne hr.units) (dv 1) (de_lst da_nil) (nomark _))
      (dss_cons (ds_asg (de_bm0 PySem.F.plainAttrs_list PySem.F.slot_list_pop PySem.F.type_list_pop md_pop (dv 1)) (dg_tup rfl (dgs_cons (dg_name (i := 3) sc_l_right.nd rfl (by first | exact Or.inl rfl | exact Or.inr rfl)) (dgs_cons (dg_name (i := 4) sc_l_right.nd rfl (by first | exact Or.inl rfl | exact Or.inr rfl)) dgs_nil))))
    (dss_cons (ds_set (i := 2) sc_l_right.nd rfl (by first | exact Or.inl rfl | exact Or.inr rfl) (de_op od_add (dv 2) de_int))
    (dss_cons (ds_set (i := 5) sc_l_right.nd rfl (by first | exact Or.inl rfl | exact Or.inr rfl) (de_call G_l_within (hr.mono (by decide)) gu (by rfl) T.m_l_within T.F_l_within.kp T.d_l_within (da_cons (dv 4) da_nil)))
    (dss_cons (ds_if (DWt.pt (dw_or (dt_cmp od_is (dv 5) de_non (nomark _)) (dw_or (dt_cmp od_gt (dv 3) de_int (nomark _)) (dw_or1 (dt_cmp od_gt (dv 2) de_int (nomark _))))))
      (dss_one (ds_ret de_bl))
      dss_nil)
    (dss_one (ds_set (i := 1) sc_l_right.nd rfl (by first | exact Or.inl rfl | exact Or.inr rfl) (de_op od_add (dv 1) (de_lc (own := [("_law_one", 6)]) rfl sc_l_right.nd (di_seq (dv 5)) (blkOk_by (own := [("_law_one", 6)]) (N := ["_law_thing", "_law_left", "_law_count", "_law_deep", "_law_part", "_law_some", "_law_one"]) (sc := defScope s_l_right) (by decide +kernel)) ⟨fun _ _ _ _ _ => (dw_name (i := 6) sc_l_right.nd rfl (by first | exact Or.inl rfl | exact Or.inr rfl) (by decide)), fun _ _ _ _ _ => dts_nil, fun _ _ _ _ _ => (de_tup (da_cons (de_op od_add (dv 3) de_int) (da_cons (dv 6) da_nil)))⟩)))))))))
    (dss_one (ds_ret de_bl)))))

/-! is_pattern -/
def t_is_pattern : DTS := (dSeq (dAsg (dLst (dCons (dTup (dCons (dVar 0) (dCons (dC (.int 1)) dNil))) dNil)) (dGN 1))
    (dSeq (dAsg (dC (.int 0)) (dGN 2))
    (dSeq (dWhile (dTest (dOp rGt (dCB cLen (dCons (dVar 1) dNil)) (dC (.int 0))))
      (dSeq (dAsg (dBM "list" mPop (dVar 1) dNil) (dGTup 2 (dGCons (dGN 3) (dGCons (dGN 4) dGNil))))
    (dSeq (dAsg (dOp dAdd (dVar 2) (dC (.int 1))) (dGN 2))
    (dSeq (dAsg (dCall sp_parts_right (dCons (dVar 3) dNil)) (dGN 5))
    (dSeq (dIf (dOr (dTest (dOp (dIsN false) (dVar 5) (dC .non))) (dOr (dTest (dOp rGt (dVar 4) (dC (.int 10)))) (dTest (dOp rGt (dVar 2) (dC (.int 40))))))
      (dRet (dC (.bl false)))
      dNx)
    (dDrop (dBM "list" mExtend (dVar 1) (dCons (dLc (dSeqI (dVar 5)) (dGN 6) dYes (dTup (dCons (dVar 6) (dCons (dOp dAdd (dVar 4) (dC (.int 1))) dNil))) [6]) dNil))))))))
    (dRet (dC (.bl true))))))
theorem ok_is_pattern {P : Program} {w : World} {K : PySem.W.Frag} {mg : Str → Option Value} {base : Heap} (T : Txt K mg) (G_parts_right : DFn P w K mg base 4 T.a_parts_right T.f_parts_right ["thing"] sp_parts_right) {sp : DSp}
    (mono : SpMono sp) (len : ∀ ds S Q E, sp ds S Q E → ds.length = 1)
    (h : ∀ ds S Q E, sp ds S Q E → t_is_pattern { nx := fun _ S' => Q .non S', rt := Q, xe := fun C fs _ S' => E C fs S' } (dstart ["thing", "left", "count", "part", "deep", "some", "one"] ds) S) : DFn P w K mg base 5 T.a_is_pattern T.f_is_pattern ["thing"] sp := by
  refine dfn_of (t := t_is_pattern) T.F_is_pattern sc_is_pattern mono len (fun cdv A outer s H E hr gu => ?_) h
  have hu1 := hu_of hr
  have hu2 := hu_big hr
  exact (dss_cons (ds_set (i := 1) sc_is_pattern.nd rfl (by first | exact Or.inl rfl | exact Or.inr rfl) (de_lst (da_cons (de_tup (da_cons (dv 0) (da_cons de_int da_nil))) da_nil)))
    (dss_cons (ds_set (i := 2) sc_is_pattern.nd rfl (by first | exact Or.inl rfl | exact Or.inr rfl) de_int)
    (dss_cons (ds_while (passes_of rfl) (dt_cmp od_gt (de_callB cd_len (by rfl) T.b_len (by decide +kernel) (da_cons (dv 1) da_nil)) de_int (nomark _))
      (dss_cons (ds_asg (de_bm0 PySem.F.plainAttrs_list PySem.F.slot_list_pop PySem.F.type_list_pop md_pop (dv 1)) (dg_tup rfl (dgs_cons (dg_name (i := 3) sc_is_pattern.nd rfl (by first | exact Or.inl rfl | exact Or.inr rfl)) (dgs_cons (dg_name (i := 4) sc_is_pattern.nd rfl (by first | exact Or.inl rfl | exact Or.inr rfl)) dgs_nil))))
    (dss_cons (ds_set (i := 2) sc_is_pattern.nd rfl (by first | exact Or.inl rfl | exact Or.inr rfl) (de_op od_add (dv 2) de_int))
    (dss_cons (ds_set (i := 5) sc_is_pattern.nd rfl (by first | exact Or.inl rfl | exact Or.inr rfl) (de_call G_parts_right (hr.mono (by decide)) gu (by rfl) T.m_parts_right T.F_parts_right.kp T.d_parts_right (da_cons (dv 3) da_nil)))
    (dss_cons (ds_if (DWt.pt (dw_or (dt_cmp od_is (dv 5) de_non (nomark _)) (dw_or (dt_cmp od_gt (dv 4) (de_gint (by rfl) T.g_MOST_DEEP) (nomark _)) (dw_or1 (dt_cmp od_gt (dv 2) (de_gint (by rfl) T.g_MOST_PARTS) (nomark _))))))
      (dss_one (ds_ret de_bl))
      dss_nil)
    (dss_one (ds_expr (de_bm PySem.F.plainAttrs_list PySem.F.slot_list_extend PySem.F.type_list_extend md_extend (dv 1) (da_cons (de_lc (own := [("one", 6)]) rfl sc_is_pattern.nd (di_seq (dv 5)) (blkOk_by (own := [("one", 6)]) (N := ["thing", "left", "count", "part", "deep", "some", "one"]) (sc := defScope s_is_pattern) (by decide +kernel)) ⟨fun _ _ _ _ _ => (dw_name (i := 6) sc_is_pattern.nd rfl (by first | exact Or.inl rfl | exact Or.inr rfl) (by decide)), fun _ _ _ _ _ => dts_nil, fun _ _ _ _ _ => (de_tup (da_cons (dv 6) (da_cons (de_op od_add (dv 4) de_int) da_nil)))⟩) da_nil)))))))))
    (dss_one (ds_ret de_bl)))))
def tf (q : D × Nat) : D := .tup [q.1, .int (q.2 : Nat)]
theorem r_is_pattern (ds S Q E) (h : sp_is_pattern ds S Q E) : t_is_pattern { nx := fun _ S' => Q .non S', rt := Q, xe := fun C fs _ S' => E C fs S' } (dstart ["thing", "left", "count", "part", "deep", "some", "one"] ds) S := by
  obtain ⟨d, dp, rfl, hd, hdp, h⟩ := h
  simp [t_is_pattern, dstart]
  refine newO_of fun l S1 g a x _ => ?_
  refine while_inv (fun τ S' => ∃ (st : List (D × Nat)) (c : Nat) (a3 a4 a5 a6 : Option D), τ = [some d, some (.ref l), some (.int c), a3, a4, a5, a6] ∧ S' l = some (.lst (st.map tf).reverse) ∧ Ext S S' ∧ c ≤ 40 ∧ st.length ≤ 1 + 200001 * c ∧ (∀ q ∈ st, Nz 200000 dp S q.1) ∧ runP partsD (41 - c) c st = patD d)
    (fun (τ : DSt) _ => match τ[2]? with | some (some (D.int c)) => (42 - c).toNat | _ => 0) ⟨[(d, 1)], 0, _, _, _, _, rfl, a, x, by decide, Nat.le_refl _, fun q hq => by rw [List.mem_singleton.mp hq]; exact hd, rfl⟩ ?_
  rintro τ S2 N ⟨st, c, a3, a4, a5, a6, rfl, hl, ex, hc, hlen, hnz, hrun⟩ hN
  cases st with
  | nil =>
    have e : patD d = true := by rw [← hrun]; simp [runP]
    simp [hl]
    rw [e] at h
    exact h S2 ex
  | cons q r =>
    obtain ⟨e, k⟩ := q
    have hl' : S2 l = some (.lst ((r.map tf).reverse ++ [.tup [e, .int k]])) := by rw [hl, List.map_cons, List.reverse_cons]; rfl
    have h0 : (0 : Int) < (r.length : Int) + 1 := by omega
    have hne := hnz (e, k) (List.mem_cons_self ..)
    have ex3 : ∀ o, Ext S (upo S2 l o) := fun o => Ext.put ex g
    obtain ⟨m, hm⟩ : ∃ m, 41 - c = m + 1 := ⟨40 - c, by omega⟩
    rw [hm] at hrun
    simp [hl', h0]
    refine ⟨e, dp, rfl, (hne.mono (by decide) (Nat.le_refl _)).ext (ex3 _), fun hn S3 e3 => ?_, fun es hs p S3 e3 f3 l3 => ?_⟩
    · have e : patD d = false := by rw [← hrun]; simp [runP, hn]
      simp
      rw [e] at h
      exact h S3 ((ex3 _).trans e3)
    · have exs : Ext S S3 := (ex3 _).trans e3
      simp
      by_cases hb : k > 10 ∨ c + 1 > 40
      · have e : patD d = false := by rw [← hrun]; simp [runP, hs, hb]
        rw [e] at h
        have hq := h S3 exs
        by_cases hk : (10 : Int) < k
        · simp [hk]
          exact hq
        · have hk2 : (40 : Int) < (c : Int) + 1 := by omega
          simp [hk, hk2]
          exact hq
      · have hk : ¬ (10 : Int) < k := by omega
        have hk2 : ¬ (40 : Int) < (c : Int) + 1 := by omega
        obtain ⟨p1, p2⟩ := parts_nz hne hs
        have hl3 : S3 l = some (.lst (r.map tf).reverse) := e3 _ _ upo_same
        have npl : p ≠ l := fun z => by subst z; rw [upo_same] at f3; cases f3
        simp only [List.length_cons] at hlen
        simp [hk, hk2, l3, hl3]
        refine newO_of fun p2 S4 g4 a4 x4 _ => ?_
        have np2 : p ≠ p2 := ne_fresh l3 g4
        have nl2 : l ≠ p2 := ne_fresh hl3 g4
        refine lc_map (fun y => tf (y, k + 1)) es a4 (fun acc => by rw [upo_ne np2]; exact x4 _ _ l3) (fun y hy acc N' hN' hacc => ?_) (by simp; omega) ?_
        · simp
          refine ⟨hacc, ?_⟩
          simpa [tf] using hN'
        · simp [upo_ne nl2, x4 _ _ hl3]
          refine ⟨by omega, hN _ _ ⟨(es.map fun y => (y, k + 1)).reverse ++ r, c + 1, _, _, _, _, rfl, ?_, ?_, by omega, ?_, ?_, ?_⟩ ?_⟩
          · simp [tf]
          · exact Ext.put (Ext.put (exs.trans x4) ((exs.free g4))) g
          · simp; omega
          · intro q hq
            rcases List.mem_append.mp hq with z | z
            · rw [List.mem_reverse] at z
              obtain ⟨y, hy, rfl⟩ := List.mem_map.mp z
              exact p1 y hy
            · exact hnz q (List.mem_cons_of_mem _ z)
          · rw [← hrun, show 41 - (c + 1) = m by omega]
            simp [runP, hs, hb]
          · simp
            omega
def tg (q : D × Nat) : D := .tup [.int (q.2 : Nat), q.1]
theorem small_int (k : Nat) (h : k ≤ 11) : PyData.showable (.int (k : Int)) = true ∧ PyData.leavesShort 13 (.int (k : Int)) = true ∧ PyData.weight (.int (k : Int)) ≤ 200000 := by
  have : ∀ k : Fin 12, PyData.showable (.int (k.val : Int)) = true ∧ PyData.leavesShort 13 (.int (k.val : Int)) = true ∧ PyData.weight (.int (k.val : Int)) ≤ 200000 := by decide +kernel
  exact this ⟨k, by omega⟩
theorem r_l_right (ds S Q E) (h : sp_l_right ds S Q E) : t_l_right { nx := fun _ S' => Q .non S', rt := Q, xe := fun C fs _ S' => E C fs S' } (dstart ["_law_thing", "_law_left", "_law_count", "_law_deep", "_law_part", "_law_some", "_law_one"] ds) S := by
  obtain ⟨d, dp, rfl, hd, hdp, h⟩ := h
  simp [t_l_right, dstart]
  refine newO_of fun l S1 g a x _ => ?_
  refine while_inv (fun τ S' => ∃ (l : Addr) (st : List (D × Nat)) (c : Nat) (a3 a4 a5 a6 : Option D), τ = [some d, some (.ref l), some (.int c), a3, a4, a5, a6] ∧ S l = none ∧ S' l = some (.lst (st.map tg).reverse) ∧ Ext S S' ∧ c ≤ 40 ∧ st.length ≤ 1 + 200001 * c ∧ (∀ q ∈ st, Nz 200000 dp S q.1 ∧ q.2 ≤ 11) ∧ runP withinD (41 - c) c st = patD d)
    (fun (τ : DSt) _ => match τ[2]? with | some (some (D.int c)) => (42 - c).toNat | _ => 0) ⟨l, [(d, 1)], 0, _, _, _, _, rfl, g, a, x, by decide, Nat.le_refl _, fun q hq => by rw [List.mem_singleton.mp hq]; exact ⟨hd, (show 1 ≤ 11 by decide)⟩, (runP_eq 41 0 [(d, 1)]).symm⟩ ?_
  rintro τ S2 N ⟨l, st, c, a3, a4, a5, a6, rfl, gl, hl, ex, hc, hlen, hnz, hrun⟩ hN
  simp
  refine newO_of fun l0 S0 g0 a0 x0 _ => ?_
  have hl0 := x0 _ _ hl
  have ex0 := ex.trans x0
  have nzl : Nz ((st.map tg).reverse.length * 400003) (dp + 1 + 1) S0 (.ref l) := by
    refine Nz.lst (w := 400002) hl0 (fun y hy => ?_) (Nat.le_refl _) (Nat.le_refl _)
    rw [List.mem_reverse] at hy
    obtain ⟨q, hq, rfl⟩ := List.mem_map.mp hy
    obtain ⟨s1, s2, s3⟩ := small_int q.2 (hnz q hq).2
    refine Nz.tup (w := 200000) (n := 2) (fun z hz => ?_) (Nat.le_refl _) (by decide)
    rcases List.mem_cons.mp hz with rfl | hz
    · exact Nz.int _ s1 s2 s3
    · rw [List.mem_singleton.mp hz]
      exact (hnz q hq).1.ext ex0
  refine dEq_nilL hl0 a0 nzl (by omega) ?_
  cases st with
  | nil =>
    have e : patD d = true := by rw [← hrun]; simp [runP]
    simp
    rw [e] at h
    exact h S0 ex0
  | cons q r =>
    obtain ⟨e, k⟩ := q
    have hl' : S0 l = some (.lst ((r.map tg).reverse ++ [.tup [.int k, e]])) := by rw [hl0, List.map_cons, List.reverse_cons]; rfl
    obtain ⟨hne, hkk⟩ := hnz (e, k) (List.mem_cons_self ..)
    have ex3 : ∀ o, Ext S (upo S0 l o) := fun o => Ext.put ex0 gl
    obtain ⟨m, hm⟩ : ∃ m, 41 - c = m + 1 := ⟨40 - c, by omega⟩
    rw [hm] at hrun
    simp [hl']
    refine ⟨e, dp, rfl, (hne.mono (by decide) (Nat.le_refl _)).ext (ex3 _), fun hn S3 e3 => ?_, fun es hs p S3 e3 f3 l3 => ?_⟩
    · have e : patD d = false := by rw [← hrun]; simp [runP, hn]
      simp
      rw [e] at h
      exact h S3 ((ex3 _).trans e3)
    · have exs : Ext S S3 := (ex3 _).trans e3
      simp
      by_cases hb : k > 10 ∨ c + 1 > 40
      · have e : patD d = false := by rw [← hrun]; simp [runP, hs, hb]
        rw [e] at h
        have hq := h S3 exs
        by_cases hk : (10 : Int) < k
        · simp [hk]
          exact hq
        · have hk2 : (40 : Int) < (c : Int) + 1 := by omega
          simp [hk, hk2]
          exact hq
      · have hk : ¬ (10 : Int) < k := by omega
        have hk2 : ¬ (40 : Int) < (c : Int) + 1 := by omega
        obtain ⟨p1, p2⟩ := within_nz hne hs
        have hl3 : S3 l = some (.lst (r.map tg).reverse) := e3 _ _ upo_same
        have npl : p ≠ l := fun z => by subst z; rw [upo_same] at f3; cases f3
        simp only [List.length_cons] at hlen
        simp [hk, hk2, l3, hl3]
        refine newO_of fun p2 S4 g4 a4 x4 _ => ?_
        have np2 : p ≠ p2 := ne_fresh l3 g4
        have nl2 : l ≠ p2 := ne_fresh hl3 g4
        refine lc_map (fun y => tg (y, k + 1)) es a4 (fun acc => by rw [upo_ne np2]; exact x4 _ _ l3) (fun y hy acc N' hN' hacc => ?_) (by simp; omega) ?_
        · simp
          refine ⟨hacc, ?_⟩
          simpa [tg] using hN'
        · simp [upo_ne nl2, x4 _ _ hl3]
          refine ⟨by omega, newO_of fun p3 S5 g5 a5 x5 _ => ?_⟩
          have e5 : Ext S S5 := (Ext.put (exs.trans x4) (exs.free g4)).trans x5
          have f5 : S p3 = none := (Ext.put (exs.trans x4) (exs.free g4)).free g5
          refine hN _ _ ⟨p3, (es.map fun y => (y, k + 1)).reverse ++ r, c + 1, _, _, _, _, rfl, f5, ?_, e5, by omega, ?_, ?_, ?_⟩ ?_
          · rw [a5]; simp [tg]
          · simp; omega
          · intro q hq
            rcases List.mem_append.mp hq with z | z
            · rw [List.mem_reverse] at z
              obtain ⟨y, hy, rfl⟩ := List.mem_map.mp z
              exact ⟨p1 y hy, by simp; omega⟩
            · exact hnz q (List.mem_cons_of_mem _ z)
          · rw [← hrun, show 41 - (c + 1) = m by omega]
            simp [runP, hs, hb]
          · simp
            omega
end K07
set_option maxRecDepth 100000
set_option maxHeartbeats 4000000
namespace K07
open PySem PySem.Spec L2 Dt

/-! l_names -/
def t_l_names : DTS := (dSeq (dAsg (dC (.str "abcdefghijklmnopqrstuvwxyz")) (dGN 2))
    (dSeq (dAsg (dBM "str" mJoin (dC (.str "")) (dCons (dLc (dRng1 (dCons (dC (.int 8)) dNil)) (dGN 9) dYes (dOp dIxS (dVar 2) (dCall sp_l_next (dCons (dVar 0) (dCons (dC (.int 26)) dNil)))) [9]) dNil)) (dGN 3))
    (dSeq (dAsg (dCall sp_l_next (dCons (dVar 0) (dCons (dC (.int 3)) dNil))) (dGN 4))
    (dSeq (dAsg (dCall sp_l_next (dCons (dVar 0) (dCons (dC (.int 8)) dNil))) (dGN 5))
    (dSeq (dIf (dTest (dOp (dEq false) (dVar 4) (dC (.int 0))))
      (dAsg (dLc (dRng1 (dCons (dC (.int 8)) dNil)) (dGN 9) dYes (dSl (dVar 3) dNoP (dSoP (dOp dAdd (dVar 9) (dC (.int 1))))) [9]) (dGN 6))
      (dIf (dTest (dOp (dEq false) (dVar 4) (dC (.int 1))))
      (dAsg (dLst (dCons (dC (.str "on")) (dCons (dC (.str "back")) (dCons (dC (.str "at")) (dCons (dC (.str "off")) (dCons (dC (.str "stay")) (dCons (dC (.str "many")) (dCons (dC (.str "then")) (dCons (dC (.str "either")) dNil))))))))) (dGN 6))
      (dSeq (dAsg (dCall sp_l_next (dCons (dVar 0) (dCons (dOp dAdd (dVar 5) (dC (.int 1))) dNil))) (dGN 7))
    (dSeq (dAsg (dCall sp_l_next (dCons (dVar 0) (dCons (dC (.int 26)) dNil))) (dGN 8))
    (dSeq (dAsg (dLst dNil) (dGN 6))
    (dFor (dRng1 (dCons (dC (.int 8)) dNil)) (dGN 9)
      (dSeq (dAsg (dOp dIxS (dVar 2) (dOp rMod (dOp dAdd (dVar 8) (dOp dMul (dC (.int 5)) (dVar 9))) (dC (.int 26)))) (dGN 10))
    (dDrop (dBM "list" mAppend (dVar 6) (dCons (dOp dAdd (dOp dAdd (dSl (dVar 3) dNoP (dSoP (dVar 7))) (dVar 10)) (dSl (dVar 3) (dSoP (dOp dAdd (dVar 7) (dC (.int 1)))) (dSoP (dOp dAdd (dVar 5) (dC (.int 1)))))) dNil))))))))))
    (dRet (dSl (dOp dAdd (dSl (dVar 6) (dSoP (dVar 5)) dNoP) (dSl (dVar 6) dNoP (dSoP (dVar 5)))) dNoP (dSoP (dVar 1)))))))))
theorem ok_l_names {P : Program} {w : World} {K : PySem.W.Frag} {mg : Str → Option Value} {base : Heap} (T : Txt K mg) (G_l_next : DFn P w K mg base 1 T.a_l_next T.f_l_next ["_law_feed_here", "_law_many"] sp_l_next) {sp : DSp}
    (mono : SpMono sp) (len : ∀ ds S Q E, sp ds S Q E → ds.length = 2)
    (h : ∀ ds S Q E, sp ds S Q E → t_l_names { nx := fun _ S' => Q .non S', rt := Q, xe := fun C fs _ S' => E C fs S' } (dstart ["_law_feed_here", "_law_many", "_law_letters", "_law_word", "_law_way", "_law_turn", "_law_names_here", "_law_place", "_law_start", "_law_k", "_law_sign"] ds) S) : DFn P w K mg base 2 T.a_l_names T.f_l_names ["_law_feed_here", "_law_many"] sp := by
  refine dfn_of (t := t_l_names) T.F_l_names sc_l_names mono len (fun cdv A outer s H E hr gu => ?_) h
  have hu1 := hu_of hr
  have hu2 := hu_big hr
  exact (dss_cons (ds_set (i := 2) sc_l_names.nd rfl (by first | exact Or.inl rfl | exact Or.inr rfl) de_str)
    (dss_cons (ds_set (i := 3) sc_l_names.nd rfl (by first | exact Or.inl rfl | exact Or.inr rfl) (de_bm PySem.F.plainAttrs_str PySem.F.slot_str_join PySem.F.type_str_join md_join de_str (da_cons (de_lc (own := [("_law_k", 9)]) rfl sc_l_names.nd (di_rng1 (by rfl) T.b_range (da_cons de_int da_nil)) (blkOk_by (own := [("_law_k", 9)]) (N := ["_law_feed_here", "_law_many", "_law_letters", "_law_word", "_law_way", "_law_turn", "_law_names_here", "_law_place", "_law_start", "_law_k", "_law_sign"]) (sc := defScope s_l_names) (by decide +kernel)) ⟨fun _ _ _ _ _ => (dw_name (i := 9) sc_l_names.nd rfl (by first | exact Or.inl rfl | exact Or.inr rfl) (by decide)), fun _ _ _ _ _ => dts_nil, fun _ _ _ _ _ => (de_ix (ixD_any hu1) (dv 2) (de_call G_l_next (hr.mono (by decide)) gu (by rfl) T.m_l_next T.F_l_next.kp T.d_l_next (da_cons (dv 0) (da_cons de_int da_nil))))⟩) da_nil)))
    (dss_cons (ds_set (i := 4) sc_l_names.nd rfl (by first | exact Or.inl rfl | exact Or.inr rfl) (de_call G_l_next (hr.mono (by decide)) gu (by rfl) T.m_l_next T.F_l_next.kp T.d_l_next (da_cons (dv 0) (da_cons de_int da_nil))))
    (dss_cons (ds_set (i := 5) sc_l_names.nd rfl (by first | exact Or.inl rfl | exact Or.inr rfl) (de_call G_l_next (hr.mono (by decide)) gu (by rfl) T.m_l_next T.F_l_next.kp T.d_l_next (da_cons (dv 0) (da_cons de_int da_nil))))
    (dss_cons (ds_if (dt_cmp (od_eq hr.units) (dv 4) de_int (nomark _))
      (dss_one (ds_setLc (i := 6) (own := [("_law_k", 9)]) rfl sc_l_names.nd rfl rfl (sw_true rfl rfl rfl (by decide +kernel)) (di_rng1 (by rfl) T.b_range (da_cons de_int da_nil)) (blkOk_by (own := [("_law_k", 9)]) (N := ["_law_feed_here", "_law_many", "_law_letters", "_law_word", "_law_way", "_law_turn", "_law_names_here", "_law_place", "_law_start", "_law_k", "_law_sign"]) (sc := defScope s_l_names) (by decide +kernel)) ⟨fun _ _ _ _ _ => (dw_name (i := 9) sc_l_names.nd rfl (by first | exact Or.inl rfl | exact Or.inr rfl) (by decide)), fun _ _ _ _ _ => dts_nil, fun _ _ _ _ _ => (de_sl (dv 3) do_none (do_some (de_op od_add (dv 9) de_int)))⟩))
      (dss_one (ds_if (dt_cmp (od_eq hr.units) (dv 4) de_int (nomark _))
      (dss_one (ds_set (i := 6) sc_l_names.nd rfl (by first | exact Or.inl rfl | exact Or.inr rfl) (de_lst (da_cons de_str (da_cons de_str (da_cons de_str (da_cons de_str (da_cons de_str (da_cons de_str (da_cons de_str (da_cons de_str da_nil)))))))))))
      (dss_cons (ds_set (i := 7) sc_l_names.nd rfl (by first | exact Or.inl rfl | exact Or.inr rfl) (de_call G_l_next (hr.mono (by decide)) gu (by rfl) T.m_l_next T.F_l_next.kp T.d_l_next (da_cons (dv 0) (da_cons (de_op od_add (dv 5) de_int) da_nil))))
    (dss_cons (ds_set (i := 8) sc_l_names.nd rfl (by first | exact Or.inl rfl | exact Or.inr rfl) (de_call G_l_next (hr.mono (by decide)) gu (by rfl) T.m_l_next T.F_l_next.kp T.d_l_next (da_cons (dv 0) (da_cons de_int da_nil))))
    (dss_cons (ds_set (i := 6) sc_l_names.nd rfl (by first | exact Or.inl rfl | exact Or.inr rfl) (de_lst da_nil))
    (dss_one (ds_for (passes_of rfl) rfl (di_rng1 (by rfl) T.b_range (da_cons de_int da_nil)) (dg_name (i := 9) sc_l_names.nd rfl (by first | exact Or.inl rfl | exact Or.inr rfl))
      (dss_cons (ds_set (i := 10) sc_l_names.nd rfl (by first | exact Or.inl rfl | exact Or.inr rfl) (de_ix (ixD_any hu1) (dv 2) (de_op od_mod (de_op od_add (dv 8) (de_op od_mul de_int (dv 9))) de_int)))
    (dss_one (ds_expr (de_bm PySem.F.plainAttrs_list PySem.F.slot_list_append PySem.F.type_list_append md_append (dv 6) (da_cons (de_op od_add (de_op od_add (de_sl (dv 3) do_none (do_some (dv 7))) (dv 10)) (de_sl (dv 3) (do_some (de_op od_add (dv 7) de_int)) (do_some (de_op od_add (dv 5) de_int)))) da_nil)))))))))))))
    (dss_one (ds_ret (de_sl (de_op od_add (de_sl (dv 6) (do_some (dv 5)) do_none) (de_sl (dv 6) do_none (do_some (dv 5)))) do_none (do_some (dv 1))))))))))
section
@[local simp ↓] theorem sp_l_next_cK07n1 {ds : List D} {S : DH} {Q : DK} {E : DXK} : sp_l_next ds S Q E = hold2 (sp_l_next ds S) Q E := rfl
@[local simp ↓] theorem newO_cK07n1 {S : DH} {o : Ob} {Q : Addr → DH → Prop} : newO S o Q = hold (newO S o) Q := rfl
@[local simp ↓] theorem mJoin_cK07n1 {d : D} {ds : List D} {S : DH} {Q : DK} : mJoin d ds S Q = hold (mJoin d ds S) Q := rfl
@[local simp ↓] theorem dLcL_cK07n1 {g : DTG} {tt : DTT} {te : DTE} {E : DW} {τ : DSt} {G : DH → Prop} {p : Addr} {Q : DH → Prop} {ds : List D} {S : DH} : dLcL g tt te E τ G p Q ds S = hold (dLcLf g tt te E τ G p ds S) Q := rfl
theorem r_l_names (ds S Q E) (h : sp_l_names ds S Q E) : t_l_names { nx := fun _ S' => Q .non S', rt := Q, xe := fun C fs _ S' => E C fs S' } (dstart ["_law_feed_here", "_law_many", "_law_letters", "_law_word", "_law_way", "_law_turn", "_law_names_here", "_law_place", "_law_start", "_law_k", "_law_sign"] ds) S := by
  obtain ⟨p, m, n, o, rfl, hm, hp, fo, hn, h⟩ := h
  simp [t_l_names, dstart]
  refine newO_of fun q S1 f1 a1 x1 _ => ?_
  have npq : p ≠ q := ne_fresh hp f1
  have l26 : (Str.ofString "abcdefghijklmnopqrstuvwxyz").cps.toList.length = 26 := by decide +kernel
  have l26' : (Str.ofString "abcdefghijklmnopqrstuvwxyz").length = 26 := by decide +kernel
  refine lc_inv (fun i S' => ∃ ys : List Str, S' q = some (.lst (ys.map D.str)) ∧ ys.length = i ∧ (∀ y ∈ ys, ∃ c, y = ⟨#[c]⟩ ∧ 97 ≤ c ∧ c ≤ 122) ∧ ExtB p S S' ∧ ∃ o, S' p = some o ∧ FeedOb (n + i) o) ⟨[], a1, rfl, (fun _ h => nomatch h), (fun b ob _ e => x1 _ _ e), o, x1 _ _ hp, fo⟩ (fun _ _ _ _ => trivial) ?_ ?_
  · rintro j d S5 N5 hd5 ⟨ys, e1, e2, e3, e4, o5, e5, e6⟩ hN5
    obtain ⟨j', hj', rfl⟩ := rng_at hd5 (by omega)
    have hj : j < 8 := by
      have := (List.getElem?_eq_some_iff.mp hd5).1
      simpa [rngD] using this
    simp
    refine ⟨p, 26, n + j, o5, rfl, by decide, by decide, e5, e6, by omega, fun v o6 v0 v1 fo6 => ?_⟩
    simp
    refine ⟨by rw [l26']; decide, opt_at v0 (by rw [l26]; omega) fun c hc => ?_⟩
    have nrp : upo S5 p o6 q = S5 q := upo_ne npq.symm
    rw [nrp, e1]
    have hcc := List.all_eq_true.mp (show ((Str.ofString "abcdefghijklmnopqrstuvwxyz").cps.toList.all fun c => decide (97 ≤ c ∧ c ≤ 122)) = true by decide +kernel) c hc
    refine ⟨by simp; omega, hN5 _ ⟨ys ++ [⟨#[c]⟩], by rw [upo_same]; simp, by simp [e2], fun y hy => ?_, fun b ob hb e => ?_, o6, ?_, fo6⟩⟩
    · rcases List.mem_append.mp hy with z | z
      · exact e3 y z
      · exact ⟨c, List.mem_singleton.mp z, of_decide_eq_true hcc⟩
    · have nbq : b ≠ q := ne_fresh e f1
      rw [upo_ne nbq, upo_ne hb]
      exact e4 b ob hb e
    · rw [upo_ne npq, upo_same]
  · rintro S5 ⟨ys, e1, e2, e3, e4, o5, e5, e6⟩
    have e2' : ys.length = 8 := by simpa [rngD] using e2
    obtain ⟨w, hw⟩ : ∃ w : Str, w = Txt.join (.ofString "") ys := ⟨_, rfl⟩
    have hwl : w.cps.toList.length = 8 ∧ ∀ c ∈ w.cps.toList, 97 ≤ c ∧ c ≤ 122 := by
      have := join_one ys e3
      rw [e2', ← hw] at this
      exact this
    have hsum : (ys.map (·.length)).sum ≤ 8 := by
      rw [← e2']
      exact sum_le1 ys fun y hy => by
        obtain ⟨c, rfl, _⟩ := e3 y hy
        exact Nat.le_refl 1
    refine ⟨_, q, ys, rfl, rfl, e1, ?_, ?_⟩
    · have l0 : (Str.ofString "").length = 0 := by decide +kernel
      rw [l0]
      omega
    rw [← hw]
    refine ⟨p, 3, n + 8, o5, rfl, by decide, by decide, e5, by simpa [rngD] using e6, by omega, fun v1 o6 v10 v11 fo6 => ?_⟩
    simp
    refine ⟨p, 8, n + 9, o6, rfl, by decide, by decide, upo_same, fo6, by omega, fun t o7 t0 t1 fo7 => ?_⟩
    simp [upo_upo]
    obtain ⟨T, rfl⟩ := Int.eq_ofNat_of_zero_le t0
    have hT : T < 8 := by omega
    obtain ⟨R, hR⟩ : ∃ R, R = fun (S6 : DH) (r : Addr) (a3 a4 a7 a8 a9 a10 : Option D) => dRet (dSl (dOp dAdd (dSl (dVar 6) (dSoP (dVar 5)) dNoP) (dSl (dVar 6) dNoP (dSoP (dVar 5)))) dNoP (dSoP (dVar 1))) { nx := fun _ S' => Q .non S', rt := Q, xe := fun C fs _ S' => E C fs S' }
      [some (.ref p), some (.int (m : Nat)), some (.str "abcdefghijklmnopqrstuvwxyz"), a3, a4, some (.int (T : Nat)), some (.ref r), a7, a8, a9, a10] S6 := ⟨_, rfl⟩
    have tail : ∀ (S6 : DH) (r : Addr) (L : List Str) (a3 a4 a7 a8 a9 a10 : Option D), S6 r = some (.lst (L.map D.str)) → S r = none → ExtB p S S6 → (∃ o, S6 p = some o ∧ FeedOb (n + 12) o) → L.length = 8 → (∀ y ∈ L, Nm y) → L.Nodup → R S6 r a3 a4 a7 a8 a9 a10 := by
      intro S6 r L a3 a4 a7 a8 a9 a10 hr hr0 hx ⟨ob, hp6, fo6⟩ hl hy hd
      subst hR
      simp [hr]
      refine newO_of fun p1 S7 f7 a7 x7 _ => ?_
      have h7 := x7 _ _ hr
      simp [h7]
      refine newO_of fun p2 S8 f8 a8 x8 _ => ?_
      simp [x8 _ _ a7, a8]
      refine ⟨by (try simp); omega, newO_of fun p3 S9 f9 a9 x9 _ => ?_⟩
      simp [a9]
      refine newO_of fun p4 S10 f10 a10 x10 _ => ?_
      have fr : ∀ b o, b ≠ p → S b = some o → S10 b = some o := fun b o hb e => x10 _ _ (x9 _ _ (x8 _ _ (x7 _ _ (hx b o hb e))))
      refine h p4 S10 ob (((L.drop T) ++ (L.take T)).take m) fr (x10 _ _ (x9 _ _ (x8 _ _ (x7 _ _ hp6)))) fo6 ?_ ?_ ?_ ?_ ?_
      · cases z : S p4 with
        | none => rfl
        | some ob2 =>
          by_cases hb : p4 = p
          · subst hb
            have := x9 _ _ (x8 _ _ (x7 _ _ hp6))
            rw [f10] at this
            cases this
          · have := x9 _ _ (x8 _ _ (x7 _ _ (hx p4 ob2 hb z)))
            rw [f10] at this
            cases this
      · rw [a10]
        simp
      · simp; omega
      · intro y hy'
        have := List.mem_of_mem_take hy'
        rcases List.mem_append.mp this with z | z
        · exact hy y (List.mem_of_mem_drop z)
        · exact hy y (List.mem_of_mem_take z)
      · refine List.Sublist.nodup (List.take_sublist _ _) ?_
        have : (L.drop T ++ L.take T).Perm L := List.perm_append_comm.trans (by rw [List.take_append_drop])
        exact this.nodup_iff.mpr hd
    have fr0 : ∀ {S' : DH} {b : Addr}, ExtB p S S' → (∃ o, S' p = some o) → S' b = none → S b = none := fun {S' b} hx ⟨o, ho⟩ hb => by
      cases z : S b with
      | none => rfl
      | some ob2 =>
        by_cases e : b = p
        · subst e; rw [ho] at hb; cases hb
        · have := hx b ob2 e z
          rw [hb] at this
          cases this
    have e7 : ExtB p S (upo S5 p o7) := fun b ob hb e => by rw [upo_ne hb]; exact e4 b ob hb e
    by_cases c0 : v1 = 0
    · simp [c0]
      refine newO_of fun r S6 f6 a6 x6 _ => ?_
      have hx6 : ExtB p S S6 := fun b ob hb e => x6 _ _ (e7 b ob hb e)
      refine lc_map (fun d => match d with | .int i => .str (cutS w none (some (i + 1))) | _ => .non) _ a6 (fun _ => trivial) (fun d hd acc N' hN' hacc => ?_) (by simp [rngD]) ?_
      · simp only [rngD, List.mem_map] at hd
        obtain ⟨k, hk, rfl⟩ := hd
        simp at hN' ⊢
        exact ⟨by rw [str_len, hwl.1]; decide, hacc, hN'⟩
      · have eL : (rngD 0 8).map (fun d => match d with | .int i => D.str (cutS w none (some (i + 1))) | _ => D.non) = ((List.range 8).map fun k : Nat => cutS w none (some ((k + 1 : Nat) : Int))).map D.str := by
          simp only [rngD, List.map_map]
          refine List.map_congr_left fun k _ => ?_
          simp
        rw [eL]
        have lens : ∀ k : Nat, k < 8 → (cutS w none (some ((k + 1 : Nat) : Int))).length = k + 1 := fun k hk => by
          rw [str_len, cutS_take, List.length_take, hwl.1]
          omega
        have := tail (upo S6 r (.lst (((List.range 8).map fun k : Nat => cutS w none (some ((k + 1 : Nat) : Int))).map D.str))) r ((List.range 8).map fun k : Nat => cutS w none (some ((k + 1 : Nat) : Int))) (some (.str w)) (some (.int v1)) none none none none upo_same (fr0 e7 ⟨_, upo_same⟩ f6) (fun b ob hb e => by
            have := hx6 b ob hb e
            rw [upo_ne (fun z => by subst z; rw [fr0 e7 ⟨_, upo_same⟩ f6] at e; cases e)]
            exact this) ⟨o7, by rw [upo_ne (ne_fresh upo_same f6)]; exact x6 _ _ upo_same, fo7.more (by omega)⟩ (by simp) (fun y hy => by
            obtain ⟨k, hk, rfl⟩ := List.mem_map.mp hy
            rw [List.mem_range] at hk
            refine ⟨by rw [lens k hk]; omega, by rw [lens k hk]; omega, fun c hc => hwl.2 c ?_⟩
            rw [cutS_take] at hc
            exact List.mem_of_mem_take hc) (by
            refine nodup_of_map (fun y : Str => y.length) ?_
            rw [List.map_map]
            have e : (List.range 8).map ((fun y : Str => y.length) ∘ fun k : Nat => cutS w none (some ((k + 1 : Nat) : Int))) = (List.range 8).map (· + 1) := List.map_congr_left fun k hk => lens k (List.mem_range.mp hk)
            rw [e]
            decide)
        rw [hR, c0] at this
        first | exact this | (simp at this ⊢; exact this)
    by_cases c1 : v1 = 1
    · simp [c1]
      refine newO_of fun r S6 f6 a6 x6 _ => ?_
      have hx6 : ExtB p S S6 := fun b ob hb e => x6 _ _ (e7 b ob hb e)
      have := tail S6 r ["on", "back", "at", "off", "stay", "many", "then", "either"] (some (.str w)) (some (.int v1)) none none none none a6 (fr0 e7 ⟨_, upo_same⟩ f6) hx6 ⟨o7, x6 _ _ upo_same, fo7.more (by omega)⟩ rfl (fun y hy => by
        have := List.all_eq_true.mp (show (["on", "back", "at", "off", "stay", "many", "then", "either"] : List Str).all (fun y => decide (1 ≤ y.length) && decide (y.length ≤ 8) && y.cps.toList.all fun c => decide (97 ≤ c ∧ c ≤ 122)) = true by decide +kernel) y hy
        simp only [Bool.and_eq_true, decide_eq_true_eq, List.all_eq_true] at this
        exact ⟨this.1.1, this.1.2, this.2⟩) (by decide +kernel)
      rw [hR, c1] at this
      first | exact this | (simp [a6] at this ⊢; exact this)
    · simp [c0, c1]
      refine ⟨p, (T : Int) + 1, n + 10, o7, rfl, by omega, by omega, upo_same, fo7, by omega, fun pl o8 pl0 pl1 fo8 => ?_⟩
      simp [upo_upo]
      refine ⟨p, 26, n + 11, o8, rfl, by decide, by decide, upo_same, fo8, by omega, fun st o9 st0 st1 fo9 => ?_⟩
      simp [upo_upo]
      obtain ⟨P, rfl⟩ := Int.eq_ofNat_of_zero_le pl0
      obtain ⟨s0, rfl⟩ := Int.eq_ofNat_of_zero_le st0
      refine newO_of fun r S6 f6 a6 x6 _ => ?_
      have e9 : ExtB p S (upo S5 p o9) := fun b ob hb e => by rw [upo_ne hb]; exact e4 b ob hb e
      have hx6 : ExtB p S S6 := fun b ob hb e => x6 _ _ (e9 b ob hb e)
      have nrp : r ≠ p := (ne_fresh upo_same f6).symm
      have fr : S r = none := fr0 e9 ⟨_, upo_same⟩ f6
      have hP : P ≤ T := by omega
      have hs0 : s0 < 26 := by omega
      obtain ⟨Y, hY⟩ : ∃ Y : Nat → Str, Y = fun k => cutS w none (some (P : Int)) ++ (⟨#[97 + (s0 + 5 * k) % 26]⟩ : Str) ++ cutS w (some ((P + 1 : Nat) : Int)) (some ((T + 1 : Nat) : Int)) := ⟨_, rfl⟩
      have tlY : ∀ k, (Y k).cps.toList = w.cps.toList.take P ++ [97 + (s0 + 5 * k) % 26] ++ (w.cps.toList.drop (P + 1)).take (T + 1 - (P + 1)) := fun k => by
        rw [hY, app_tl, app_tl, cutS_take, cutS_mid _ _ _ (by omega) (by rw [hwl.1]; omega)]
      have lnY : ∀ k, (Y k).length = T + 1 := fun k => by
        rw [str_len, tlY]
        simp [hwl.1]
        omega
      have wl : w.length = 8 := by rw [str_len, hwl.1]
      (try simp)
      refine loop_inv (fun i τ S' => ∃ a9 a10, τ = [some (.ref p), some (.int (m : Nat)), some (.str "abcdefghijklmnopqrstuvwxyz"), some (.str w), some (.int v1), some (.int (T : Nat)), some (.ref r), some (.int (P : Nat)), some (.int (s0 : Nat)), a9, a10] ∧ S' r = some (.lst (((List.range i).map Y).map D.str)) ∧ ExtB p S S' ∧ S' p = some o9)
        ⟨none, none, rfl, a6, hx6, x6 _ _ upo_same⟩ (fun _ _ _ _ _ => trivial) ?_ ?_
      · rintro i d τ S7 N hd ⟨a9, a10, rfl, h7, hx7, hp7⟩ hN
        have hi : i < 8 := by
          have := (List.getElem?_eq_some_iff.mp hd).1
          simpa [rngD] using this
        have ed : d = .int (i : Nat) := by
          obtain ⟨h1, h2⟩ := List.getElem?_eq_some_iff.mp hd
          simp [rngD] at h2
          exact h2.symm
        subst ed
        obtain ⟨J, hJ⟩ : ∃ J, J = (s0 + 5 * i) % 26 := ⟨_, rfl⟩
        have hc : ((s0 : Int) + 5 * (i : Int)) % 26 = (J : Int) := by omega
        have hl := letter_at J (by omega)
        have c1' : CMulW 5 (i : Int) := (show Bd 5 5 by unfold Bd; decide).cm (show Bd 5 (i : Int) by unfold Bd; omega)
        have q1 : (cutS w none (some (P : Int))).length ≤ 8 := Nat.le_trans (cutS_length w _ _) (by rw [wl]; decide)
        have q2 : ∀ lo hi, (cutS w lo hi).length ≤ 8 := fun lo hi => Nat.le_trans (cutS_length w _ _) (by rw [wl]; decide)
        have q3 : (cutS w none (some (P : Int)) ++ (⟨#[97 + J]⟩ : Str)).length ≤ 9 := by
          rw [str_len, app_tl, List.length_append, ← str_len]
          simpa using q1
        simp [c1', hc, l26', atI_nat hl, h7, wl]
        refine ⟨by have := q1; show _ + 1 ≤ _; omega, by have := q2 (some ((P : Int) + 1)) (some ((T : Int) + 1)); omega, by omega, hN _ _ ⟨_, _, rfl, ?_, ?_, ?_⟩⟩
        · rw [upo_same, List.range_succ, List.map_append, List.map_append, hY]
          simp only [List.map_cons, List.map_nil, List.map_map]
          rw [← hJ]
          rfl
        · exact fun b ob hb e => by
            rw [upo_ne (fun z => by subst z; rw [fr] at e; cases e)]
            exact hx7 b ob hb e
        · rw [upo_ne nrp.symm]
          exact hp7
      · rintro τ S7 ⟨a9, a10, rfl, h7, hx7, hp7⟩
        have := tail S7 r ((List.range (rngD 0 8).length).map Y) (some (.str w)) (some (.int v1)) (some (.int (P : Nat))) (some (.int (s0 : Nat))) a9 a10 h7 fr hx7 ⟨o9, hp7, fo9.more (by omega)⟩ (by simp [rngD]) (fun y hy => by
          obtain ⟨k, hk, rfl⟩ := List.mem_map.mp hy
          refine ⟨by rw [lnY]; omega, by rw [lnY]; omega, fun c hc => ?_⟩
          rw [tlY] at hc
          rcases List.mem_append.mp hc with z | z
          · rcases List.mem_append.mp z with z | z
            · exact hwl.2 c (List.mem_of_mem_take z)
            · rw [List.mem_singleton.mp z]; omega
          · exact hwl.2 c (List.mem_of_mem_drop (List.mem_of_mem_take z))) (by
          refine nodup_of_map (fun y : Str => y.cps.toList.getD P 0) ?_
          rw [List.map_map, show (rngD 0 8).length = 8 by simp [rngD]]
          have e : (List.range 8).map ((fun y : Str => y.cps.toList.getD P 0) ∘ Y) = (List.range 8).map fun k => 97 + (s0 + 5 * k) % 26 := List.map_congr_left fun k _ => by
            show (Y k).cps.toList.getD P 0 = _
            have hPl : (w.cps.toList.take P).length = P := by rw [List.length_take, hwl.1]; omega
            rw [tlY, List.append_assoc, List.getD_eq_getElem?_getD, List.getElem?_append_right (by omega), hPl, Nat.sub_self]
            rfl
          rw [e]
          exact signs_apart s0 hs0)
        rw [hR] at this
        exact this
end
end K07
set_option maxRecDepth 100000
set_option maxHeartbeats 4000000
namespace K07
open PySem PySem.Spec L2 Dt

/-! l_leaf -/
def t_l_leaf : DTS := (dSeq (dAsg (dCall sp_l_next (dCons (dVar 0) (dCons (dC (.int 8)) dNil))) (dGN 2))
    (dSeq (dIf (dTest (dOp (dEq false) (dVar 2) (dC (.int 0))))
      (dRet (dTup (dCons (dC (.str "stay")) dNil)))
      dNx)
    (dSeq (dIf (dTest (dOp rLt (dVar 2) (dC (.int 3))))
      (dRet (dTup (dCons (dOp dIxS (dLst (dCons (dC (.str "at")) (dCons (dC (.str "off")) dNil))) (dOp rSub (dVar 2) (dC (.int 1)))) (dCons (dOp dIxS (dOp dIxS (dVar 1) (dC (.int 2))) (dCall sp_l_next (dCons (dVar 0) (dCons (dCB cLen (dCons (dOp dIxS (dVar 1) (dC (.int 2))) dNil)) dNil)))) dNil))))
      dNx)
    (dSeq (dAsg (dOp dIxS (dOp dAdd (dLst (dCons (dC (.str "*")) dNil)) (dOp dIxS (dVar 1) (dC (.int 1)))) (dCall sp_l_next (dCons (dVar 0) (dCons (dOp dAdd (dC (.int 1)) (dCB cLen (dCons (dOp dIxS (dVar 1) (dC (.int 1))) dNil))) dNil)))) (dGN 3))
    (dRet (dTup (dCons (dC (.str "step")) (dCons (dOp dIxS (dLst (dCons (dC (.str "on")) (dCons (dC (.str "on")) (dCons (dC (.str "back")) dNil)))) (dCall sp_l_next (dCons (dVar 0) (dCons (dC (.int 3)) dNil)))) (dCons (dVar 3) dNil)))))))))
theorem ok_l_leaf {P : Program} {w : World} {K : PySem.W.Frag} {mg : Str → Option Value} {base : Heap} (T : Txt K mg) (G_l_next : DFn P w K mg base 1 T.a_l_next T.f_l_next ["_law_feed_here", "_law_many"] sp_l_next) {sp : DSp}
    (mono : SpMono sp) (len : ∀ ds S Q E, sp ds S Q E → ds.length = 2)
    (h : ∀ ds S Q E, sp ds S Q E → t_l_leaf { nx := fun _ S' => Q .non S', rt := Q, xe := fun C fs _ S' => E C fs S' } (dstart ["_law_feed_here", "_law_names_here", "_law_way", "_law_word"] ds) S) : DFn P w K mg base 2 T.a_l_leaf T.f_l_leaf ["_law_feed_here", "_law_names_here"] sp := by
  refine dfn_of (t := t_l_leaf) T.F_l_leaf sc_l_leaf mono len (fun cdv A outer s H E hr gu => ?_) h
  have hu1 := hu_of hr
  have hu2 := hu_big hr
  exact (dss_cons (ds_set (i := 2) sc_l_leaf.nd rfl (by first | exact Or.inl rfl | exact Or.inr rfl) (de_call G_l_next (hr.mono (by decide)) gu (by rfl) T.m_l_next T.F_l_next.kp T.d_l_next (da_cons (dv 0) (da_cons de_int da_nil))))
    (dss_cons (ds_if (dt_cmp (od_eq hr.units) (dv 2) de_int (nomark _))
      (dss_one (ds_ret (de_tup (da_cons de_str da_nil))))
      dss_nil)
    (dss_cons (ds_if (dt_cmp od_lt (dv 2) de_int (nomark _))
      (dss_one (ds_ret (de_tup (da_cons (de_ix (ixD_any hu1) (de_lst (da_cons de_str (da_cons de_str da_nil))) (de_op od_sub (dv 2) de_int)) (da_cons (de_ix (ixD_any hu1) (de_ix (ixD_any hu1) (dv 1) de_int) (de_call G_l_next (hr.mono (by decide)) gu (by rfl) T.m_l_next T.F_l_next.kp T.d_l_next (da_cons (dv 0) (da_cons (de_callB cd_len (by rfl) T.b_len (by decide +kernel) (da_cons (de_ix (ixD_any hu1) (dv 1) de_int) da_nil)) da_nil)))) da_nil)))))
      dss_nil)
    (dss_cons (ds_set (i := 3) sc_l_leaf.nd rfl (by first | exact Or.inl rfl | exact Or.inr rfl) (de_ix (ixD_any hu1) (de_op od_add (de_lst (da_cons de_str da_nil)) (de_ix (ixD_any hu1) (dv 1) de_int)) (de_call G_l_next (hr.mono (by decide)) gu (by rfl) T.m_l_next T.F_l_next.kp T.d_l_next (da_cons (dv 0) (da_cons (de_op od_add de_int (de_callB cd_len (by rfl) T.b_len (by decide +kernel) (da_cons (de_ix (ixD_any hu1) (dv 1) de_int) da_nil))) da_nil)))))
    (dss_one (ds_ret (de_tup (da_cons de_str (da_cons (de_ix (ixD_any hu1) (de_lst (da_cons de_str (da_cons de_str (da_cons de_str da_nil)))) (de_call G_l_next (hr.mono (by decide)) gu (by rfl) T.m_l_next T.F_l_next.kp T.d_l_next (da_cons (dv 0) (da_cons de_int da_nil)))) (da_cons (dv 3) da_nil))))))))))

/-! l_pattern -/
def t_l_pattern (spR : DSp) : DTS := (dSeq (dAsg (dCall sp_l_next (dCons (dVar 0) (dCons (dC (.int 8)) dNil))) (dGN 3))
    (dSeq (dIf (dOr (dTest (dOp (dEq false) (dVar 2) (dC (.int 0)))) (dTest (dOp rLt (dVar 3) (dC (.int 2)))))
      (dRet (dCall sp_l_leaf (dCons (dVar 0) (dCons (dVar 1) dNil))))
      dNx)
    (dSeq (dIf (dTest (dOp rLt (dVar 3) (dC (.int 4))))
      (dRet (dTup (dCons (dC (.str "many")) (dCons (dCall spR (dCons (dVar 0) (dCons (dVar 1) (dCons (dOp rSub (dVar 2) (dC (.int 1))) dNil)))) dNil))))
      dNx)
    (dSeq (dAsg (dOp dIxS (dLst (dCons (dC (.int 2)) (dCons (dC (.int 1)) (dCons (dC (.int 3)) (dCons (dC (.int 0)) (dCons (dC (.int 2)) (dCons (dC (.int 2)) dNil))))))) (dCall sp_l_next (dCons (dVar 0) (dCons (dC (.int 6)) dNil)))) (dGN 4))
    (dSeq (dAsg (dCB cTuple (dCons (dLc (dRng1 (dCons (dVar 4) dNil)) (dGN 6) dYes (dCall spR (dCons (dVar 0) (dCons (dVar 1) (dCons (dOp rSub (dVar 2) (dC (.int 1))) dNil)))) [6]) dNil)) (dGN 5))
    (dRet (dTup (dCons (dOp dIxS (dLst (dCons (dC (.str "then")) (dCons (dC (.str "either")) dNil))) (dOp rMod (dVar 3) (dC (.int 2)))) (dCons (dVar 5) dNil)))))))))
theorem ok_l_pattern {P : Program} {w : World} {K : PySem.W.Frag} {mg : Str → Option Value} {base : Heap} (T : Txt K mg) (G_l_next : DFn P w K mg base 1 T.a_l_next T.f_l_next ["_law_feed_here", "_law_many"] sp_l_next) (G_l_leaf : DFn P w K mg base 2 T.a_l_leaf T.f_l_leaf ["_law_feed_here", "_law_names_here"] sp_l_leaf) (n : Nat) {spR : DSp} (G_l_pattern : DFn P w K mg base (2 + n) T.a_l_pattern T.f_l_pattern ["_law_feed_here", "_law_names_here", "_law_deep"] spR) {sp : DSp}
    (mono : SpMono sp) (len : ∀ ds S Q E, sp ds S Q E → ds.length = 3)
    (h : ∀ ds S Q E, sp ds S Q E → (t_l_pattern spR) { nx := fun _ S' => Q .non S', rt := Q, xe := fun C fs _ S' => E C fs S' } (dstart ["_law_feed_here", "_law_names_here", "_law_deep", "_law_way", "_law_many", "_law_parts", "_law_k"] ds) S) : DFn P w K mg base (2 + n + 1) T.a_l_pattern T.f_l_pattern ["_law_feed_here", "_law_names_here", "_law_deep"] sp := by
  refine dfn_of (t := (t_l_pattern spR)) T.F_l_pattern sc_l_pattern mono len (fun cdv A outer s H E hr gu => ?_) h
  have hu1 := hu_of hr
  have hu2 := hu_big hr
  exact (dss_cons (ds_set (i := 3) sc_l_pattern.nd rfl (by first | exact Or.inl rfl | exact Or.inr rfl) (de_call G_l_next (hr.mono (by omega)) gu (by rfl) T.m_l_next T.F_l_next.kp T.d_l_next (da_cons (dv 0) (da_cons de_int da_nil))))
    (dss_cons (ds_if (DWt.pt (dw_or (dt_cmp (od_eq hr.units) (dv 2) de_int (nomark _)) (dw_or1 (dt_cmp od_lt (dv 3) de_int (nomark _)))))
      (dss_one (ds_ret (de_call G_l_leaf (hr.mono (by omega)) gu (by rfl) T.m_l_leaf T.F_l_leaf.kp T.d_l_leaf (da_cons (dv 0) (da_cons (dv 1) da_nil)))))
      dss_nil)
    (dss_cons (ds_if (dt_cmp od_lt (dv 3) de_int (nomark _))
      (dss_one (ds_ret (de_tup (da_cons de_str (da_cons (de_call G_l_pattern (hr.mono (Nat.le_refl _)) gu (by rfl) T.m_l_pattern T.F_l_pattern.kp T.d_l_pattern (da_cons (dv 0) (da_cons (dv 1) (da_cons (de_op od_sub (dv 2) de_int) da_nil)))) da_nil)))))
      dss_nil)
    (dss_cons (ds_set (i := 4) sc_l_pattern.nd rfl (by first | exact Or.inl rfl | exact Or.inr rfl) (de_ix (ixD_any hu1) (de_lst (da_cons de_int (da_cons de_int (da_cons de_int (da_cons de_int (da_cons de_int (da_cons de_int da_nil))))))) (de_call G_l_next (hr.mono (by omega)) gu (by rfl) T.m_l_next T.F_l_next.kp T.d_l_next (da_cons (dv 0) (da_cons de_int da_nil)))))
    (dss_cons (ds_set (i := 5) sc_l_pattern.nd rfl (by first | exact Or.inl rfl | exact Or.inr rfl) (de_callTy cd_tuple (by rfl) T.b_tuple (by decide +kernel) (da_cons (de_lc (own := [("_law_k", 6)]) rfl sc_l_pattern.nd (di_rng1 (by rfl) T.b_range (da_cons (dv 4) da_nil)) (blkOk_by (own := [("_law_k", 6)]) (N := ["_law_feed_here", "_law_names_here", "_law_deep", "_law_way", "_law_many", "_law_parts", "_law_k"]) (sc := defScope s_l_pattern) (by decide +kernel)) ⟨fun _ _ _ _ _ => (dw_name (i := 6) sc_l_pattern.nd rfl (by first | exact Or.inl rfl | exact Or.inr rfl) (by decide)), fun _ _ _ _ _ => dts_nil, fun _ _ _ _ _ => (de_call G_l_pattern (hr.mono (Nat.le_refl _)) gu (by rfl) T.m_l_pattern T.F_l_pattern.kp T.d_l_pattern (da_cons (dv 0) (da_cons (dv 1) (da_cons (de_op od_sub (dv 2) de_int) da_nil))))⟩) da_nil)))
    (dss_one (ds_ret (de_tup (da_cons (de_ix (ixD_any hu1) (de_lst (da_cons de_str (da_cons de_str da_nil))) (de_op od_mod (dv 3) de_int)) (da_cons (dv 5) da_nil))))))))))
section
@[local simp ↓] theorem sp_l_next_cK07l1 {ds : List D} {S : DH} {Q : DK} {E : DXK} : sp_l_next ds S Q E = hold2 (sp_l_next ds S) Q E := rfl
@[local simp ↓] theorem newO_cK07l1 {S : DH} {o : Ob} {Q : Addr → DH → Prop} : newO S o Q = hold (newO S o) Q := rfl
@[local simp ↓] theorem mJoin_cK07l1 {d : D} {ds : List D} {S : DH} {Q : DK} : mJoin d ds S Q = hold (mJoin d ds S) Q := rfl
@[local simp ↓] theorem dLcL_cK07l1 {g : DTG} {tt : DTT} {te : DTE} {E : DW} {τ : DSt} {G : DH → Prop} {p : Addr} {Q : DH → Prop} {ds : List D} {S : DH} : dLcL g tt te E τ G p Q ds S = hold (dLcLf g tt te E τ G p ds S) Q := rfl
@[local simp ↓] theorem sp_l_leaf_cK07l1 {ds : List D} {S : DH} {Q : DK} {E : DXK} : sp_l_leaf ds S Q E = hold2 (sp_l_leaf ds S) Q E := rfl
theorem r_l_leaf (ds S Q E) (h : sp_l_leaf ds S Q E) : t_l_leaf { nx := fun _ S' => Q .non S', rt := Q, xe := fun C fs _ S' => E C fs S' } (dstart ["_law_feed_here", "_law_names_here", "_law_way", "_law_word"] ds) S := by
  obtain ⟨p, nh, ws, ms, n, o, rfl, hp, fo, hn, hN, h⟩ := h
  have hN' := hN
  obtain ⟨e0, a1, a2, h1, h2, h3, l1, l2, l3, l4, h4, h5⟩ := hN
  have np1 : a1 ≠ p := fun z => by subst z; exact fo.nl hp _ h2
  have np2 : a2 ≠ p := fun z => by subst z; exact fo.nl hp _ h3
  have np0 : nh ≠ p := fun z => by subst z; exact fo.nl hp _ h1
  simp [t_l_leaf, dstart]
  refine ⟨p, 8, n, o, rfl, by decide, by decide, hp, fo, by omega, fun v o1 v0 v1 fo1 => ?_⟩
  simp
  by_cases c0 : v = 0
  · simp [c0]
    exact h _ _ o1 (ExtB.put (ExtB.refl p S)) upo_same (fo1.more (by omega)) (.inl rfl)
  simp [c0]
  by_cases c1 : v < 3
  · simp [c1]
    refine newO_of fun q S2 f2 b2 x2 _ => ?_
    have hp2 := x2 _ _ (upo_same (S := S) (a := p) (o := o1))
    have i0 := x2 _ _ (show upo S p o1 nh = _ by rw [upo_ne np0]; exact h1)
    have i2 := x2 _ _ (show upo S p o1 a2 = _ by rw [upo_ne np2]; exact h3)
    have x2' : ExtB p S S2 := (ExtB.put (ExtB.refl p S)).ext x2
    simp [b2]
    refine opt_at (by omega) (by simp; omega) fun y hy => ?_
    simp [i0, i2]
    refine ⟨p, ms.length, n + 1, o1, rfl, by omega, by omega, hp2, fo1, by omega, fun u o2 u0 u1 fo2 => ?_⟩
    simp [upo_ne np0, upo_ne np2, i0, i2]
    refine opt_at u0 (by simpa using u1) fun z hz => ?_
    obtain ⟨m, hm, rfl⟩ := List.mem_map.mp hz
    refine h _ _ o2 (ExtB.put x2') upo_same (fo2.more (by omega)) (.inr (.inl ?_))
    simp at hy
    rcases hy with rfl | rfl
    · exact ⟨"at", m, .inl rfl, hm, rfl⟩
    · exact ⟨"off", m, .inr rfl, hm, rfl⟩
  · simp [c1]
    refine newO_of fun q S2 f2 b2 x2 _ => ?_
    have hp2 := x2 _ _ (upo_same (S := S) (a := p) (o := o1))
    have i0 := x2 _ _ (show upo S p o1 nh = _ by rw [upo_ne np0]; exact h1)
    have i1 := x2 _ _ (show upo S p o1 a1 = _ by rw [upo_ne np1]; exact h2)
    have x2' : ExtB p S S2 := (ExtB.put (ExtB.refl p S)).ext x2
    simp [b2, i0, i1]
    refine ⟨by omega, newO_of fun r S3 f3 b3 x3 _ => ?_⟩
    have hp3 := x3 _ _ hp2
    simp [x3 _ _ i0, x3 _ _ i1]
    refine ⟨p, 1 + ws.length, n + 1, o1, rfl, by omega, by omega, hp3, fo1, by omega, fun u o2 u0 u1 fo2 => ?_⟩
    have nrp : r ≠ p := (ne_fresh hp2 f3).symm
    simp [upo_ne nrp, b3]
    refine opt_at u0 (by simp; omega) fun z hz => ?_
    refine newO_of fun t S4 f4 b4 x4 _ => ?_
    have hp4 := x4 _ _ (upo_same (S := S3) (a := p) (o := o2))
    have ntp : t ≠ p := (ne_fresh (upo_same (S := S3) (a := p) (o := o2)) f4).symm
    refine ⟨p, 3, n + 2, o2, rfl, by decide, by decide, hp4, fo2, by omega, fun u' o3 u0' u1' fo3 => ?_⟩
    simp [upo_ne ntp, b4]
    refine opt_at u0' (by simpa using u1') fun y hy => ?_
    refine h _ _ o3 (ExtB.put ((ExtB.put (x2'.ext x3)).ext x4)) upo_same (fo3.more (by omega)) (.inr (.inr ?_))
    obtain ⟨w, hw, rfl⟩ : ∃ w : Str, (w = "*" ∨ w ∈ ws) ∧ z = .str w := by
      rcases List.mem_cons.mp hz with rfl | hz
      · exact ⟨"*", .inl rfl, rfl⟩
      · obtain ⟨w, hw, rfl⟩ := List.mem_map.mp hz
        exact ⟨w, .inr hw, rfl⟩
    simp at hy
    rcases hy with rfl | rfl
    · exact ⟨"on", w, .inl rfl, hw, rfl⟩
    · exact ⟨"back", w, .inr rfl, hw, rfl⟩
end
section
@[local simp ↓] theorem sp_l_next_cK07l2 {ds : List D} {S : DH} {Q : DK} {E : DXK} : sp_l_next ds S Q E = hold2 (sp_l_next ds S) Q E := rfl
@[local simp ↓] theorem newO_cK07l2 {S : DH} {o : Ob} {Q : Addr → DH → Prop} : newO S o Q = hold (newO S o) Q := rfl
@[local simp ↓] theorem mJoin_cK07l2 {d : D} {ds : List D} {S : DH} {Q : DK} : mJoin d ds S Q = hold (mJoin d ds S) Q := rfl
@[local simp ↓] theorem dLcL_cK07l2 {g : DTG} {tt : DTT} {te : DTE} {E : DW} {τ : DSt} {G : DH → Prop} {p : Addr} {Q : DH → Prop} {ds : List D} {S : DH} : dLcL g tt te E τ G p Q ds S = hold (dLcLf g tt te E τ G p ds S) Q := rfl
@[local simp ↓] theorem sp_l_leaf_cK07l2 {ds : List D} {S : DH} {Q : DK} {E : DXK} : sp_l_leaf ds S Q E = hold2 (sp_l_leaf ds S) Q E := rfl
@[local simp ↓] theorem sp_l_pattern_cK07l2 {k : Nat} {ds : List D} {S : DH} {Q : DK} {E : DXK} : sp_l_pattern k ds S Q E = hold2 (sp_l_pattern k ds S) Q E := rfl
theorem r_l_pattern (k : Nat) (ds S Q E) (h : sp_l_pattern k ds S Q E) : t_l_pattern (prevSp sp_l_pattern k) { nx := fun _ S' => Q .non S', rt := Q, xe := fun C fs _ S' => E C fs S' } (dstart ["_law_feed_here", "_law_names_here", "_law_deep", "_law_way", "_law_many", "_law_parts", "_law_k"] ds) S := by
  obtain ⟨p, nh, j, ws, ms, n, o, rfl, hj, hp, fo, hn, hN, h⟩ := h
  have c4 : 4 ≤ costP k := by cases k <;> simp [costP]; omega
  simp [t_l_pattern, dstart]
  refine ⟨p, 8, n, o, rfl, by decide, by decide, hp, fo, by omega, fun v o1 v0 v1 fo1 => ?_⟩
  simp
  have e1 : ExtB p S (upo S p o1) := ExtB.put (ExtB.refl p S)
  have hN1 : NmsAt (upo S p o1) nh ws ms := hN.extB (fo.nl hp) e1
  have leaf : sp_l_leaf [.ref p, .ref nh] (upo S p o1) Q fun C fs S' => E C fs S' :=
    ⟨p, nh, ws, ms, n + 1, o1, rfl, upo_same, fo1, by omega, hN1, fun d S' o' a b c e => h d S' o' (e1.trans a) b (c.more (by omega)) (e.pat k)⟩
  by_cases c0 : j = 0
  · simp [c0]
    exact leaf
  simp [c0]
  by_cases c1 : v < 2
  · simp [c1]
    exact leaf
  simp [c1]
  obtain ⟨m, rfl⟩ : ∃ m, k = m + 1 := ⟨k - 1, by omega⟩
  have hc : costP (m + 1) = 5 + 3 * costP m := rfl
  have ej : (j : Int) - 1 = ((j - 1 : Nat) : Int) := by omega
  by_cases c2 : v < 4
  · simp [c2, ej]
    exact ⟨p, nh, j - 1, ws, ms, n + 1, o1, rfl, by omega, upo_same, fo1, by omega, hN1, fun d S' o' a b c e => by
      simp
      exact h _ S' o' (e1.trans a) b (c.more (by omega)) (.inr (.inl ⟨d, rfl, e⟩))⟩
  simp [c2]
  refine newO_of fun q S2 f2 b2 x2 _ => ?_
  have nqp : q ≠ p := (ne_fresh (upo_same (S := S) (a := p) (o := o1)) f2).symm
  refine ⟨p, 6, n + 1, o1, rfl, by decide, by decide, x2 _ _ upo_same, fo1, by omega, fun u o2 u0 u1 fo2 => ?_⟩
  simp [upo_ne nqp, b2]
  refine opt_at u0 (by simpa using u1) fun y hy => ?_
  obtain ⟨M, hM, rfl⟩ : ∃ M : Nat, M ≤ 3 ∧ y = .int (M : Nat) := by
    simp only [List.mem_cons, List.not_mem_nil, or_false] at hy
    rcases hy with rfl | rfl | rfl | rfl | rfl | rfl
    · exact ⟨2, by decide, rfl⟩
    · exact ⟨1, by decide, rfl⟩
    · exact ⟨3, by decide, rfl⟩
    · exact ⟨0, by decide, rfl⟩
    · exact ⟨2, by decide, rfl⟩
    · exact ⟨2, by decide, rfl⟩
  simp
  refine ⟨by omega, newO_of fun r S3 f3 b3 x3 _ => ?_⟩
  have e2 : ExtB p S (upo S2 p o2) := ExtB.put (e1.ext x2)
  have e3 : ExtB p S S3 := e2.ext x3
  have nrp : r ≠ p := (ne_fresh (upo_same (S := S2) (a := p) (o := o2)) f3).symm
  have hr : S r = none := e2.free upo_same f3
  refine lc_inv (fun i S' => ∃ es : List D, S' r = some (.lst es) ∧ es.length = i ∧ (∀ e ∈ es, IsPat ws ms m e) ∧ ExtB p S S' ∧ ∃ ob, S' p = some ob ∧ FeedOb (n + 2 + i * costP m) ob)
    ⟨[], b3, rfl, (fun _ z => nomatch z), e3, o2, x3 _ _ upo_same, fo2.more (by omega)⟩ (fun _ _ _ _ => trivial) ?_ ?_
  · rintro i d S5 N5 hd5 ⟨es, g1, g2, g3, g4, o5, g5, g6⟩ hN5
    have hi : i < M := by
      have := (List.getElem?_eq_some_iff.mp hd5).1
      simp [rngD] at this
      exact this
    have im : i * costP m + costP m ≤ 3 * costP m := by
      rw [← Nat.succ_mul]
      exact Nat.mul_le_mul_right _ (by omega)
    simp [ej]
    refine ⟨p, nh, j - 1, ws, ms, n + 2 + i * costP m, o5, rfl, by omega, g5, g6, by omega, hN.extB (fo.nl hp) g4, fun d' S6 o6 a b c e => ?_⟩
    have g7 : S6 r = some (.lst es) := a r _ nrp g1
    simp [g7]
    refine ⟨by omega, hN5 _ ⟨es ++ [d'], upo_same, by simp [g2], fun z hz => ?_, fun b' ob hb hz => ?_, o6, ?_, ?_⟩⟩
    · rcases List.mem_append.mp hz with z' | z'
      · exact g3 z z'
      · rw [List.mem_singleton.mp z']; exact e
    · rw [upo_ne (fun z => by subst z; rw [hr] at hz; cases hz)]
      exact (g4.trans a) b' ob hb hz
    · rw [upo_ne nrp.symm]; exact b
    · rw [Nat.succ_mul, ← Nat.add_assoc]; exact c
  · rintro S5 ⟨es, g1, g2, g3, g4, o5, g5, g6⟩
    have g2' : es.length = M := by rw [g2]; simp [rngD]
    simp [g1]
    refine newO_of fun t S6 f6 b6 x6 _ => ?_
    simp [b6]
    refine opt_at (by omega) (by simp; omega) fun y hy => ?_
    have im : M * costP m ≤ 3 * costP m := Nat.mul_le_mul_right _ hM
    refine h _ S6 o5 (g4.ext x6) (x6 _ _ g5) (g6.more (by simp [rngD]; omega)) (.inr (.inr ?_))
    simp at hy
    rcases hy with rfl | rfl
    · exact ⟨"then", es, rfl, .inl rfl, by omega, g3⟩
    · exact ⟨"either", es, rfl, .inr rfl, by omega, g3⟩
end
end K07
set_option maxRecDepth 100000
set_option maxHeartbeats 4000000
namespace K07
open PySem PySem.Spec L2 Dt

/-! l_bad -/
def t_l_bad : DTS := (dSeq (dAsg (dCall sp_l_leaf (dCons (dVar 0) (dCons (dVar 1) dNil))) (dGN 3))
    (dSeq (dAsg (dOp dIxS (dOp dIxS (dVar 1) (dC (.int 1))) (dC (.int 0))) (dGN 4))
    (dSeq (dAsg (dLst (dCons (dCB cList (dCons (dVar 2) dNil)) (dCons (dOp dAdd (dVar 2) (dTup (dCons (dC .non) dNil))) (dCons (dSl (dVar 2) dNoP (dSoP (dC (.int 1)))) (dCons (dTup dNil) (dCons (dC .non) (dCons (dC (.bl true)) (dCons (dC (.int 0)) (dCons (dC (.str "stay")) dNil))))))))) (dGN 5))
    (dSeq (dAsg (dOp dAdd (dVar 5) (dLst (dCons (dLst (dCons (dVar 3) dNil)) (dCons (dTup (dCons (dVar 3) dNil)) (dCons (dTup (dCons (dC (.str "stay")) (dCons (dC (.str "stay")) dNil))) (dCons (dTup (dCons (dC (.str "step")) (dCons (dC (.str "on")) dNil))) (dCons (dTup (dCons (dC (.str "step")) (dCons (dC (.str "On")) (dCons (dVar 4) dNil)))) dNil))))))) (dGN 5))
    (dSeq (dAsg (dOp dAdd (dVar 5) (dLst (dCons (dTup (dCons (dC (.str "step")) (dCons (dC (.str "back")) (dCons (dC (.str "**")) dNil)))) (dCons (dTup (dCons (dC (.str "step")) (dCons (dVar 4) dNil))) (dCons (dTup (dCons (dC (.str "at")) (dCons (dC (.str "*")) dNil))) (dCons (dTup (dCons (dC (.str "step")) (dCons (dC (.str "on")) (dCons (dC .non) dNil)))) dNil)))))) (dGN 5))
    (dSeq (dAsg (dOp dAdd (dVar 5) (dLst (dCons (dTup (dCons (dC (.str "off")) (dCons (dC (.str "A")) dNil))) (dCons (dTup (dCons (dC (.str "at")) (dCons (dTup (dCons (dC (.str "a")) dNil)) dNil))) (dCons (dTup (dCons (dC (.str "Stay")) dNil)) (dCons (dTup (dCons (dC (.str "many")) dNil)) (dCons (dTup (dCons (dC (.str "many")) (dCons (dVar 3) (dCons (dVar 3) dNil)))) dNil))))))) (dGN 5))
    (dSeq (dAsg (dOp dAdd (dVar 5) (dLst (dCons (dTup (dCons (dC (.str "many")) (dCons (dTup (dCons (dVar 3) dNil)) dNil))) (dCons (dTup (dCons (dC (.str "many")) (dCons (dC .non) dNil))) (dCons (dTup (dCons (dC (.str "then")) (dCons (dLst (dCons (dVar 3) dNil)) dNil))) (dCons (dTup (dCons (dC (.str "then")) (dCons (dVar 3) dNil))) dNil)))))) (dGN 5))
    (dSeq (dAsg (dOp dAdd (dVar 5) (dLst (dCons (dTup (dCons (dC (.str "either")) (dCons (dC .non) dNil))) (dCons (dTup (dCons (dC (.str "either")) dNil)) (dCons (dTup (dCons (dC (.str "then")) (dCons (dVar 3) (dCons (dVar 3) dNil)))) (dCons (dTup (dCons (dC (.str "or")) (dCons (dTup (dCons (dVar 3) dNil)) dNil))) dNil)))))) (dGN 5))
    (dSeq (dAsg (dOp dAdd (dVar 5) (dLst (dCons (dTup (dCons (dC (.str "either")) (dCons (dTup (dCons (dVar 3) (dCons (dC .non) dNil))) dNil))) (dCons (dTup (dCons (dC (.str "off")) (dCons (dC (.str "abcdefghi")) dNil))) (dCons (dTup (dCons (dC (.str "step")) (dCons (dC (.str "on")) (dCons (dC (.str "")) dNil)))) dNil))))) (dGN 5))
    (dRet (dOp dIxS (dOp dAdd (dVar 5) (dLst (dCons (dTup (dCons (dC (.str "at")) (dCons (dC (.str "")) dNil))) (dCons (dTup (dCons (dC (.str "many")) (dCons (dVar 3) dNil))) (dCons (dTup (dCons (dC (.str "then")) (dCons (dTup dNil) dNil))) dNil))))) (dCall sp_l_next (dCons (dVar 0) (dCons (dC (.int 36)) dNil))))))))))))))
theorem ok_l_bad {P : Program} {w : World} {K : PySem.W.Frag} {mg : Str → Option Value} {base : Heap} (T : Txt K mg) (G_l_next : DFn P w K mg base 1 T.a_l_next T.f_l_next ["_law_feed_here", "_law_many"] sp_l_next) (G_l_leaf : DFn P w K mg base 2 T.a_l_leaf T.f_l_leaf ["_law_feed_here", "_law_names_here"] sp_l_leaf) {sp : DSp}
    (mono : SpMono sp) (len : ∀ ds S Q E, sp ds S Q E → ds.length = 3)
    (h : ∀ ds S Q E, sp ds S Q E → t_l_bad { nx := fun _ S' => Q .non S', rt := Q, xe := fun C fs _ S' => E C fs S' } (dstart ["_law_feed_here", "_law_names_here", "_law_part", "_law_leaf_here", "_law_word", "_law_some"] ds) S) : DFn P w K mg base 3 T.a_l_bad T.f_l_bad ["_law_feed_here", "_law_names_here", "_law_part"] sp := by
  refine dfn_of (t := t_l_bad) T.F_l_bad sc_l_bad mono len (fun cdv A outer s H E hr gu => ?_) h
  have hu1 := hu_of hr
  have hu2 := hu_big hr
  exact (dss_cons (ds_set (i := 3) sc_l_bad.nd rfl (by first | exact Or.inl rfl | exact Or.inr rfl) (de_call G_l_leaf (hr.mono (by decide)) gu (by rfl) T.m_l_leaf T.F_l_leaf.kp T.d_l_leaf (da_cons (dv 0) (da_cons (dv 1) da_nil))))
    (dss_cons (ds_set (i := 4) sc_l_bad.nd rfl (by first | exact Or.inl rfl | exact Or.inr rfl) (de_ix (ixD_any hu1) (de_ix (ixD_any hu1) (dv 1) de_int) de_int))
    (dss_cons (ds_set (i := 5) sc_l_bad.nd rfl (by first | exact Or.inl rfl | exact Or.inr rfl) (de_lst (da_cons (de_callTy cd_list (by rfl) T.b_list (by decide +kernel) (da_cons (dv 2) da_nil)) (da_cons (de_op od_add (dv 2) (de_tup (da_cons de_non da_nil))) (da_cons (de_sl (dv 2) do_none (do_some de_int)) (da_cons (de_tup da_nil) (da_cons de_non (da_cons de_bl (da_cons de_int (da_cons de_str da_nil))))))))))
    (dss_cons (ds_set (i := 5) sc_l_bad.nd rfl (by first | exact Or.inl rfl | exact Or.inr rfl) (de_op od_add (dv 5) (de_lst (da_cons (de_lst (da_cons (dv 3) da_nil)) (da_cons (de_tup (da_cons (dv 3) da_nil)) (da_cons (de_tup (da_cons de_str (da_cons de_str da_nil))) (da_cons (de_tup (da_cons de_str (da_cons de_str da_nil))) (da_cons (de_tup (da_cons de_str (da_cons de_str (da_cons (dv 4) da_nil)))) da_nil))))))))
    (dss_cons (ds_set (i := 5) sc_l_bad.nd rfl (by first | exact Or.inl rfl | exact Or.inr rfl) (de_op od_add (dv 5) (de_lst (da_cons (de_tup (da_cons de_str (da_cons de_str (da_cons de_str da_nil)))) (da_cons (de_tup (da_cons de_str (da_cons (dv 4) da_nil))) (da_cons (de_tup (da_cons de_str (da_cons de_str da_nil))) (da_cons (de_tup (da_cons de_str (da_cons de_str (da_cons de_non da_nil)))) da_nil)))))))
    (dss_cons (ds_set (i := 5) sc_l_bad.nd rfl (by first | exact Or.inl rfl | exact Or.inr rfl) (de_op od_add (dv 5) (de_lst (da_cons (de_tup (da_cons de_str (da_cons de_str da_nil))) (da_cons (de_tup (da_cons de_str (da_cons (de_tup (da_cons de_str da_nil)) da_nil))) (da_cons (de_tup (da_cons de_str da_nil)) (da_cons (de_tup (da_cons de_str da_nil)) (da_cons (de_tup (da_cons de_str (da_cons (dv 3) (da_cons (dv 3) da_nil)))) da_nil))))))))
    (dss_cons (ds_set (i := 5) sc_l_bad.nd rfl (by first | exact Or.inl rfl | exact Or.inr rfl) (de_op od_add (dv 5) (de_lst (da_cons (de_tup (da_cons de_str (da_cons (de_tup (da_cons (dv 3) da_nil)) da_nil))) (da_cons (de_tup (da_cons de_str (da_cons de_non da_nil))) (da_cons (de_tup (da_cons de_str (da_cons (de_lst (da_cons (dv 3) da_nil)) da_nil))) (da_cons (de_tup (da_cons de_str (da_cons (dv 3) da_nil))) da_nil)))))))
    (dss_cons (ds_set (i := 5) sc_l_bad.nd rfl (by first | exact Or.inl rfl | exact Or.inr rfl) (de_op od_add (dv 5) (de_lst (da_cons (de_tup (da_cons de_str (da_cons de_non da_nil))) (da_cons (de_tup (da_cons de_str da_nil)) (da_cons (de_tup (da_cons de_str (da_cons (dv 3) (da_cons (dv 3) da_nil)))) (da_cons (de_tup (da_cons de_str (da_cons (de_tup (da_cons (dv 3) da_nil)) da_nil))) da_nil)))))))
    (dss_cons (ds_set (i := 5) sc_l_bad.nd rfl (by first | exact Or.inl rfl | exact Or.inr rfl) (de_op od_add (dv 5) (de_lst (da_cons (de_tup (da_cons de_str (da_cons (de_tup (da_cons (dv 3) (da_cons de_non da_nil))) da_nil))) (da_cons (de_tup (da_cons de_str (da_cons de_str da_nil))) (da_cons (de_tup (da_cons de_str (da_cons de_str (da_cons de_str da_nil)))) da_nil))))))
    (dss_one (ds_ret (de_ix (ixD_any hu1) (de_op od_add (dv 5) (de_lst (da_cons (de_tup (da_cons de_str (da_cons de_str da_nil))) (da_cons (de_tup (da_cons de_str (da_cons (dv 3) da_nil))) (da_cons (de_tup (da_cons de_str (da_cons (de_tup da_nil) da_nil))) da_nil))))) (de_call G_l_next (hr.mono (by decide)) gu (by rfl) T.m_l_next T.F_l_next.kp T.d_l_next (da_cons (dv 0) (da_cons de_int da_nil)))))))))))))))
def sp_l_bad : DSp := fun ds S Q _ => ∃ (p nh : Addr) (es : List D) (ws ms : List Str) (n : Nat) (o : Ob), ds = [.ref p, .ref nh, .tup es] ∧ S p = some o ∧ FeedOb n o ∧ n < 2 ^ 80 ∧ NmsAt S nh ws ms ∧ Nz 10000 12 S (.tup es) ∧
  ∀ (d : D) (S' : DH) (o' : Ob), ExtB p S S' → S' p = some o' → FeedOb (n + 4) o' → Nz 10100 13 S' d → Q d S'
theorem sp_l_bad_mono : SpMono sp_l_bad := fun ds S Q Q' E E' k _ ⟨p, nh, es, ws, ms, n, o, h1, h2, h3, h4, h5, h6, h⟩ => ⟨p, nh, es, ws, ms, n, o, h1, h2, h3, h4, h5, h6, fun d S' o' a b c e => k _ _ (h d S' o' a b c e)⟩
theorem r_l_bad (ds S Q E) (h : sp_l_bad ds S Q E) : t_l_bad { nx := fun _ S' => Q .non S', rt := Q, xe := fun C fs _ S' => E C fs S' } (dstart ["_law_feed_here", "_law_names_here", "_law_part", "_law_leaf_here", "_law_word", "_law_some"] ds) S := by
  obtain ⟨p, nh, es, ws, ms, n, o, rfl, hp, fo, hn, hN, hz, h⟩ := h
  unfold t_l_bad
  refine dSeq_gen fun R hR => ?_
  simp [dstart]
  refine ⟨p, nh, ws, ms, n, o, rfl, hp, fo, by omega, hN, fun lf S1 o1 e1 hp1 fo1 hlf => ?_⟩
  obtain ⟨e0, a1, a2, h1, h2, h3, l1, l2, l3, l4, h4, h5⟩ := hN.extB (fo.nl hp) e1
  obtain ⟨w0, wr, rfl⟩ : ∃ w0 wr, ws = w0 :: wr := by
    cases ws with
    | nil => simp at l1
    | cons a b => exact ⟨a, b, rfl⟩
  have hk := hz.kids
  have hes : es.length ≤ 10000 := hz.few
  subst hR
  refine dSeq_gen fun R hR => ?_
  simp [h1, h2]
  subst hR
  refine dSeq_gen fun R hR => ?_
  simp
  refine newO_of fun b1 T1 f1 g1 x1 _ => ⟨by omega, newO_of fun r1 T2 f2 g2 x2 _ => ?_⟩
  have y2 : Ext S1 T2 := x1.trans x2
  have c1 : T2 b1 = some (.lst es) := x2 _ _ g1
  subst hR
  refine dSeq_gen fun R hR => ?_
  simp
  refine newO_of fun i0 T3 fi0 gi0 xi0 _ => ?_
  have q0 := xi0 _ _ g2
  have c1' := xi0 _ _ c1
  have e0 : T3 i0 = some (.lst [lf]) := gi0
  have y3 := y2.trans xi0
  refine newO_of fun d0 T4 fd0 gd0 xd0 _ => ?_
  have y4 := y3.trans xd0
  have s0 := xd0 _ _ q0
  have c1'' := xd0 _ _ c1'
  have e0' := xd0 _ _ e0
  simp [s0, gd0]
  refine newO_of fun r2 T5 fr0 gr0 xr0 _ => ?_
  have y5 := y4.trans xr0
  have c1''' := xr0 _ _ c1''
  have e0'' := xr0 _ _ e0'
  subst hR
  refine dSeq_gen fun R hR => ?_
  simp
  refine newO_of fun d1 T6 fd1 gd1 xd1 _ => ?_
  have y6 := y5.trans xd1
  have s1 := xd1 _ _ gr0
  have c1'''' := xd1 _ _ c1'''
  have e0''' := xd1 _ _ e0''
  simp [s1, gd1]
  refine newO_of fun r3 T7 fr1 gr1 xr1 _ => ?_
  have y7 := y6.trans xr1
  have c1''''' := xr1 _ _ c1''''
  have e0'''' := xr1 _ _ e0'''
  subst hR
  refine dSeq_gen fun R hR => ?_
  simp
  refine newO_of fun d2 T8 fd2 gd2 xd2 _ => ?_
  have y8 := y7.trans xd2
  have s2 := xd2 _ _ gr1
  have c1'''''' := xd2 _ _ c1'''''
  have e0''''' := xd2 _ _ e0''''
  simp [s2, gd2]
  refine newO_of fun r4 T9 fr2 gr2 xr2 _ => ?_
  have y9 := y8.trans xr2
  have c1''''''' := xr2 _ _ c1''''''
  have e0'''''' := xr2 _ _ e0'''''
  subst hR
  refine dSeq_gen fun R hR => ?_
  simp
  refine newO_of fun i3 T10 fi3 gi3 xi3 _ => ?_
  have q3 := xi3 _ _ gr2
  have c1'''''''' := xi3 _ _ c1'''''''
  have e0''''''' := xi3 _ _ e0''''''
  have e3 : T10 i3 = some (.lst [lf]) := gi3
  have y10 := y9.trans xi3
  refine newO_of fun d3 T11 fd3 gd3 xd3 _ => ?_
  have y11 := y10.trans xd3
  have s3 := xd3 _ _ q3
  have c1''''''''' := xd3 _ _ c1''''''''
  have e0'''''''' := xd3 _ _ e0'''''''
  have e3' := xd3 _ _ e3
  simp [s3, gd3]
  refine newO_of fun r5 T12 fr3 gr3 xr3 _ => ?_
  have y12 := y11.trans xr3
  have c1'''''''''' := xr3 _ _ c1'''''''''
  have e0''''''''' := xr3 _ _ e0''''''''
  have e3'' := xr3 _ _ e3'
  subst hR
  refine dSeq_gen fun R hR => ?_
  simp
  refine newO_of fun d4 T13 fd4 gd4 xd4 _ => ?_
  have y13 := y12.trans xd4
  have s4 := xd4 _ _ gr3
  have c1''''''''''' := xd4 _ _ c1''''''''''
  have e0'''''''''' := xd4 _ _ e0'''''''''
  have e3''' := xd4 _ _ e3''
  simp [s4, gd4]
  refine newO_of fun r6 T14 fr4 gr4 xr4 _ => ?_
  have y14 := y13.trans xr4
  have c1'''''''''''' := xr4 _ _ c1'''''''''''
  have e0''''''''''' := xr4 _ _ e0''''''''''
  have e3'''' := xr4 _ _ e3'''
  subst hR
  refine dSeq_gen fun R hR => ?_
  simp
  refine newO_of fun d5 T15 fd5 gd5 xd5 _ => ?_
  have y15 := y14.trans xd5
  have s5 := xd5 _ _ gr4
  have c1''''''''''''' := xd5 _ _ c1''''''''''''
  have e0'''''''''''' := xd5 _ _ e0'''''''''''
  have e3''''' := xd5 _ _ e3''''
  simp [s5, gd5]
  refine newO_of fun r7 T16 fr5 gr5 xr5 _ => ?_
  have y16 := y15.trans xr5
  have c1'''''''''''''' := xr5 _ _ c1'''''''''''''
  have e0''''''''''''' := xr5 _ _ e0''''''''''''
  have e3'''''' := xr5 _ _ e3'''''
  subst hR
  simp
  refine newO_of fun d6 T17 fd6 gd6 xd6 _ => ?_
  have y17 := y16.trans xd6
  have s6 := xd6 _ _ gr5
  have c1''''''''''''''' := xd6 _ _ c1''''''''''''''
  have e0'''''''''''''' := xd6 _ _ e0'''''''''''''
  have e3''''''' := xd6 _ _ e3''''''
  simp [s6, gd6]
  refine newO_of fun r8 T18 fr6 gr6 xr6 _ => ?_
  have y18 := y17.trans xr6
  have c1'''''''''''''''' := xr6 _ _ c1'''''''''''''''
  have e0''''''''''''''' := xr6 _ _ e0''''''''''''''
  have e3'''''''' := xr6 _ _ e3'''''''
  have hpT := y18 _ _ hp1
  refine ⟨p, 36, n + 3, o1, rfl, by decide, by decide, hpT, fo1, by omega, fun v o2 v0 v1 fo2 => ?_⟩
  have nrp : r8 ≠ p := fun z => by subst z; exact fo1.nl hpT _ gr6
  simp [upo_ne nrp, gr6]
  have eT : ExtB p S (upo T18 p o2) := ExtB.put (e1.ext y18)
  have zl : Nz 30 1 (upo T18 p o2) lf := hlf.nz h4 h5
  have nb1 : b1 ≠ p := fun z => by subst z; exact fo1.nl hpT _ c1''''''''''''''''
  have mb1 : upo T18 p o2 b1 = some (.lst es) := by rw [upo_ne nb1]; exact c1''''''''''''''''
  have ni0 : i0 ≠ p := fun z => by subst z; exact fo1.nl hpT _ e0'''''''''''''''
  have mi0 : upo T18 p o2 i0 = some (.lst [lf]) := by rw [upo_ne ni0]; exact e0'''''''''''''''
  have ni3 : i3 ≠ p := fun z => by subst z; exact fo1.nl hpT _ e3''''''''
  have mi3 : upo T18 p o2 i3 = some (.lst [lf]) := by rw [upo_ne ni3]; exact e3''''''''
  have hw0 : Nz 9 0 (upo T18 p o2) (.str w0) := Nz.str (h4 w0 (List.mem_cons_self ..)).pl (by decide)
  have zes := hz.extB (fo.nl hp) eT
  refine opt_at v0 (by simpa using v1) fun d hd => h d _ o2 eT upo_same fo2 ?_
  simp only [List.mem_cons, List.not_mem_nil, or_false] at hd
  have lit : ∀ (s : String) {w dp}, (decide ((Str.ofString s).length ≤ w) && (Str.ofString s).cps.toList.all fun c => decide (c < 128)) = true → Nz w dp (upo T18 p o2) (.str s) := fun s _ _ h => Nz.lit s h
  have up : ∀ {d : D}, Nz 400 3 (upo T18 p o2) d → Nz 10100 13 (upo T18 p o2) d := fun z => z.mono (by decide) (by decide)
  rcases hd with rfl | rfl | rfl | rfl | rfl | rfl | rfl | hd
  · exact (zes.toL mb1).mono (by decide) (by decide)
  · exact (zes.app (w' := 1) ((Nz.one (w := 0) (dp := 11) Nz.non))).mono (by decide) (by decide)
  · rw [show (1 : Int) = ((1 : Nat) : Int) from rfl, cutD_take]
    exact (zes.take 1).mono (by decide) (by decide)
  · exact up (Nz.tup (w := 0) (n := 0) (dp := 2) (fun _ z => nomatch z) (by simp) (by decide))
  · exact Nz.non
  · exact Nz.bl _
  · exact Nz.int 0 (by decide +kernel) (by decide +kernel) (by decide +kernel)
  refine up ?_
  have z40 : Nz 40 1 (upo T18 p o2) lf := zl.mono (by decide) (by decide)
  have l130 : Nz 130 2 (upo T18 p o2) lf := zl.mono (by decide) (by decide)
  have li0 : Nz 130 2 (upo T18 p o2) (.ref i0) := Nz.lst (w := 30) (n := 1) mi0 (fun x hx => by rw [List.mem_singleton.mp hx]; exact zl) (by simp) (by decide)
  have li3 : Nz 130 2 (upo T18 p o2) (.ref i3) := Nz.lst (w := 30) (n := 1) mi3 (fun x hx => by rw [List.mem_singleton.mp hx]; exact zl) (by simp) (by decide)
  have hw1 : Nz 130 2 (upo T18 p o2) (.str w0) := hw0.mono (by decide) (by decide)
  repeat' (rcases hd with hd | hd)
  all_goals first
    | exact lit _ (by decide +kernel)
    | exact li0.mono (by decide) (by decide)
    | exact zl.mono (by decide) (by decide)
    | (refine Nz.t2 (fun d hd => ?_) (by simp)
       simp only [List.mem_cons, List.not_mem_nil, or_false] at hd
       repeat' (rcases hd with hd | hd)
       all_goals first
         | exact Nz.non
         | exact hw1
         | exact li3
         | exact l130
         | exact lit _ (by decide +kernel)
         | (refine Nz.t1 (fun d hd => ?_) (by simp)
            simp only [List.mem_cons, List.not_mem_nil, or_false] at hd
            repeat' (rcases hd with hd | hd)
            all_goals first
              | exact Nz.non
              | exact z40
              | exact lit _ (by decide +kernel)))
end K07
set_option maxRecDepth 100000
set_option maxHeartbeats 4000000
namespace K07
open PySem PySem.Spec L2 Dt

/-! l_with -/
def t_l_with (spR : DSp) : DTS := (dSeq (dIf (dAnd (dTest (dOp (dEq false) (dOp dIxS (dVar 0) (dC (.int 0))) (dC (.str "many")))) (dTest (dOp rGt (dCall sp_l_next (dCons (dVar 1) (dCons (dC (.int 5)) dNil))) (dC (.int 0)))))
      (dRet (dTup (dCons (dC (.str "many")) (dCons (dCall spR (dCons (dOp dIxS (dVar 0) (dC (.int 1))) (dCons (dVar 1) (dCons (dVar 2) dNil)))) dNil))))
      dNx)
    (dSeq (dIf (dAnd (dTest (dOp (dIn false) (dOp dIxS (dVar 0) (dC (.int 0))) (dTup (dCons (dC (.str "then")) (dCons (dC (.str "either")) dNil))))) (dAnd (dTest (dOp (dEq true) (dOp dIxS (dVar 0) (dC (.int 1))) (dTup dNil))) (dTest (dOp rGt (dCall sp_l_next (dCons (dVar 1) (dCons (dC (.int 5)) dNil))) (dC (.int 0))))))
      (dSeq (dAsg (dCall sp_l_next (dCons (dVar 1) (dCons (dCB cLen (dCons (dOp dIxS (dVar 0) (dC (.int 1))) dNil)) dNil))) (dGN 3))
    (dSeq (dAsg (dCall spR (dCons (dOp dIxS (dOp dIxS (dVar 0) (dC (.int 1))) (dVar 3)) (dCons (dVar 1) (dCons (dVar 2) dNil)))) (dGN 4))
    (dRet (dTup (dCons (dOp dIxS (dVar 0) (dC (.int 0))) (dCons (dOp dAdd (dOp dAdd (dSl (dOp dIxS (dVar 0) (dC (.int 1))) dNoP (dSoP (dVar 3))) (dTup (dCons (dVar 4) dNil))) (dSl (dOp dIxS (dVar 0) (dC (.int 1))) (dSoP (dOp dAdd (dVar 3) (dC (.int 1)))) dNoP)) dNil))))))
      dNx)
    (dRet (dVar 2))))
theorem ok_l_with {P : Program} {w : World} {K : PySem.W.Frag} {mg : Str → Option Value} {base : Heap} (T : Txt K mg) (G_l_next : DFn P w K mg base 1 T.a_l_next T.f_l_next ["_law_feed_here", "_law_many"] sp_l_next) (n : Nat) {spR : DSp} (G_l_with : DFn P w K mg base (1 + n) T.a_l_with T.f_l_with ["_law_pattern_here", "_law_feed_here", "_law_bad_here"] spR) {sp : DSp}
    (mono : SpMono sp) (len : ∀ ds S Q E, sp ds S Q E → ds.length = 3)
    (h : ∀ ds S Q E, sp ds S Q E → (t_l_with spR) { nx := fun _ S' => Q .non S', rt := Q, xe := fun C fs _ S' => E C fs S' } (dstart ["_law_pattern_here", "_law_feed_here", "_law_bad_here", "_law_at", "_law_part"] ds) S) : DFn P w K mg base (1 + n + 1) T.a_l_with T.f_l_with ["_law_pattern_here", "_law_feed_here", "_law_bad_here"] sp := by
  refine dfn_of (t := (t_l_with spR)) T.F_l_with sc_l_with mono len (fun cdv A outer s H E hr gu => ?_) h
  have hu1 := hu_of hr
  have hu2 := hu_big hr
  exact (dss_cons (ds_if (DWt.pt (dw_and (dt_cmp (od_eq hr.units) (de_ix (ixD_any hu1) (dv 0) de_int) de_str (nomark _)) (dw_and1 (dt_cmp od_gt (de_call G_l_next (hr.mono (by omega)) gu (by rfl) T.m_l_next T.F_l_next.kp T.d_l_next (da_cons (dv 1) (da_cons de_int da_nil))) de_int (nomark _)))))
      (dss_one (ds_ret (de_tup (da_cons de_str (da_cons (de_call G_l_with (hr.mono (Nat.le_refl _)) gu (by rfl) T.m_l_with T.F_l_with.kp T.d_l_with (da_cons (de_ix (ixD_any hu1) (dv 0) de_int) (da_cons (dv 1) (da_cons (dv 2) da_nil)))) da_nil)))))
      dss_nil)
    (dss_cons (ds_if (DWt.pt (dw_and (dt_cmp (od_in hu1) (de_ix (ixD_any hu1) (dv 0) de_int) (de_tup (da_cons de_str (da_cons de_str da_nil))) (by rfl)) (dw_and (dt_cmp (od_ne hr.units) (de_ix (ixD_any hu1) (dv 0) de_int) (de_tup da_nil) (nomark _)) (dw_and1 (dt_cmp od_gt (de_call G_l_next (hr.mono (by omega)) gu (by rfl) T.m_l_next T.F_l_next.kp T.d_l_next (da_cons (dv 1) (da_cons de_int da_nil))) de_int (nomark _))))))
      (dss_cons (ds_set (i := 3) sc_l_with.nd rfl (by first | exact Or.inl rfl | exact Or.inr rfl) (de_call G_l_next (hr.mono (by omega)) gu (by rfl) T.m_l_next T.F_l_next.kp T.d_l_next (da_cons (dv 1) (da_cons (de_callB cd_len (by rfl) T.b_len (by decide +kernel) (da_cons (de_ix (ixD_any hu1) (dv 0) de_int) da_nil)) da_nil))))
    (dss_cons (ds_set (i := 4) sc_l_with.nd rfl (by first | exact Or.inl rfl | exact Or.inr rfl) (de_call G_l_with (hr.mono (Nat.le_refl _)) gu (by rfl) T.m_l_with T.F_l_with.kp T.d_l_with (da_cons (de_ix (ixD_any hu1) (de_ix (ixD_any hu1) (dv 0) de_int) (dv 3)) (da_cons (dv 1) (da_cons (dv 2) da_nil)))))
    (dss_one (ds_ret (de_tup (da_cons (de_ix (ixD_any hu1) (dv 0) de_int) (da_cons (de_op od_add (de_op od_add (de_sl (de_ix (ixD_any hu1) (dv 0) de_int) do_none (do_some (dv 3))) (de_tup (da_cons (dv 4) da_nil))) (de_sl (de_ix (ixD_any hu1) (dv 0) de_int) (do_some (de_op od_add (dv 3) de_int)) do_none)) da_nil)))))))
      dss_nil)
    (dss_one (ds_ret (dv 2)))))
def aW : Nat → Nat
  | 0 => 10100
  | k + 1 => aW k + 2 * wP (k + 1) + 20
def sp_l_with (k : Nat) : DSp := fun ds S Q _ => ∃ (p : Addr) (d bad : D) (ws ms : List Str) (n : Nat) (o : Ob), ds = [d, .ref p, bad] ∧ S p = some o ∧ FeedOb n o ∧ n + 2 * k < 2 ^ 80 ∧ (∀ w ∈ ws, Nm w) ∧ (∀ m ∈ ms, Nm m) ∧ IsPat ws ms k d ∧ k ≤ 4 ∧ Nz 10100 13 S bad ∧
  ∀ (r : D) (S' : DH) (o' : Ob), ExtB p S S' → S' p = some o' → FeedOb (n + 2 * k) o' → Nz (aW k) (13 + 2 * k) S' r → Q r S'
theorem sp_l_with_mono (k : Nat) : SpMono (sp_l_with k) := fun ds S Q Q' E E' kk _ ⟨p, d, bad, ws, ms, n, o, h1, h2, h3, h4, h5, h6, h7, h8, h9, h⟩ => ⟨p, d, bad, ws, ms, n, o, h1, h2, h3, h4, h5, h6, h7, h8, h9, fun r S' o' a b c e => kk _ _ (h r S' o' a b c e)⟩
theorem aW_ge : ∀ k, 10100 ≤ aW k
  | 0 => Nat.le_refl _
  | k + 1 => by have := aW_ge k; simp only [aW]; omega
theorem sp_l_with_cong {k : Nat} {ds ds' : List D} {S : DH} {Q : DK} {E : DXK} (h : ds = ds') : sp_l_with k ds S Q E = sp_l_with k ds' S Q E := by rw [h]
section
@[local simp ↓] theorem sp_l_next_cK07o1 {ds : List D} {S : DH} {Q : DK} {E : DXK} : sp_l_next ds S Q E = hold2 (sp_l_next ds S) Q E := rfl
@[local simp ↓] theorem newO_cK07o1 {S : DH} {o : Ob} {Q : Addr → DH → Prop} : newO S o Q = hold (newO S o) Q := rfl
@[local simp ↓] theorem mJoin_cK07o1 {d : D} {ds : List D} {S : DH} {Q : DK} : mJoin d ds S Q = hold (mJoin d ds S) Q := rfl
@[local simp ↓] theorem dLcL_cK07o1 {g : DTG} {tt : DTT} {te : DTE} {E : DW} {τ : DSt} {G : DH → Prop} {p : Addr} {Q : DH → Prop} {ds : List D} {S : DH} : dLcL g tt te E τ G p Q ds S = hold (dLcLf g tt te E τ G p ds S) Q := rfl
@[local simp ↓] theorem sp_l_leaf_cK07o1 {ds : List D} {S : DH} {Q : DK} {E : DXK} : sp_l_leaf ds S Q E = hold2 (sp_l_leaf ds S) Q E := rfl
@[local simp ↓] theorem sp_l_pattern_cK07o1 {k : Nat} {ds : List D} {S : DH} {Q : DK} {E : DXK} : sp_l_pattern k ds S Q E = hold2 (sp_l_pattern k ds S) Q E := rfl
@[local simp ↓] theorem sp_l_with_cK07o1 {k : Nat} {ds : List D} {S : DH} {Q : DK} {E : DXK} : sp_l_with k ds S Q E = hold2 (sp_l_with k ds S) Q E := rfl
theorem r_l_with (k : Nat) (ds S Q E) (h : sp_l_with k ds S Q E) : t_l_with (prevSp sp_l_with k) { nx := fun _ S' => Q .non S', rt := Q, xe := fun C fs _ S' => E C fs S' } (dstart ["_law_pattern_here", "_law_feed_here", "_law_bad_here", "_law_at", "_law_part"] ds) S := by
  obtain ⟨p, d, bad, ws, ms, n, o, rfl, hp, fo, hn, hws, hms, hd, hk4, hb, h⟩ := h
  have stop : ∀ (S' : DH) (o' : Ob), ExtB p S S' → S' p = some o' → FeedOb (n + 2 * k) o' → Q bad S' := fun S' o' e e1 e2 => h bad S' o' e e1 e2 ((hb.extB (fo.nl hp) e).mono (aW_ge k) (by omega))
  have lf : IsLf ws ms d → t_l_with (prevSp sp_l_with k) { nx := fun _ S' => Q .non S', rt := Q, xe := fun C fs _ S' => E C fs S' } (dstart ["_law_pattern_here", "_law_feed_here", "_law_bad_here", "_law_at", "_law_part"] [d, .ref p, bad]) S := fun hl => by
    have hq := stop S o (ExtB.refl p S) hp (fo.more (by omega))
    rcases hl with rfl | ⟨a, m, ha, hm, rfl⟩ | ⟨s, w, hs, hw, rfl⟩
    · simp [t_l_with, dstart, inF]
      exact hq
    · rcases ha with rfl | rfl
      · simp [t_l_with, dstart, inF]
        exact hq
      · simp [t_l_with, dstart, inF]
        exact hq
    · simp [t_l_with, dstart, inF]
      exact hq
  cases k with
  | zero => exact lf hd
  | succ k =>
    rcases hd with hd | ⟨e, rfl, he⟩ | ⟨x, es, rfl, hx, hl, he⟩
    · exact lf hd
    · simp [t_l_with, dstart, inF]
      refine ⟨p, 5, n, o, rfl, by decide, by decide, hp, fo, by omega, fun v o1 v0 v1 fo1 => ?_⟩
      have e1 : ExtB p S (upo S p o1) := ExtB.put (ExtB.refl p S)
      simp
      by_cases c0 : 0 < v
      · simp [c0]
        refine ⟨p, e, bad, ws, ms, n + 1, o1, rfl, upo_same, fo1, by omega, hws, hms, he, by omega, hb.extB (fo.nl hp) e1, fun r S' o' a b c f => ?_⟩
        simp
        refine h _ S' o' (e1.trans a) b (c.more (by omega)) ?_
        have := (Nz.one (Nz.lit (w := 6) (dp := 12 + 2 * k) (S := S') "many" (by decide +kernel))).mono (dp' := 13 + 2 * k + 1) (Nat.le_refl _) (by omega)
        exact (this.app (Nz.one f)).mono (by simp only [aW]; omega) (by omega)
      · simp [c0]
        exact stop _ o1 e1 upo_same (fo1.more (by omega))
    · have hz : Nz (wP (k + 1)) (1 + 2 * (k + 1)) S (.tup [.str x, .tup es]) := IsPat.nz hws hms (k + 1) _ (.inr (.inr ⟨x, es, rfl, hx, hl, he⟩))
      have hze : Nz (wP (k + 1)) (1 + 2 * (k + 1)) S (.tup es) := hz.kids _ (by simp)
      have hx1 : (x == "many") = false := by rcases hx with rfl | rfl <;> decide +kernel
      have hx2 : (("then" : Str) == x || ("either" : Str) == x) = true := by rcases hx with rfl | rfl <;> decide +kernel
      have hx3 : ¬ x = "many" := by rcases hx with rfl | rfl <;> decide +kernel
      have hx4 : ("then" : Str) = x ∨ ("either" : Str) = x := by rcases hx with rfl | rfl <;> simp
      have hq := stop S o (ExtB.refl p S) hp (fo.more (by omega))
      simp [t_l_with, dstart, inF, hx1, hx2, hx3, hx4]
      refine dEq_nilT hze (by omega) ?_
      simp
      by_cases ce : es = []
      · simp [ce]
        exact hq
      have hl0 : 0 < es.length := List.length_pos_iff.mpr ce
      simp [ce]
      refine ⟨p, 5, n, o, rfl, by decide, by decide, hp, fo, by omega, fun v o1 v0 v1 fo1 => ?_⟩
      have e1 : ExtB p S (upo S p o1) := ExtB.put (ExtB.refl p S)
      simp
      by_cases c0 : 0 < v
      · simp [c0]
        refine ⟨p, es.length, n + 1, o1, rfl, by omega, by omega, upo_same, fo1, by omega, fun u o2 u0 u1 fo2 => ?_⟩
        obtain ⟨j, rfl⟩ := Int.eq_ofNat_of_zero_le u0
        have hj : j < es.length := by omega
        have e2 : ExtB p S (upo S p o2) := ExtB.put (ExtB.refl p S)
        simp [upo_upo, atI_nat (List.getElem?_eq_getElem hj)]
        refine ⟨p, es[j], bad, ws, ms, n + 2, o2, rfl, upo_same, fo2, by omega, hws, hms, he _ (List.getElem_mem hj), by omega, hb.extB (fo.nl hp) e2, fun r S' o' a b c f => ?_⟩
        have e3 := e2.trans a
        have hze' := hze.extB (fo.nl hp) e3
        simp
        refine ⟨by omega, by omega, h _ S' o' e3 b (c.more (by omega)) ?_⟩
        have zt := (hze'.take j).mono (dp' := 13 + 2 * k + 1) (Nat.le_refl _) (by omega)
        have zd := (hze'.drop (j + 1)).mono (dp' := 13 + 2 * k + 1) (Nat.le_refl _) (by omega)
        have zz := zt.app ((Nz.one f).app zd)
        have zx : Nz 7 (13 + 2 * k + 1 + 1) S' (.tup [.str x]) := Nz.one (w := 6) (by rcases hx with rfl | rfl <;> exact Nz.lit _ (by decide +kernel))
        exact (zx.app (Nz.one zz)).mono (by simp only [aW]; omega) (by omega)
      · simp [c0]
        exact stop _ o1 e1 upo_same (fo1.more (by omega))
end
end K07
set_option maxRecDepth 100000
set_option maxHeartbeats 4000000
namespace K07
open PySem PySem.Spec L2 Dt

/-! l_great -/
def t_l_great : DTS := (dSeq (dAsg (dCall sp_l_leaf (dCons (dVar 0) (dCons (dVar 1) dNil))) (dGN 2))
    (dSeq (dIf (dTest (dOp (dEq false) (dCall sp_l_next (dCons (dVar 0) (dCons (dC (.int 2)) dNil))) (dC (.int 0))))
      (dSeq (dAsg (dVar 2) (dGN 3))
    (dSeq (dFor (dRng1 (dCons (dOp dAdd (dC (.int 8)) (dCall sp_l_next (dCons (dVar 0) (dCons (dC (.int 4)) dNil)))) dNil)) (dGN 4)
      (dSeq (dAsg (dLst (dCons (dTup (dCons (dC (.str "many")) (dCons (dVar 3) dNil))) (dCons (dTup (dCons (dC (.str "then")) (dCons (dTup (dCons (dVar 3) dNil)) dNil))) (dCons (dTup (dCons (dC (.str "either")) (dCons (dTup (dCons (dVar 2) (dCons (dVar 3) dNil))) dNil))) dNil)))) (dGN 5))
    (dAsg (dOp dIxS (dVar 5) (dCall sp_l_next (dCons (dVar 0) (dCons (dC (.int 3)) dNil)))) (dGN 3))))
    (dRet (dVar 3))))
      dNx)
    (dSeq (dAsg (dOp dAdd (dC (.int 36)) (dCall sp_l_next (dCons (dVar 0) (dCons (dC (.int 6)) dNil)))) (dGN 6))
    (dSeq (dAsg (dOp dIxS (dLst (dCons (dC (.str "then")) (dCons (dC (.str "either")) dNil))) (dCall sp_l_next (dCons (dVar 0) (dCons (dC (.int 2)) dNil)))) (dGN 7))
    (dSeq (dIf (dTest (dOp (dEq false) (dCall sp_l_next (dCons (dVar 0) (dCons (dC (.int 2)) dNil))) (dC (.int 0))))
      (dRet (dTup (dCons (dVar 7) (dCons (dOp dMulT (dTup (dCons (dVar 2) dNil)) (dVar 6)) dNil))))
      dNx)
    (dSeq (dAsg (dTup (dCons (dC (.str "many")) (dCons (dTup (dCons (dVar 7) (dCons (dOp dMulT (dTup (dCons (dVar 2) dNil)) (dC (.int 15))) dNil))) dNil))) (dGN 8))
    (dRet (dTup (dCons (dVar 7) (dCons (dTup (dCons (dTup (dCons (dVar 7) (dCons (dOp dMulT (dTup (dCons (dVar 2) dNil)) (dOp rSub (dVar 6) (dC (.int 20)))) dNil))) (dCons (dVar 2) (dCons (dVar 8) dNil)))) dNil))))))))))
theorem ok_l_great {P : Program} {w : World} {K : PySem.W.Frag} {mg : Str → Option Value} {base : Heap} (T : Txt K mg) (G_l_next : DFn P w K mg base 1 T.a_l_next T.f_l_next ["_law_feed_here", "_law_many"] sp_l_next) (G_l_leaf : DFn P w K mg base 2 T.a_l_leaf T.f_l_leaf ["_law_feed_here", "_law_names_here"] sp_l_leaf) {sp : DSp}
    (mono : SpMono sp) (len : ∀ ds S Q E, sp ds S Q E → ds.length = 2)
    (h : ∀ ds S Q E, sp ds S Q E → t_l_great { nx := fun _ S' => Q .non S', rt := Q, xe := fun C fs _ S' => E C fs S' } (dstart ["_law_feed_here", "_law_names_here", "_law_leaf_here", "_law_pattern_here", "_law_k", "_law_some", "_law_many", "_law_head", "_law_other"] ds) S) : DFn P w K mg base 3 T.a_l_great T.f_l_great ["_law_feed_here", "_law_names_here"] sp := by
  refine dfn_of (t := t_l_great) T.F_l_great sc_l_great mono len (fun cdv A outer s H E hr gu => ?_) h
  have hu1 := hu_of hr
  have hu2 := hu_big hr
  exact (dss_cons (ds_set (i := 2) sc_l_great.nd rfl (by first | exact Or.inl rfl | exact Or.inr rfl) (de_call G_l_leaf (hr.mono (by decide)) gu (by rfl) T.m_l_leaf T.F_l_leaf.kp T.d_l_leaf (da_cons (dv 0) (da_cons (dv 1) da_nil))))
    (dss_cons (ds_if (dt_cmp (od_eq hr.units) (de_call G_l_next (hr.mono (by decide)) gu (by rfl) T.m_l_next T.F_l_next.kp T.d_l_next (da_cons (dv 0) (da_cons de_int da_nil))) de_int (nomark _))
      (dss_cons (ds_set (i := 3) sc_l_great.nd rfl (by first | exact Or.inl rfl | exact Or.inr rfl) (dv 2))
    (dss_cons (ds_for (passes_of rfl) rfl (di_rng1 (by rfl) T.b_range (da_cons (de_op od_add de_int (de_call G_l_next (hr.mono (by decide)) gu (by rfl) T.m_l_next T.F_l_next.kp T.d_l_next (da_cons (dv 0) (da_cons de_int da_nil)))) da_nil)) (dg_name (i := 4) sc_l_great.nd rfl (by first | exact Or.inl rfl | exact Or.inr rfl))
      (dss_cons (ds_set (i := 5) sc_l_great.nd rfl (by first | exact Or.inl rfl | exact Or.inr rfl) (de_lst (da_cons (de_tup (da_cons de_str (da_cons (dv 3) da_nil))) (da_cons (de_tup (da_cons de_str (da_cons (de_tup (da_cons (dv 3) da_nil)) da_nil))) (da_cons (de_tup (da_cons de_str (da_cons (de_tup (da_cons (dv 2) (da_cons (dv 3) da_nil))) da_nil))) da_nil)))))
    (dss_one (ds_set (i := 3) sc_l_great.nd rfl (by first | exact Or.inl rfl | exact Or.inr rfl) (de_ix (ixD_any hu1) (dv 5) (de_call G_l_next (hr.mono (by decide)) gu (by rfl) T.m_l_next T.F_l_next.kp T.d_l_next (da_cons (dv 0) (da_cons de_int da_nil))))))))
    (dss_one (ds_ret (dv 3)))))
      dss_nil)
    (dss_cons (ds_set (i := 6) sc_l_great.nd rfl (by first | exact Or.inl rfl | exact Or.inr rfl) (de_op od_add de_int (de_call G_l_next (hr.mono (by decide)) gu (by rfl) T.m_l_next T.F_l_next.kp T.d_l_next (da_cons (dv 0) (da_cons de_int da_nil)))))
    (dss_cons (ds_set (i := 7) sc_l_great.nd rfl (by first | exact Or.inl rfl | exact Or.inr rfl) (de_ix (ixD_any hu1) (de_lst (da_cons de_str (da_cons de_str da_nil))) (de_call G_l_next (hr.mono (by decide)) gu (by rfl) T.m_l_next T.F_l_next.kp T.d_l_next (da_cons (dv 0) (da_cons de_int da_nil)))))
    (dss_cons (ds_if (dt_cmp (od_eq hr.units) (de_call G_l_next (hr.mono (by decide)) gu (by rfl) T.m_l_next T.F_l_next.kp T.d_l_next (da_cons (dv 0) (da_cons de_int da_nil))) de_int (nomark _))
      (dss_one (ds_ret (de_tup (da_cons (dv 7) (da_cons (de_op od_mulT (de_tup (da_cons (dv 2) da_nil)) (dv 6)) da_nil)))))
      dss_nil)
    (dss_cons (ds_set (i := 8) sc_l_great.nd rfl (by first | exact Or.inl rfl | exact Or.inr rfl) (de_tup (da_cons de_str (da_cons (de_tup (da_cons (dv 7) (da_cons (de_op od_mulT (de_tup (da_cons (dv 2) da_nil)) de_int) da_nil))) da_nil))))
    (dss_one (ds_ret (de_tup (da_cons (dv 7) (da_cons (de_tup (da_cons (de_tup (da_cons (dv 7) (da_cons (de_op od_mulT (de_tup (da_cons (dv 2) da_nil)) (de_op od_sub (dv 6) de_int)) da_nil))) (da_cons (dv 2) (da_cons (dv 8) da_nil)))) da_nil)))))))))))
def sp_l_great : DSp := fun ds S Q _ => ∃ (p nh : Addr) (ws ms : List Str) (n : Nat) (o : Ob), ds = [.ref p, .ref nh] ∧ S p = some o ∧ FeedOb n o ∧ n < 2 ^ 80 ∧ NmsAt S nh ws ms ∧
  ∀ (d : D) (S' : DH) (o' : Ob), ExtB p S S' → S' p = some o' → FeedOb (n + 20) o' → (∀ S, Nz 5000 25 S d) → Q d S'
theorem sp_l_great_mono : SpMono sp_l_great := fun ds S Q Q' E E' k _ ⟨p, nh, ws, ms, n, o, h1, h2, h3, h4, h5, h⟩ => ⟨p, nh, ws, ms, n, o, h1, h2, h3, h4, h5, fun d S' o' a b c e => k _ _ (h d S' o' a b c e)⟩
theorem mem_rep {α : Type} {n : Nat} {x y : α} (h : x ∈ (List.replicate n [y]).flatten) : x = y := by
  obtain ⟨l, hl, hx⟩ := List.mem_flatten.mp h
  rw [List.eq_of_mem_replicate hl] at hx
  exact List.mem_singleton.mp hx
theorem rep_len {α : Type} (n : Nat) (y : α) : (List.replicate n [y]).flatten.length = n := by simp
section
@[local simp ↓] theorem sp_l_next_cK07p1 {ds : List D} {S : DH} {Q : DK} {E : DXK} : sp_l_next ds S Q E = hold2 (sp_l_next ds S) Q E := rfl
@[local simp ↓] theorem newO_cK07p1 {S : DH} {o : Ob} {Q : Addr → DH → Prop} : newO S o Q = hold (newO S o) Q := rfl
@[local simp ↓] theorem mJoin_cK07p1 {d : D} {ds : List D} {S : DH} {Q : DK} : mJoin d ds S Q = hold (mJoin d ds S) Q := rfl
@[local simp ↓] theorem dLcL_cK07p1 {g : DTG} {tt : DTT} {te : DTE} {E : DW} {τ : DSt} {G : DH → Prop} {p : Addr} {Q : DH → Prop} {ds : List D} {S : DH} : dLcL g tt te E τ G p Q ds S = hold (dLcLf g tt te E τ G p ds S) Q := rfl
@[local simp ↓] theorem sp_l_leaf_cK07p1 {ds : List D} {S : DH} {Q : DK} {E : DXK} : sp_l_leaf ds S Q E = hold2 (sp_l_leaf ds S) Q E := rfl
@[local simp ↓] theorem sp_l_pattern_cK07p1 {k : Nat} {ds : List D} {S : DH} {Q : DK} {E : DXK} : sp_l_pattern k ds S Q E = hold2 (sp_l_pattern k ds S) Q E := rfl
theorem r_l_great (ds S Q E) (h : sp_l_great ds S Q E) : t_l_great { nx := fun _ S' => Q .non S', rt := Q, xe := fun C fs _ S' => E C fs S' } (dstart ["_law_feed_here", "_law_names_here", "_law_leaf_here", "_law_pattern_here", "_law_k", "_law_some", "_law_many", "_law_head", "_law_other"] ds) S := by
  obtain ⟨p, nh, ws, ms, n, o, rfl, hp, fo, hn, hN, h⟩ := h
  obtain ⟨_, _, _, _, _, _, _, _, _, _, hws, hms⟩ := id hN
  simp [t_l_great, dstart]
  refine ⟨p, nh, ws, ms, n, o, rfl, hp, fo, by omega, hN, fun lf S1 o1 e1 hp1 fo1 hlf => ?_⟩
  have zl : ∀ S, Nz 30 1 S lf := fun S => hlf.nz hws hms
  simp
  refine ⟨p, 2, n + 3, o1, rfl, by decide, by decide, hp1, fo1, by omega, fun v o2 v0 v1 fo2 => ?_⟩
  have e2 : ExtB p S (upo S1 p o2) := ExtB.put e1
  simp
  by_cases c0 : v = 0
  · simp [c0]
    refine ⟨p, 4, n + 4, o2, rfl, by decide, by decide, upo_same, fo2, by omega, fun u o3 u0 u1 fo3 => ?_⟩
    obtain ⟨K, rfl⟩ := Int.eq_ofNat_of_zero_le u0
    simp [upo_upo]
    have hK : (8 + (K : Int)).toNat = 8 + K := by omega
    refine ⟨by omega, loop_inv (fun i τ S' => ∃ (pat : D) (a4 a5 a6 a7 a8 : Option D) (o' : Ob), τ = [some (.ref p), some (.ref nh), some lf, some pat, a4, a5, a6, a7, a8] ∧ ExtB p S S' ∧ S' p = some o' ∧ FeedOb (n + 5 + i) o' ∧ ∀ S, Nz (40 + 60 * i) (1 + 2 * i) S pat)
      ⟨lf, _, _, _, _, _, o3, rfl, ExtB.put e1, upo_same, fo3.more (by omega), fun S => (zl S).mono (by decide) (by decide)⟩ (fun _ _ _ _ _ => trivial) ?_ ?_⟩
    · rintro i d τ S4 N hd ⟨pat, a4, a5, a6, a7, a8, o4, rfl, e4, hp4, fo4, zp⟩ hN'
      have hi : i < 11 := by
        have := (List.getElem?_eq_some_iff.mp hd).1
        simp [rngD, hK] at this
        omega
      simp
      refine newO_of fun q S5 f5 g5 x5 _ => ?_
      have hp5 := x5 _ _ hp4
      have nqp : q ≠ p := (ne_fresh hp4 f5).symm
      refine ⟨p, 3, n + 5 + i, o4, rfl, by decide, by decide, hp5, fo4, by omega, fun w o5 w0 w1 fo5 => ?_⟩
      simp [upo_ne nqp, g5]
      refine opt_at w0 (by simpa using w1) fun y hy => hN' _ _ ⟨y, _, _, _, _, _, o5, rfl, ExtB.put (e4.ext x5), upo_same, fo5.more (by omega), fun S => ?_⟩
      have lit : ∀ s : String, (decide ((Str.ofString s).length ≤ 6) && (Str.ofString s).cps.toList.all fun c => decide (c < 128)) = true → ∀ dp, Nz 7 (dp + 1) S (.tup [.str s]) := fun s hs dp => Nz.one (w := 6) (Nz.lit s hs)
      simp only [List.mem_cons, List.not_mem_nil, or_false] at hy
      rcases hy with rfl | rfl | rfl
      · exact ((lit "many" (by decide +kernel) (1 + 2 * i)).app (Nz.one (zp S))).mono (by omega) (by omega)
      · have z2 := Nz.one (Nz.one (zp S))
        have z3 := (lit "then" (by decide +kernel) (2 + 2 * i)).app (z2.mono (Nat.le_refl _) (by omega))
        exact z3.mono (by omega) (by omega)
      · have z1 := (Nz.one (zl S)).mono (dp' := 1 + 2 * i + 1) (Nat.le_refl _) (by omega)
        have z2 := Nz.one (z1.app (Nz.one (zp S)))
        have z3 := (lit "either" (by decide +kernel) (2 + 2 * i)).app (z2.mono (Nat.le_refl _) (by omega))
        exact z3.mono (by omega) (by omega)
    · rintro τ S4 ⟨pat, a4, a5, a6, a7, a8, o4, rfl, e4, hp4, fo4, zp⟩
      have hl : (rngD 0 (8 + (K : Int)).toNat).length ≤ 11 := by simp [rngD, hK]; omega
      exact h pat S4 o4 e4 hp4 (fo4.more (by omega)) fun S => (zp S).mono (by omega) (by omega)
  · simp [c0]
    refine ⟨p, 6, n + 4, o2, rfl, by decide, by decide, upo_same, fo2, by omega, fun u o3 u0 u1 fo3 => ?_⟩
    obtain ⟨K, rfl⟩ := Int.eq_ofNat_of_zero_le u0
    simp [upo_upo]
    refine newO_of fun q S5 f5 g5 x5 _ => ?_
    have hp5 := x5 _ _ (upo_same (S := S1) (a := p) (o := o3))
    have nqp : q ≠ p := (ne_fresh (upo_same (S := S1) (a := p) (o := o3)) f5).symm
    refine ⟨p, 2, n + 5, o3, rfl, by decide, by decide, hp5, fo3, by omega, fun w o5 w0 w1 fo5 => ?_⟩
    simp [upo_ne nqp, g5]
    refine opt_at w0 (by simpa using w1) fun y hy => ?_
    obtain ⟨x, hx, rfl⟩ : ∃ x : Str, (x = "then" ∨ x = "either") ∧ y = .str x := by
      simp only [List.mem_cons, List.not_mem_nil, or_false] at hy
      rcases hy with rfl | rfl
      · exact ⟨_, .inl rfl, rfl⟩
      · exact ⟨_, .inr rfl, rfl⟩
    have zx : ∀ S dp, Nz 7 (dp + 1) S (.tup [.str x]) := fun S dp => Nz.one (w := 6) (by rcases hx with rfl | rfl <;> exact Nz.lit _ (by decide +kernel))
    have zr : ∀ S (m : Nat), m ≤ 41 → Nz 1271 2 S (.tup (List.replicate m lf)) := fun S m hm => Nz.tup (w := 30) (n := 41) (fun z hz => by rw [List.eq_of_mem_replicate hz]; exact zl S) (by rw [List.length_replicate]; exact hm) (by decide)
    have e5 : ExtB p S (upo S5 p o5) := ExtB.put ((ExtB.put e1).ext x5)
    refine ⟨p, 2, n + 6, o5, rfl, by decide, by decide, upo_same, fo5, by omega, fun t o6 t0 t1 fo6 => ?_⟩
    simp [upo_upo]
    have e6 : ExtB p S (upo S5 p o6) := ExtB.put ((ExtB.put e1).ext x5)
    have k1 : (36 + (K : Int)).toNat = 36 + K := by omega
    have k2 : (36 + (K : Int) - 20).toNat = 16 + K := by omega
    by_cases c1 : t = 0
    · simp [c1, k1]
      refine ⟨by omega, by omega, h _ _ o6 e6 upo_same (fo6.more (by omega)) fun S => ?_⟩
      exact ((zx S 2).app (Nz.one (zr S (36 + K) (by omega)))).mono (by decide) (by decide)
    · simp [c1, k2]
      refine ⟨by omega, by omega, h _ _ o6 e6 upo_same (fo6.more (by omega)) fun S => ?_⟩
      have zm : Nz 7 4 S (.tup [.str "many"]) := Nz.one (w := 6) (Nz.lit _ (by decide +kernel))
      have zg : ∀ m, m ≤ 41 → Nz 1279 3 S (.tup [.str x, .tup (List.replicate m lf)]) := fun m hm => ((zx S 2).app (Nz.one (zr S m hm))).mono (by decide) (by decide)
      have za := (Nz.one (zg (16 + K) (by omega))).mono (dp' := 5) (Nat.le_refl _) (by decide)
      have zb := (Nz.one (zl S)).mono (dp' := 5) (Nat.le_refl _) (by decide)
      have zc := Nz.one ((zm.mono (dp' := 4) (Nat.le_refl _) (by decide)).app (Nz.one (zg 15 (by decide))))
      have z3 : Nz 2599 5 S _ := za.app (zb.app zc)
      have z4 := (zx S 5).app (Nz.one z3)
      exact z4.mono (by decide) (by decide)
end
end K07
set_option maxRecDepth 100000
set_option maxHeartbeats 4000000
namespace K07
open PySem PySem.Spec L2 Dt

/-! l_told -/
def t_l_told : DTS := (dSeq (dAsg (dCB cRepr (dCons (dVar 0) dNil)) (dGN 1))
    (dSeq (dAsg (dCall sp_is_pattern (dCons (dVar 0) dNil)) (dGN 2))
    (dRet (dAndV (dIsi "bool" (dVar 2)) (dAndV (dOp (dEq false) (dVar 2) (dCall sp_l_right (dCons (dVar 0) dNil))) (dOp (dEq false) (dCB cRepr (dCons (dVar 0) dNil)) (dVar 1)))))))
theorem ok_l_told {P : Program} {w : World} {K : PySem.W.Frag} {mg : Str → Option Value} {base : Heap} (T : Txt K mg) (G_l_right : DFn P w K mg base 3 T.a_l_right T.f_l_right ["_law_thing"] sp_l_right) (G_is_pattern : DFn P w K mg base 5 T.a_is_pattern T.f_is_pattern ["thing"] sp_is_pattern) {sp : DSp}
    (mono : SpMono sp) (len : ∀ ds S Q E, sp ds S Q E → ds.length = 1)
    (h : ∀ ds S Q E, sp ds S Q E → t_l_told { nx := fun _ S' => Q .non S', rt := Q, xe := fun C fs _ S' => E C fs S' } (dstart ["_law_thing", "_law_kept", "_law_found"] ds) S) : DFn P w K mg base 6 T.a_l_told T.f_l_told ["_law_thing"] sp := by
  refine dfn_of (t := t_l_told) T.F_l_told sc_l_told mono len (fun cdv A outer s H E hr gu => ?_) h
  have hu1 := hu_of hr
  have hu2 := hu_big hr
  exact (dss_cons (ds_set (i := 1) sc_l_told.nd rfl (by first | exact Or.inl rfl | exact Or.inr rfl) (de_callB (cd_repr hu2 gu) (by rfl) T.b_repr (by decide +kernel) (da_cons (dv 0) da_nil)))
    (dss_cons (ds_set (i := 2) sc_l_told.nd rfl (by first | exact Or.inl rfl | exact Or.inr rfl) (de_call G_is_pattern (hr.mono (by decide)) gu (by rfl) T.m_is_pattern T.F_is_pattern.kp T.d_is_pattern (da_cons (dv 0) da_nil)))
    (dss_one (ds_ret (de_and (de_isi (T := "bool") (by decide) (dv 2) (by rfl) T.b_isinstance (by rfl) T.b_bool (by decide +kernel)) (de_and (de_cmp (od_eq hr.units) (dv 2) (de_call G_l_right (hr.mono (by decide)) gu (by rfl) T.m_l_right T.F_l_right.kp T.d_l_right (da_cons (dv 0) da_nil)) (nomark _)) (de_one (de_cmp (od_eq hr.units) (de_callB (cd_repr hu2 gu) (by rfl) T.b_repr (by decide +kernel) (da_cons (dv 0) da_nil)) (dv 1) (nomark _)))))))))
def sp_l_told : DSp := fun ds S Q _ => ∃ (d : D) (dp : Nat), ds = [d] ∧ Nz 200000 dp S d ∧ dp ≤ 40 ∧ ∀ S', Ext S S' → Q (.bl true) S'
theorem sp_l_told_mono : SpMono sp_l_told := fun ds S Q Q' E E' k _ ⟨d, dp, h1, h2, h3, h⟩ => ⟨d, dp, h1, h2, h3, fun S' e => k _ _ (h S' e)⟩
theorem sp_l_told_cong {ds ds' : List D} {S : DH} {Q : DK} {E : DXK} (h : ds = ds') : sp_l_told ds S Q E = sp_l_told ds' S Q E := by rw [h]
theorem sp_is_pattern_cong {ds ds' : List D} {S : DH} {Q : DK} {E : DXK} (h : ds = ds') : sp_is_pattern ds S Q E = sp_is_pattern ds' S Q E := by rw [h]
section
theorem r_l_told (ds S Q E) (h : sp_l_told ds S Q E) : t_l_told { nx := fun _ S' => Q .non S', rt := Q, xe := fun C fs _ S' => E C fs S' } (dstart ["_law_thing", "_law_kept", "_law_found"] ds) S := by
  obtain ⟨d, dp, rfl, hd, hdp, h⟩ := h
  obtain ⟨p, hs⟩ := hd.shows (by decide) (by omega)
  simp [t_l_told, dstart]
  refine cRepr_of hs ⟨d, dp, rfl, hd, hdp, fun S1 e1 => ?_⟩
  simp
  refine ⟨d, dp, rfl, hd.ext e1, hdp, fun S2 e2 => ?_⟩
  simp
  exact cRepr_of (hs.ext (e1.trans e2)) (by simp; exact h _ (e1.trans e2))
end
end K07
set_option maxRecDepth 100000
set_option maxHeartbeats 4000000
namespace K07
open PySem PySem.Spec L2 Dt

/-! law -/
def t_law : DTS := (dSeq (dAsg (dCall sp_l_feed (dCons (dCall sp_l_cell_at (dCons (dVar 0) (dCons (dC (.int 0)) dNil))) dNil)) (dGN 1))
    (dSeq (dAsg (dLst (dCons (dLst dNil) (dCons (dCall sp_l_names (dCons (dVar 1) (dCons (dC (.int 3)) dNil))) (dCons (dCall sp_l_names (dCons (dVar 1) (dCons (dC (.int 3)) dNil))) dNil)))) (dGN 2))
    (dSeq (dFor (dRng1 (dCons (dOp dAdd (dC (.int 1)) (dCB cMin2 (dCons (dC (.int 16)) (dCons (dCB cLen (dCons (dVar 0) dNil)) dNil)))) dNil)) (dGN 3)
      (dSeq (dAsg (dCall sp_l_feed (dCons (dCall sp_l_cell_at (dCons (dVar 0) (dCons (dOp dAdd (dC (.int 1)) (dVar 3)) dNil))) dNil)) (dGN 1))
    (dSeq (dAsg (dCall (sp_l_pattern 3) (dCons (dVar 1) (dCons (dVar 2) (dCons (dC (.int 3)) dNil)))) (dGN 4))
    (dSeq (dAsg (dCall (sp_l_with 3) (dCons (dVar 4) (dCons (dVar 1) (dCons (dCall sp_l_bad (dCons (dVar 1) (dCons (dVar 2) (dCons (dVar 4) dNil)))) dNil)))) (dGN 5))
    (dFor (dSeqI (dLst (dCons (dVar 4) (dCons (dVar 5) (dCons (dCall sp_l_great (dCons (dVar 1) (dCons (dVar 2) dNil))) dNil))))) (dGN 6)
      (dIf (dNot (dTest (dCall sp_l_told (dCons (dVar 6) dNil))))
      (dRet (dC (.bl false)))
      dNx))))))
    (dRet (dAndV (dCall sp_l_told (dCons (dC .non) dNil)) (dCall sp_l_told (dCons (dTup dNil) dNil)))))))
theorem ok_law {P : Program} {w : World} {K : PySem.W.Frag} {mg : Str → Option Value} {base : Heap} (T : Txt K mg) (G_l_cell_at : DFn P w K mg base 1 T.a_l_cell_at T.f_l_cell_at ["_law_script", "_law_k"] sp_l_cell_at) (G_l_feed : DFn P w K mg base 1 T.a_l_feed T.f_l_feed ["_law_cell"] sp_l_feed) (G_l_names : DFn P w K mg base 2 T.a_l_names T.f_l_names ["_law_feed_here", "_law_many"] sp_l_names) (G_l_bad : DFn P w K mg base 3 T.a_l_bad T.f_l_bad ["_law_feed_here", "_law_names_here", "_law_part"] sp_l_bad) (G_l_great : DFn P w K mg base 3 T.a_l_great T.f_l_great ["_law_feed_here", "_law_names_here"] sp_l_great) (G_l_with : DFn P w K mg base 5 T.a_l_with T.f_l_with ["_law_pattern_here", "_law_feed_here", "_law_bad_here"] (sp_l_with 3)) (G_l_pattern : DFn P w K mg base 6 T.a_l_pattern T.f_l_pattern ["_law_feed_here", "_law_names_here", "_law_deep"] (sp_l_pattern 3)) (G_l_told : DFn P w K mg base 6 T.a_l_told T.f_l_told ["_law_thing"] sp_l_told) {sp : DSp}
    (mono : SpMono sp) (len : ∀ ds S Q E, sp ds S Q E → ds.length = 1)
    (h : ∀ ds S Q E, sp ds S Q E → t_law { nx := fun _ S' => Q .non S', rt := Q, xe := fun C fs _ S' => E C fs S' } (dstart ["_law_script", "_law_feed_here", "_law_names_here", "_law_k", "_law_pattern_here", "_law_bent", "_law_thing"] ds) S) : DFn P w K mg base 7 T.a_law T.f_law ["_law_script"] sp := by
  refine dfn_of (t := t_law) T.F_law sc_law mono len (fun cdv A outer s H E hr gu => ?_) h
  have hu1 := hu_of hr
  have hu2 := hu_big hr
  exact (dss_cons (ds_set (i := 1) sc_law.nd rfl (by first | exact Or.inl rfl | exact Or.inr rfl) (de_call G_l_feed (hr.mono (by decide)) gu (by rfl) T.m_l_feed T.F_l_feed.kp T.d_l_feed (da_cons (de_call G_l_cell_at (hr.mono (by decide)) gu (by rfl) T.m_l_cell_at T.F_l_cell_at.kp T.d_l_cell_at (da_cons (dv 0) (da_cons de_int da_nil))) da_nil)))
    (dss_cons (ds_set (i := 2) sc_law.nd rfl (by first | exact Or.inl rfl | exact Or.inr rfl) (de_lst (da_cons (de_lst da_nil) (da_cons (de_call G_l_names (hr.mono (by decide)) gu (by rfl) T.m_l_names T.F_l_names.kp T.d_l_names (da_cons (dv 1) (da_cons de_int da_nil))) (da_cons (de_call G_l_names (hr.mono (by decide)) gu (by rfl) T.m_l_names T.F_l_names.kp T.d_l_names (da_cons (dv 1) (da_cons de_int da_nil))) da_nil)))))
    (dss_cons (ds_for (passes_of rfl) rfl (di_rng1 (by rfl) T.b_range (da_cons (de_op od_add de_int (de_callB (cd_min2 rfl) (by rfl) T.b_min (by decide +kernel) (da_cons de_int (da_cons (de_callB cd_len (by rfl) T.b_len (by decide +kernel) (da_cons (dv 0) da_nil)) da_nil)))) da_nil)) (dg_name (i := 3) sc_law.nd rfl (by first | exact Or.inl rfl | exact Or.inr rfl))
      (dss_cons (ds_set (i := 1) sc_law.nd rfl (by first | exact Or.inl rfl | exact Or.inr rfl) (de_call G_l_feed (hr.mono (by decide)) gu (by rfl) T.m_l_feed T.F_l_feed.kp T.d_l_feed (da_cons (de_call G_l_cell_at (hr.mono (by decide)) gu (by rfl) T.m_l_cell_at T.F_l_cell_at.kp T.d_l_cell_at (da_cons (dv 0) (da_cons (de_op od_add de_int (dv 3)) da_nil))) da_nil)))
    (dss_cons (ds_set (i := 4) sc_law.nd rfl (by first | exact Or.inl rfl | exact Or.inr rfl) (de_call G_l_pattern (hr.mono (by decide)) gu (by rfl) T.m_l_pattern T.F_l_pattern.kp T.d_l_pattern (da_cons (dv 1) (da_cons (dv 2) (da_cons de_int da_nil)))))
    (dss_cons (ds_set (i := 5) sc_law.nd rfl (by first | exact Or.inl rfl | exact Or.inr rfl) (de_call G_l_with (hr.mono (by decide)) gu (by rfl) T.m_l_with T.F_l_with.kp T.d_l_with (da_cons (dv 4) (da_cons (dv 1) (da_cons (de_call G_l_bad (hr.mono (by decide)) gu (by rfl) T.m_l_bad T.F_l_bad.kp T.d_l_bad (da_cons (dv 1) (da_cons (dv 2) (da_cons (dv 4) da_nil)))) da_nil)))))
    (dss_one (ds_for (passes_of rfl) rfl (di_seq (de_lst (da_cons (dv 4) (da_cons (dv 5) (da_cons (de_call G_l_great (hr.mono (by decide)) gu (by rfl) T.m_l_great T.F_l_great.kp T.d_l_great (da_cons (dv 1) (da_cons (dv 2) da_nil))) da_nil))))) (dg_name (i := 6) sc_law.nd rfl (by first | exact Or.inl rfl | exact Or.inr rfl))
      (dss_one (ds_if (dt_not (dt_val (de_call G_l_told (hr.mono (by decide)) gu (by rfl) T.m_l_told T.F_l_told.kp T.d_l_told (da_cons (dv 6) da_nil))))
      (dss_one (ds_ret de_bl))
      dss_nil))))))))
    (dss_one (ds_ret (de_and (de_call G_l_told (hr.mono (by decide)) gu (by rfl) T.m_l_told T.F_l_told.kp T.d_l_told (da_cons de_non da_nil)) (de_one (de_call G_l_told (hr.mono (by decide)) gu (by rfl) T.m_l_told T.F_l_told.kp T.d_l_told (da_cons (de_tup da_nil) da_nil)))))))))
def sp_law : DSp := fun ds S Q _ => ∃ ns : List Int, ds = [.rol (ns.map D.int)] ∧ ns.length ≤ 63 ∧ ∀ S', Q (.bl true) S'
theorem sp_law_mono : SpMono sp_law := fun ds S Q Q' E E' k _ ⟨ns, h1, h2, h⟩ => ⟨ns, h1, h2, fun S' => k _ _ (h S')⟩
theorem sp_l_names_cong {ds ds' : List D} {S : DH} {Q : DK} {E : DXK} (h : ds = ds') : sp_l_names ds S Q E = sp_l_names ds' S Q E := by rw [h]
theorem sp_l_great_cong {ds ds' : List D} {S : DH} {Q : DK} {E : DXK} (h : ds = ds') : sp_l_great ds S Q E = sp_l_great ds' S Q E := by rw [h]
theorem sp_l_bad_cong {ds ds' : List D} {S : DH} {Q : DK} {E : DXK} (h : ds = ds') : sp_l_bad ds S Q E = sp_l_bad ds' S Q E := by rw [h]
theorem sp_l_cell_at_cong {ds ds' : List D} {S : DH} {Q : DK} {E : DXK} (h : ds = ds') : sp_l_cell_at ds S Q E = sp_l_cell_at ds' S Q E := by rw [h]
theorem sp_l_feed_cong {ds ds' : List D} {S : DH} {Q : DK} {E : DXK} (h : ds = ds') : sp_l_feed ds S Q E = sp_l_feed ds' S Q E := by rw [h]
theorem dLoop_cong {g : DTG} {tb : DTS} {A : DEnds} {G : DH → Prop} {ds ds' : List D} {τ : DSt} {S : DH} (h : ds = ds') : dLoop g tb A G ds τ S = dLoop g tb A G ds' τ S := by rw [h]
section
@[local simp ↓] theorem sp_l_next_cK07r1 {ds : List D} {S : DH} {Q : DK} {E : DXK} : sp_l_next ds S Q E = hold2 (sp_l_next ds S) Q E := rfl
@[local simp ↓] theorem newO_cK07r1 {S : DH} {o : Ob} {Q : Addr → DH → Prop} : newO S o Q = hold (newO S o) Q := rfl
@[local simp ↓] theorem sp_l_leaf_cK07r1 {ds : List D} {S : DH} {Q : DK} {E : DXK} : sp_l_leaf ds S Q E = hold2 (sp_l_leaf ds S) Q E := rfl
@[local simp ↓] theorem sp_l_pattern_cK07r1 {k : Nat} {ds : List D} {S : DH} {Q : DK} {E : DXK} : sp_l_pattern k ds S Q E = hold2 (sp_l_pattern k ds S) Q E := rfl
@[local simp ↓] theorem sp_l_told_cK07r1 {ds : List D} {S : DH} {Q : DK} {E : DXK} : sp_l_told ds S Q E = hold2 (sp_l_told ds S) Q E := rfl
@[local simp ↓] theorem sp_l_names_cK07r1 {ds : List D} {S : DH} {Q : DK} {E : DXK} : sp_l_names ds S Q E = hold2 (sp_l_names ds S) Q E := rfl
@[local simp ↓] theorem sp_l_great_cK07r1 {ds : List D} {S : DH} {Q : DK} {E : DXK} : sp_l_great ds S Q E = hold2 (sp_l_great ds S) Q E := rfl
@[local simp ↓] theorem sp_l_bad_cK07r1 {ds : List D} {S : DH} {Q : DK} {E : DXK} : sp_l_bad ds S Q E = hold2 (sp_l_bad ds S) Q E := rfl
@[local simp ↓] theorem sp_l_with_cK07r1 {k : Nat} {ds : List D} {S : DH} {Q : DK} {E : DXK} : sp_l_with k ds S Q E = hold2 (sp_l_with k ds S) Q E := rfl
@[local simp ↓] theorem sp_l_cell_at_cK07r1 {ds : List D} {S : DH} {Q : DK} {E : DXK} : sp_l_cell_at ds S Q E = hold2 (sp_l_cell_at ds S) Q E := rfl
@[local simp ↓] theorem sp_l_feed_cK07r1 {ds : List D} {S : DH} {Q : DK} {E : DXK} : sp_l_feed ds S Q E = hold2 (sp_l_feed ds S) Q E := rfl
theorem r_law (ds S Q E) (h : sp_law ds S Q E) : t_law { nx := fun _ S' => Q .non S', rt := Q, xe := fun C fs _ S' => E C fs S' } (dstart ["_law_script", "_law_feed_here", "_law_names_here", "_law_k", "_law_pattern_here", "_law_bent", "_law_thing"] ds) S := by
  obtain ⟨ns, rfl, hn, h⟩ := h
  simp [t_law, dstart]
  refine ⟨ns, 0, rfl, by decide, ⟨_, rfl, fun p S1 o hp h1 x1 fo => ?_⟩⟩
  (try simp)
  refine newO_of fun a0 S2 f2 g2 x2 _ => ⟨p, 3, 0, o, rfl, by decide, x2 _ _ h1, fo, by decide, fun a1 S3 o3 ws e3 hp3 fo3 f3 g3 l3 n3 _ => ⟨p, 3, 0 + 12, o3, rfl, by decide, hp3, fo3, by decide, fun a2 S4 o4 ms e4 hp4 fo4 f4 g4 l4 n4 _ => ⟨by simp, newO_of fun nh S5 f5 g5 x5 _ => ?_⟩⟩⟩
  have na1 : a1 ≠ p := fun z => by subst z; exact fo3.nl hp3 _ g3
  have hN : NmsAt S5 nh ws ms := ⟨.ref a0, a1, a2, g5, x5 _ _ (e4 _ _ na1 g3), x5 _ _ g4, by omega, by omega, by omega, by omega, n3, n4⟩
  (try simp)
  refine ⟨by split <;> omega, loop_inv (fun i τ S' => ∃ a b c d e, τ = [some (.rol (ns.map D.int)), a, some (.ref nh), b, c, d, e] ∧ NmsAt S' nh ws ms) ⟨_, _, _, _, _, rfl, hN⟩ (fun _ _ _ _ _ => trivial) ?_ ?_⟩
  · rintro i d τ S6 N hd ⟨a, b, c, d1, e, rfl, hN6⟩ hN'
    obtain ⟨k, hk, rfl⟩ := rng_at hd (by split <;> omega)
    have hk' : k < 100 := by
      have := (List.getElem?_eq_some_iff.mp hd)
      obtain ⟨h1, h2⟩ := this
      simp [rngD] at h1 h2
      split at h1 <;> omega
    (try simp)
    refine ⟨ns, 1 + k, rfl, by omega, ⟨_, rfl, fun q S7 o7 hq h7 x7 fo7 => ?_⟩⟩
    (try simp)
    refine ⟨q, nh, 3, ws, ms, 0, o7, rfl, by decide, h7, fo7, by decide, hN6.ext x7, fun pat S8 o8 e8 hq8 fo8 hpat => ?_⟩
    obtain ⟨es, rfl⟩ := hpat.tup
    have hN8 := (hN6.ext x7).extB (fo7.nl h7) e8
    have zp : ∀ S, Nz 10000 12 S (.tup es) := fun S => (hpat.nz n3 n4 3 _).mono (by decide) (by decide)
    (try simp)
    refine ⟨q, nh, es, ws, ms, _, o8, rfl, hq8, fo8, by decide, hN8, zp _, fun bad S9 o9 e9 hq9 fo9 zb => ?_⟩
    refine ⟨q, .tup es, bad, ws, ms, _, o9, rfl, hq9, fo9, by decide, n3, n4, hpat, by decide, zb, fun bent S10 o10 e10 hq10 fo10 zw => ?_⟩
    have hN10 := (hN8.extB (fo8.nl hq8) e9).extB (fo9.nl hq9) e10
    (try simp)
    refine ⟨q, nh, ws, ms, _, o10, rfl, hq10, fo10, by decide, hN10, fun gr S11 o11 e11 hq11 fo11 zg => ⟨by simp, newO_of fun r S12 f12 g12 x12 _ => ?_⟩⟩
    have hN12 := (hN10.extB (fo10.nl hq10) e11).ext x12
    have zw12 : Nz 200000 19 S12 bent := ((zw.extB (fo10.nl hq10) e11).ext x12).mono (by decide) (by decide)
    simp [g12]
    refine ⟨.tup es, 12, rfl, (zp _).mono (by decide) (by decide), by decide, fun S13 x13 => ?_⟩
    simp [x13 _ _ g12]
    refine ⟨bent, 19, rfl, zw12.ext x13, by decide, fun S14 x14 => ?_⟩
    simp [x14 _ _ (x13 _ _ g12)]
    refine ⟨gr, 25, rfl, (zg _).mono (by decide) (by decide), by decide, fun S15 x15 => ?_⟩
    simp [x15 _ _ (x14 _ _ (x13 _ _ g12))]
    exact hN' _ _ ⟨_, _, _, _, _, rfl, ((hN12.ext x13).ext x14).ext x15⟩
  · rintro τ S6 ⟨a, b, c, d1, e, rfl, hN6⟩
    (try simp)
    refine ⟨.non, 0, rfl, Nz.non, by decide, fun S7 x7 => ?_⟩
    (try simp)
    refine ⟨.tup [], 1, rfl, Nz.tup (w := 0) (n := 0) (fun _ z => nomatch z) (by decide) (by decide), by decide, fun S8 x8 => ?_⟩
    exact h S8
end
end K07
set_option maxRecDepth 100000
set_option maxHeartbeats 4000000
namespace K07
open PySem PySem.Spec L2 Dt

section
theorem all_mk {l : PySem.W.OpenLaw} {w : World} {K : PySem.W.Frag} {h : Heap} {mg : Str → Option Value} {fa : Addr} (X : K.In h) (G : h.Ns mainGlobals mg) (hfa : mg "law" = some (.ref fa))
    {f0 f1 f2 f3 f4 f5 f6 f7 f8 f9 f10 f11 f12 f13 f14 f15 f16 f17 f18 f19 f20 : Addr} {od0 an0 od1 an1 od2 an2 od3 an3 od4 an4 od5 an5 od6 an6 od7 an7 od8 an8 od9 an9 od10 an10 od11 an11 od12 an12 od13 an13 od14 an14 od15 an15 od16 an16 od17 an17 od18 an18 od19 an19 od20 an20 : Option Addr} {sl0 sl1 sl2 sl3 sl4 sl5 sl6 sl7 sl8 sl9 sl10 sl11 sl12 sl13 sl14 sl15 sl16 sl17 sl18 sl19 sl20 : Array (Option Value)} {oc0 kV0 dc0 pm0 cd0 ct0 oc1 kV1 dc1 pm1 cd1 ct1 oc2 kV2 dc2 pm2 cd2 ct2 oc3 kV3 dc3 pm3 cd3 ct3 oc4 kV4 dc4 pm4 cd4 ct4 oc5 kV5 dc5 pm5 cd5 ct5 oc6 kV6 dc6 pm6 cd6 ct6 oc7 kV7 dc7 pm7 cd7 ct7 oc8 kV8 dc8 pm8 cd8 ct8 oc9 kV9 dc9 pm9 cd9 ct9 oc10 kV10 dc10 pm10 cd10 ct10 oc11 kV11 dc11 pm11 cd11 ct11 oc12 kV12 dc12 pm12 cd12 ct12 oc13 kV13 dc13 pm13 cd13 ct13 oc14 kV14 dc14 pm14 cd14 ct14 oc15 kV15 dc15 pm15 cd15 ct15 oc16 kV16 dc16 pm16 cd16 ct16 oc17 kV17 dc17 pm17 cd17 ct17 oc18 kV18 dc18 pm18 cd18 ct18 oc19 kV19 dc19 pm19 cd19 ct19 oc20 kV20 dc20 pm20 cd20 ct20 : Value}
    (a0 : PySem.W.nsIn K mainGlobals "is_name" = some (some (.ref f0))) (l0 : K.lookup f0 = some ⟨oc0, od0, .func (PySem.W.fnOf "is_name" "is_name" (defArgs s_is_name) (defBody s_is_name) (defScope s_is_name) .none kV0 dc0 pm0 an0 cd0 ct0), sl0⟩) (c0 : PySem.W.codeIn K cd0 "is_name" = true) (k0 : PySem.W.keepIn K (.ref f0) = true)
    (a1 : PySem.W.nsIn K mainGlobals "is_one_of" = some (some (.ref f1))) (l1 : K.lookup f1 = some ⟨oc1, od1, .func (PySem.W.fnOf "is_one_of" "is_one_of" (defArgs s_is_one_of) (defBody s_is_one_of) (defScope s_is_one_of) .none kV1 dc1 pm1 an1 cd1 ct1), sl1⟩) (c1 : PySem.W.codeIn K cd1 "is_one_of" = true) (k1 : PySem.W.keepIn K (.ref f1) = true)
    (a2 : PySem.W.nsIn K mainGlobals "_law_cell_at" = some (some (.ref f2))) (l2 : K.lookup f2 = some ⟨oc2, od2, .func (PySem.W.fnOf "_law_cell_at" "_law_cell_at" (defArgs s_l_cell_at) (defBody s_l_cell_at) (defScope s_l_cell_at) .none kV2 dc2 pm2 an2 cd2 ct2), sl2⟩) (c2 : PySem.W.codeIn K cd2 "_law_cell_at" = true) (k2 : PySem.W.keepIn K (.ref f2) = true)
    (a3 : PySem.W.nsIn K mainGlobals "_law_feed" = some (some (.ref f3))) (l3 : K.lookup f3 = some ⟨oc3, od3, .func (PySem.W.fnOf "_law_feed" "_law_feed" (defArgs s_l_feed) (defBody s_l_feed) (defScope s_l_feed) .none kV3 dc3 pm3 an3 cd3 ct3), sl3⟩) (c3 : PySem.W.codeIn K cd3 "_law_feed" = true) (k3 : PySem.W.keepIn K (.ref f3) = true)
    (a4 : PySem.W.nsIn K mainGlobals "_law_next" = some (some (.ref f4))) (l4 : K.lookup f4 = some ⟨oc4, od4, .func (PySem.W.fnOf "_law_next" "_law_next" (defArgs s_l_next) (defBody s_l_next) (defScope s_l_next) .none kV4 dc4 pm4 an4 cd4 ct4), sl4⟩) (c4 : PySem.W.codeIn K cd4 "_law_next" = true) (k4 : PySem.W.keepIn K (.ref f4) = true)
    (a5 : PySem.W.nsIn K mainGlobals "_law_is_name" = some (some (.ref f5))) (l5 : K.lookup f5 = some ⟨oc5, od5, .func (PySem.W.fnOf "_law_is_name" "_law_is_name" (defArgs s_l_is_name) (defBody s_l_is_name) (defScope s_l_is_name) .none kV5 dc5 pm5 an5 cd5 ct5), sl5⟩) (c5 : PySem.W.codeIn K cd5 "_law_is_name" = true) (k5 : PySem.W.keepIn K (.ref f5) = true)
    (a6 : PySem.W.nsIn K mainGlobals "_law_is_text" = some (some (.ref f6))) (l6 : K.lookup f6 = some ⟨oc6, od6, .func (PySem.W.fnOf "_law_is_text" "_law_is_text" (defArgs s_l_is_text) (defBody s_l_is_text) (defScope s_l_is_text) .none kV6 dc6 pm6 an6 cd6 ct6), sl6⟩) (c6 : PySem.W.codeIn K cd6 "_law_is_text" = true) (k6 : PySem.W.keepIn K (.ref f6) = true)
    (a7 : PySem.W.nsIn K mainGlobals "is_word" = some (some (.ref f7))) (l7 : K.lookup f7 = some ⟨oc7, od7, .func (PySem.W.fnOf "is_word" "is_word" (defArgs s_is_word) (defBody s_is_word) (defScope s_is_word) .none kV7 dc7 pm7 an7 cd7 ct7), sl7⟩) (c7 : PySem.W.codeIn K cd7 "is_word" = true) (k7 : PySem.W.keepIn K (.ref f7) = true)
    (a8 : PySem.W.nsIn K mainGlobals "_law_names" = some (some (.ref f8))) (l8 : K.lookup f8 = some ⟨oc8, od8, .func (PySem.W.fnOf "_law_names" "_law_names" (defArgs s_l_names) (defBody s_l_names) (defScope s_l_names) .none kV8 dc8 pm8 an8 cd8 ct8), sl8⟩) (c8 : PySem.W.codeIn K cd8 "_law_names" = true) (k8 : PySem.W.keepIn K (.ref f8) = true)
    (a9 : PySem.W.nsIn K mainGlobals "_law_leaf" = some (some (.ref f9))) (l9 : K.lookup f9 = some ⟨oc9, od9, .func (PySem.W.fnOf "_law_leaf" "_law_leaf" (defArgs s_l_leaf) (defBody s_l_leaf) (defScope s_l_leaf) .none kV9 dc9 pm9 an9 cd9 ct9), sl9⟩) (c9 : PySem.W.codeIn K cd9 "_law_leaf" = true) (k9 : PySem.W.keepIn K (.ref f9) = true)
    (a10 : PySem.W.nsIn K mainGlobals "_law_within" = some (some (.ref f10))) (l10 : K.lookup f10 = some ⟨oc10, od10, .func (PySem.W.fnOf "_law_within" "_law_within" (defArgs s_l_within) (defBody s_l_within) (defScope s_l_within) .none kV10 dc10 pm10 an10 cd10 ct10), sl10⟩) (c10 : PySem.W.codeIn K cd10 "_law_within" = true) (k10 : PySem.W.keepIn K (.ref f10) = true)
    (a11 : PySem.W.nsIn K mainGlobals "is_leaf" = some (some (.ref f11))) (l11 : K.lookup f11 = some ⟨oc11, od11, .func (PySem.W.fnOf "is_leaf" "is_leaf" (defArgs s_is_leaf) (defBody s_is_leaf) (defScope s_is_leaf) .none kV11 dc11 pm11 an11 cd11 ct11), sl11⟩) (c11 : PySem.W.codeIn K cd11 "is_leaf" = true) (k11 : PySem.W.keepIn K (.ref f11) = true)
    (a12 : PySem.W.nsIn K mainGlobals "_law_right" = some (some (.ref f12))) (l12 : K.lookup f12 = some ⟨oc12, od12, .func (PySem.W.fnOf "_law_right" "_law_right" (defArgs s_l_right) (defBody s_l_right) (defScope s_l_right) .none kV12 dc12 pm12 an12 cd12 ct12), sl12⟩) (c12 : PySem.W.codeIn K cd12 "_law_right" = true) (k12 : PySem.W.keepIn K (.ref f12) = true)
    (a13 : PySem.W.nsIn K mainGlobals "_law_bad" = some (some (.ref f13))) (l13 : K.lookup f13 = some ⟨oc13, od13, .func (PySem.W.fnOf "_law_bad" "_law_bad" (defArgs s_l_bad) (defBody s_l_bad) (defScope s_l_bad) .none kV13 dc13 pm13 an13 cd13 ct13), sl13⟩) (c13 : PySem.W.codeIn K cd13 "_law_bad" = true) (k13 : PySem.W.keepIn K (.ref f13) = true)
    (a14 : PySem.W.nsIn K mainGlobals "_law_great" = some (some (.ref f14))) (l14 : K.lookup f14 = some ⟨oc14, od14, .func (PySem.W.fnOf "_law_great" "_law_great" (defArgs s_l_great) (defBody s_l_great) (defScope s_l_great) .none kV14 dc14 pm14 an14 cd14 ct14), sl14⟩) (c14 : PySem.W.codeIn K cd14 "_law_great" = true) (k14 : PySem.W.keepIn K (.ref f14) = true)
    (a15 : PySem.W.nsIn K mainGlobals "parts_right" = some (some (.ref f15))) (l15 : K.lookup f15 = some ⟨oc15, od15, .func (PySem.W.fnOf "parts_right" "parts_right" (defArgs s_parts_right) (defBody s_parts_right) (defScope s_parts_right) .none kV15 dc15 pm15 an15 cd15 ct15), sl15⟩) (c15 : PySem.W.codeIn K cd15 "parts_right" = true) (k15 : PySem.W.keepIn K (.ref f15) = true)
    (a16 : PySem.W.nsIn K mainGlobals "is_pattern" = some (some (.ref f16))) (l16 : K.lookup f16 = some ⟨oc16, od16, .func (PySem.W.fnOf "is_pattern" "is_pattern" (defArgs s_is_pattern) (defBody s_is_pattern) (defScope s_is_pattern) .none kV16 dc16 pm16 an16 cd16 ct16), sl16⟩) (c16 : PySem.W.codeIn K cd16 "is_pattern" = true) (k16 : PySem.W.keepIn K (.ref f16) = true)
    (a17 : PySem.W.nsIn K mainGlobals "_law_with" = some (some (.ref f17))) (l17 : K.lookup f17 = some ⟨oc17, od17, .func (PySem.W.fnOf "_law_with" "_law_with" (defArgs s_l_with) (defBody s_l_with) (defScope s_l_with) .none kV17 dc17 pm17 an17 cd17 ct17), sl17⟩) (c17 : PySem.W.codeIn K cd17 "_law_with" = true) (k17 : PySem.W.keepIn K (.ref f17) = true)
    (a18 : PySem.W.nsIn K mainGlobals "_law_pattern" = some (some (.ref f18))) (l18 : K.lookup f18 = some ⟨oc18, od18, .func (PySem.W.fnOf "_law_pattern" "_law_pattern" (defArgs s_l_pattern) (defBody s_l_pattern) (defScope s_l_pattern) .none kV18 dc18 pm18 an18 cd18 ct18), sl18⟩) (c18 : PySem.W.codeIn K cd18 "_law_pattern" = true) (k18 : PySem.W.keepIn K (.ref f18) = true)
    (a19 : PySem.W.nsIn K mainGlobals "_law_told" = some (some (.ref f19))) (l19 : K.lookup f19 = some ⟨oc19, od19, .func (PySem.W.fnOf "_law_told" "_law_told" (defArgs s_l_told) (defBody s_l_told) (defScope s_l_told) .none kV19 dc19 pm19 an19 cd19 ct19), sl19⟩) (c19 : PySem.W.codeIn K cd19 "_law_told" = true) (k19 : PySem.W.keepIn K (.ref f19) = true)
    (a20 : PySem.W.nsIn K mainGlobals "law" = some (some (.ref f20))) (l20 : K.lookup f20 = some ⟨oc20, od20, .func (PySem.W.fnOf "law" "law" (defArgs s_law) (defBody s_law) (defScope s_law) .none kV20 dc20 pm20 an20 cd20 ct20), sl20⟩) (c20 : PySem.W.codeIn K cd20 "law" = true) (k20 : PySem.W.keepIn K (.ref f20) = true)
    {u0 u1 u2 u3 u4 u5 : Tok}
    {ta0 : Addr} {tn0 : Nat} {to0 : Option Addr} {ts0 : Array (Option Value)} {tt0_0 tt0_1 : Tok}
    (gt0 : PySem.W.nsIn K mainGlobals "SIDES" = some (some (.ref ta0))) (lt0 : K.lookup ta0 = some ⟨.type "tuple", to0, .seq #[.str "on" tt0_0, .str "back" tt0_1] tn0, ts0⟩)
    (gg0 : PySem.W.nsIn K mainGlobals "ANY_WORD" = some (some (.str "*" u0)))
    (gg1 : PySem.W.nsIn K mainGlobals "LETTERS" = some (some (.str "abcdefghijklmnopqrstuvwxyz" u1)))
    (gg2 : PySem.W.nsIn K mainGlobals "MOST_DEEP" = some (some (.int 10 u2)))
    (gg3 : PySem.W.nsIn K mainGlobals "MOST_PARTS" = some (some (.int 40 u3)))
    (gg4 : PySem.W.nsIn K mainGlobals "MOST_SIGNS" = some (some (.int 8 u4)))
    (gg5 : PySem.W.nsIn K mainGlobals "MOST_WITHIN" = some (some (.int 39 u5)))
    (z0 : PySem.W.nsIn K mainGlobals "all" = some none)
    (z1 : PySem.W.nsIn K mainGlobals "bool" = some none)
    (z2 : PySem.W.nsIn K mainGlobals "int" = some none)
    (z3 : PySem.W.nsIn K mainGlobals "isinstance" = some none)
    (z4 : PySem.W.nsIn K mainGlobals "len" = some none)
    (z5 : PySem.W.nsIn K mainGlobals "list" = some none)
    (z6 : PySem.W.nsIn K mainGlobals "max" = some none)
    (z7 : PySem.W.nsIn K mainGlobals "min" = some none)
    (z8 : PySem.W.nsIn K mainGlobals "range" = some none)
    (z9 : PySem.W.nsIn K mainGlobals "repr" = some none)
    (z10 : PySem.W.nsIn K mainGlobals "str" = some none)
    (z11 : PySem.W.nsIn K mainGlobals "tuple" = some none)
    : ∃ fd : FuncData, (∀ (s : Shared) (v : Value), BindsTo s fd ⟨[v], []⟩ [("_law_script", v)]) ∧ ∀ base : Heap, K.In base → base.Ns mainGlobals mg → DFn l.prog w K mg base 7 fa fd ["_law_script"] sp_law := by
  have e := hfa.symm.trans (PySem.W.mg_of X G a20)
  cases e
  have F0 := fun_mk (st := s_is_name) l0 c0 k0
  have F1 := fun_mk (st := s_is_one_of) l1 c1 k1
  have F2 := fun_mk (st := s_l_cell_at) l2 c2 k2
  have F3 := fun_mk (st := s_l_feed) l3 c3 k3
  have F4 := fun_mk (st := s_l_next) l4 c4 k4
  have F5 := fun_mk (st := s_l_is_name) l5 c5 k5
  have F6 := fun_mk (st := s_l_is_text) l6 c6 k6
  have F7 := fun_mk (st := s_is_word) l7 c7 k7
  have F8 := fun_mk (st := s_l_names) l8 c8 k8
  have F9 := fun_mk (st := s_l_leaf) l9 c9 k9
  have F10 := fun_mk (st := s_l_within) l10 c10 k10
  have F11 := fun_mk (st := s_is_leaf) l11 c11 k11
  have F12 := fun_mk (st := s_l_right) l12 c12 k12
  have F13 := fun_mk (st := s_l_bad) l13 c13 k13
  have F14 := fun_mk (st := s_l_great) l14 c14 k14
  have F15 := fun_mk (st := s_parts_right) l15 c15 k15
  have F16 := fun_mk (st := s_is_pattern) l16 c16 k16
  have F17 := fun_mk (st := s_l_with) l17 c17 k17
  have F18 := fun_mk (st := s_l_pattern) l18 c18 k18
  have F19 := fun_mk (st := s_l_told) l19 c19 k19
  have F20 := fun_mk (st := s_law) l20 c20 k20
  obtain ⟨T, e1, e2⟩ : ∃ T : Txt K mg, T.a_law = fa ∧ T.f_law = PySem.W.fnOf "law" "law" (defArgs s_law) (defBody s_law) (defScope s_law) .none kV20 dc20 pm20 an20 cd20 ct20 :=
    ⟨{ a_is_name := f0, f_is_name := _, F_is_name := F0, m_is_name := PySem.W.mg_of X G a0, d_is_name := F0.binds (ps := ["thing"]) fun _ _ _ _ _ _ us hl => match us, hl with | [_], _ => rfl,
       a_is_one_of := f1, f_is_one_of := _, F_is_one_of := F1, m_is_one_of := PySem.W.mg_of X G a1, d_is_one_of := F1.binds (ps := ["thing", "some"]) fun _ _ _ _ _ _ us hl => match us, hl with | [_, _], _ => rfl,
       a_l_cell_at := f2, f_l_cell_at := _, F_l_cell_at := F2, m_l_cell_at := PySem.W.mg_of X G a2, d_l_cell_at := F2.binds (ps := ["_law_script", "_law_k"]) fun _ _ _ _ _ _ us hl => match us, hl with | [_, _], _ => rfl,
       a_l_feed := f3, f_l_feed := _, F_l_feed := F3, m_l_feed := PySem.W.mg_of X G a3, d_l_feed := F3.binds (ps := ["_law_cell"]) fun _ _ _ _ _ _ us hl => match us, hl with | [_], _ => rfl,
       a_l_next := f4, f_l_next := _, F_l_next := F4, m_l_next := PySem.W.mg_of X G a4, d_l_next := F4.binds (ps := ["_law_feed_here", "_law_many"]) fun _ _ _ _ _ _ us hl => match us, hl with | [_, _], _ => rfl,
       a_l_is_name := f5, f_l_is_name := _, F_l_is_name := F5, m_l_is_name := PySem.W.mg_of X G a5, d_l_is_name := F5.binds (ps := ["_law_thing"]) fun _ _ _ _ _ _ us hl => match us, hl with | [_], _ => rfl,
       a_l_is_text := f6, f_l_is_text := _, F_l_is_text := F6, m_l_is_text := PySem.W.mg_of X G a6, d_l_is_text := F6.binds (ps := ["_law_thing", "_law_some"]) fun _ _ _ _ _ _ us hl => match us, hl with | [_, _], _ => rfl,
       a_is_word := f7, f_is_word := _, F_is_word := F7, m_is_word := PySem.W.mg_of X G a7, d_is_word := F7.binds (ps := ["thing"]) fun _ _ _ _ _ _ us hl => match us, hl with | [_], _ => rfl,
       a_l_names := f8, f_l_names := _, F_l_names := F8, m_l_names := PySem.W.mg_of X G a8, d_l_names := F8.binds (ps := ["_law_feed_here", "_law_many"]) fun _ _ _ _ _ _ us hl => match us, hl with | [_, _], _ => rfl,
       a_l_leaf := f9, f_l_leaf := _, F_l_leaf := F9, m_l_leaf := PySem.W.mg_of X G a9, d_l_leaf := F9.binds (ps := ["_law_feed_here", "_law_names_here"]) fun _ _ _ _ _ _ us hl => match us, hl with | [_, _], _ => rfl,
       a_l_within := f10, f_l_within := _, F_l_within := F10, m_l_within := PySem.W.mg_of X G a10, d_l_within := F10.binds (ps := ["_law_thing"]) fun _ _ _ _ _ _ us hl => match us, hl with | [_], _ => rfl,
       a_is_leaf := f11, f_is_leaf := _, F_is_leaf := F11, m_is_leaf := PySem.W.mg_of X G a11, d_is_leaf := F11.binds (ps := ["thing"]) fun _ _ _ _ _ _ us hl => match us, hl with | [_], _ => rfl,
       a_l_right := f12, f_l_right := _, F_l_right := F12, m_l_right := PySem.W.mg_of X G a12, d_l_right := F12.binds (ps := ["_law_thing"]) fun _ _ _ _ _ _ us hl => match us, hl with | [_], _ => rfl,
       a_l_bad := f13, f_l_bad := _, F_l_bad := F13, m_l_bad := PySem.W.mg_of X G a13, d_l_bad := F13.binds (ps := ["_law_feed_here", "_law_names_here", "_law_part"]) fun _ _ _ _ _ _ us hl => match us, hl with | [_, _, _], _ => rfl,
       a_l_great := f14, f_l_great := _, F_l_great := F14, m_l_great := PySem.W.mg_of X G a14, d_l_great := F14.binds (ps := ["_law_feed_here", "_law_names_here"]) fun _ _ _ _ _ _ us hl => match us, hl with | [_, _], _ => rfl,
       a_parts_right := f15, f_parts_right := _, F_parts_right := F15, m_parts_right := PySem.W.mg_of X G a15, d_parts_right := F15.binds (ps := ["thing"]) fun _ _ _ _ _ _ us hl => match us, hl with | [_], _ => rfl,
       a_is_pattern := f16, f_is_pattern := _, F_is_pattern := F16, m_is_pattern := PySem.W.mg_of X G a16, d_is_pattern := F16.binds (ps := ["thing"]) fun _ _ _ _ _ _ us hl => match us, hl with | [_], _ => rfl,
       a_l_with := f17, f_l_with := _, F_l_with := F17, m_l_with := PySem.W.mg_of X G a17, d_l_with := F17.binds (ps := ["_law_pattern_here", "_law_feed_here", "_law_bad_here"]) fun _ _ _ _ _ _ us hl => match us, hl with | [_, _, _], _ => rfl,
       a_l_pattern := f18, f_l_pattern := _, F_l_pattern := F18, m_l_pattern := PySem.W.mg_of X G a18, d_l_pattern := F18.binds (ps := ["_law_feed_here", "_law_names_here", "_law_deep"]) fun _ _ _ _ _ _ us hl => match us, hl with | [_, _, _], _ => rfl,
       a_l_told := f19, f_l_told := _, F_l_told := F19, m_l_told := PySem.W.mg_of X G a19, d_l_told := F19.binds (ps := ["_law_thing"]) fun _ _ _ _ _ _ us hl => match us, hl with | [_], _ => rfl,
       a_law := fa, f_law := _, F_law := F20, m_law := PySem.W.mg_of X G a20, d_law := F20.binds (ps := ["_law_script"]) fun _ _ _ _ _ _ us hl => match us, hl with | [_], _ => rfl,
       a_SIDES := ta0, i_SIDES := _, n_SIDES := _, o_SIDES := _, s_SIDES := _, g_SIDES := PySem.W.mg_of X G gt0, l_SIDES := lt0, z_SIDES := (show 2 ≤ sizeLine by decide), v_SIDES := ⟨[.str "on", .str "back"], .cons ⟨_, rfl⟩ (.cons ⟨_, rfl⟩ (.nil)), fun H => RDs.cons rfl (RDs.cons rfl (.nil))⟩,
       t_ANY_WORD := _, g_ANY_WORD := PySem.W.mg_of X G gg0,
       t_LETTERS := _, g_LETTERS := PySem.W.mg_of X G gg1,
       t_MOST_DEEP := _, g_MOST_DEEP := PySem.W.mg_of X G gg2,
       t_MOST_PARTS := _, g_MOST_PARTS := PySem.W.mg_of X G gg3,
       t_MOST_SIGNS := _, g_MOST_SIGNS := PySem.W.mg_of X G gg4,
       t_MOST_WITHIN := _, g_MOST_WITHIN := PySem.W.mg_of X G gg5,
       b_all := PySem.W.mg_none_of X G z0,
       b_bool := PySem.W.mg_none_of X G z1,
       b_int := PySem.W.mg_none_of X G z2,
       b_isinstance := PySem.W.mg_none_of X G z3,
       b_len := PySem.W.mg_none_of X G z4,
       b_list := PySem.W.mg_none_of X G z5,
       b_max := PySem.W.mg_none_of X G z6,
       b_min := PySem.W.mg_none_of X G z7,
       b_range := PySem.W.mg_none_of X G z8,
       b_repr := PySem.W.mg_none_of X G z9,
       b_str := PySem.W.mg_none_of X G z10,
       b_tuple := PySem.W.mg_none_of X G z11 }, rfl, rfl⟩
  refine ⟨PySem.W.fnOf "law" "law" (defArgs s_law) (defBody s_law) (defScope s_law) .none kV20 dc20 pm20 an20 cd20 ct20, fun s v => .of_eq rfl, fun base _ _ => ?_⟩
  rw [← e1, ← e2]
  have G_is_name : DFn l.prog w K mg base 1 T.a_is_name T.f_is_name ["thing"] sp_is_name := ok_is_name T sp_is_name_mono (fun ds S Q E h => by first | (obtain ⟨rfl, _⟩ := h; rfl) | (obtain ⟨_, rfl, _⟩ := h; rfl) | (obtain ⟨_, _, rfl, _⟩ := h; rfl) | (obtain ⟨_, _, _, rfl, _⟩ := h; rfl) | (obtain ⟨_, _, _, _, rfl, _⟩ := h; rfl) | (obtain ⟨_, _, _, _, _, rfl, _⟩ := h; rfl) | (obtain ⟨_, _, _, _, _, _, rfl, _⟩ := h; rfl) | (obtain ⟨_, _, _, _, _, _, _, rfl, _⟩ := h; rfl) | (obtain ⟨_, _, _, _, _, _, _, _, rfl, _⟩ := h; rfl) | (obtain ⟨_, rfl⟩ := h; rfl)) r_is_name
  have G_is_one_of : DFn l.prog w K mg base 1 T.a_is_one_of T.f_is_one_of ["thing", "some"] sp_is_one_of := ok_is_one_of T sp_is_one_of_mono (fun ds S Q E h => by first | (obtain ⟨rfl, _⟩ := h; rfl) | (obtain ⟨_, rfl, _⟩ := h; rfl) | (obtain ⟨_, _, rfl, _⟩ := h; rfl) | (obtain ⟨_, _, _, rfl, _⟩ := h; rfl) | (obtain ⟨_, _, _, _, rfl, _⟩ := h; rfl) | (obtain ⟨_, _, _, _, _, rfl, _⟩ := h; rfl) | (obtain ⟨_, _, _, _, _, _, rfl, _⟩ := h; rfl) | (obtain ⟨_, _, _, _, _, _, _, rfl, _⟩ := h; rfl) | (obtain ⟨_, _, _, _, _, _, _, _, rfl, _⟩ := h; rfl) | (obtain ⟨_, rfl⟩ := h; rfl)) r_is_one_of
  have G_l_cell_at : DFn l.prog w K mg base 1 T.a_l_cell_at T.f_l_cell_at ["_law_script", "_law_k"] sp_l_cell_at := ok_l_cell_at T sp_l_cell_at_mono (fun ds S Q E h => by first | (obtain ⟨rfl, _⟩ := h; rfl) | (obtain ⟨_, rfl, _⟩ := h; rfl) | (obtain ⟨_, _, rfl, _⟩ := h; rfl) | (obtain ⟨_, _, _, rfl, _⟩ := h; rfl) | (obtain ⟨_, _, _, _, rfl, _⟩ := h; rfl) | (obtain ⟨_, _, _, _, _, rfl, _⟩ := h; rfl) | (obtain ⟨_, _, _, _, _, _, rfl, _⟩ := h; rfl) | (obtain ⟨_, _, _, _, _, _, _, rfl, _⟩ := h; rfl) | (obtain ⟨_, _, _, _, _, _, _, _, rfl, _⟩ := h; rfl) | (obtain ⟨_, rfl⟩ := h; rfl)) r_l_cell_at
  have G_l_feed : DFn l.prog w K mg base 1 T.a_l_feed T.f_l_feed ["_law_cell"] sp_l_feed := ok_l_feed T sp_l_feed_mono (fun ds S Q E h => by first | (obtain ⟨rfl, _⟩ := h; rfl) | (obtain ⟨_, rfl, _⟩ := h; rfl) | (obtain ⟨_, _, rfl, _⟩ := h; rfl) | (obtain ⟨_, _, _, rfl, _⟩ := h; rfl) | (obtain ⟨_, _, _, _, rfl, _⟩ := h; rfl) | (obtain ⟨_, _, _, _, _, rfl, _⟩ := h; rfl) | (obtain ⟨_, _, _, _, _, _, rfl, _⟩ := h; rfl) | (obtain ⟨_, _, _, _, _, _, _, rfl, _⟩ := h; rfl) | (obtain ⟨_, _, _, _, _, _, _, _, rfl, _⟩ := h; rfl) | (obtain ⟨_, rfl⟩ := h; rfl)) r_l_feed
  have G_l_next : DFn l.prog w K mg base 1 T.a_l_next T.f_l_next ["_law_feed_here", "_law_many"] sp_l_next := ok_l_next T sp_l_next_mono (fun ds S Q E h => by first | (obtain ⟨rfl, _⟩ := h; rfl) | (obtain ⟨_, rfl, _⟩ := h; rfl) | (obtain ⟨_, _, rfl, _⟩ := h; rfl) | (obtain ⟨_, _, _, rfl, _⟩ := h; rfl) | (obtain ⟨_, _, _, _, rfl, _⟩ := h; rfl) | (obtain ⟨_, _, _, _, _, rfl, _⟩ := h; rfl) | (obtain ⟨_, _, _, _, _, _, rfl, _⟩ := h; rfl) | (obtain ⟨_, _, _, _, _, _, _, rfl, _⟩ := h; rfl) | (obtain ⟨_, _, _, _, _, _, _, _, rfl, _⟩ := h; rfl) | (obtain ⟨_, rfl⟩ := h; rfl)) r_l_next
  have G_l_is_name : DFn l.prog w K mg base 1 T.a_l_is_name T.f_l_is_name ["_law_thing"] sp_l_is_name := ok_l_is_name T sp_l_is_name_mono (fun ds S Q E h => by first | (obtain ⟨rfl, _⟩ := h; rfl) | (obtain ⟨_, rfl, _⟩ := h; rfl) | (obtain ⟨_, _, rfl, _⟩ := h; rfl) | (obtain ⟨_, _, _, rfl, _⟩ := h; rfl) | (obtain ⟨_, _, _, _, rfl, _⟩ := h; rfl) | (obtain ⟨_, _, _, _, _, rfl, _⟩ := h; rfl) | (obtain ⟨_, _, _, _, _, _, rfl, _⟩ := h; rfl) | (obtain ⟨_, _, _, _, _, _, _, rfl, _⟩ := h; rfl) | (obtain ⟨_, _, _, _, _, _, _, _, rfl, _⟩ := h; rfl) | (obtain ⟨_, rfl⟩ := h; rfl)) r_l_is_name
  have G_l_is_text : DFn l.prog w K mg base 1 T.a_l_is_text T.f_l_is_text ["_law_thing", "_law_some"] sp_l_is_text := ok_l_is_text T sp_l_is_text_mono (fun ds S Q E h => by first | (obtain ⟨rfl, _⟩ := h; rfl) | (obtain ⟨_, rfl, _⟩ := h; rfl) | (obtain ⟨_, _, rfl, _⟩ := h; rfl) | (obtain ⟨_, _, _, rfl, _⟩ := h; rfl) | (obtain ⟨_, _, _, _, rfl, _⟩ := h; rfl) | (obtain ⟨_, _, _, _, _, rfl, _⟩ := h; rfl) | (obtain ⟨_, _, _, _, _, _, rfl, _⟩ := h; rfl) | (obtain ⟨_, _, _, _, _, _, _, rfl, _⟩ := h; rfl) | (obtain ⟨_, _, _, _, _, _, _, _, rfl, _⟩ := h; rfl) | (obtain ⟨_, rfl⟩ := h; rfl)) r_l_is_text
  have G_is_word : DFn l.prog w K mg base 2 T.a_is_word T.f_is_word ["thing"] sp_is_word := ok_is_word T (G_is_name := G_is_name) sp_is_word_mono (fun ds S Q E h => by first | (obtain ⟨rfl, _⟩ := h; rfl) | (obtain ⟨_, rfl, _⟩ := h; rfl) | (obtain ⟨_, _, rfl, _⟩ := h; rfl) | (obtain ⟨_, _, _, rfl, _⟩ := h; rfl) | (obtain ⟨_, _, _, _, rfl, _⟩ := h; rfl) | (obtain ⟨_, _, _, _, _, rfl, _⟩ := h; rfl) | (obtain ⟨_, _, _, _, _, _, rfl, _⟩ := h; rfl) | (obtain ⟨_, _, _, _, _, _, _, rfl, _⟩ := h; rfl) | (obtain ⟨_, _, _, _, _, _, _, _, rfl, _⟩ := h; rfl) | (obtain ⟨_, rfl⟩ := h; rfl)) r_is_word
  have G_l_names : DFn l.prog w K mg base 2 T.a_l_names T.f_l_names ["_law_feed_here", "_law_many"] sp_l_names := ok_l_names T (G_l_next := G_l_next) sp_l_names_mono (fun ds S Q E h => by first | (obtain ⟨rfl, _⟩ := h; rfl) | (obtain ⟨_, rfl, _⟩ := h; rfl) | (obtain ⟨_, _, rfl, _⟩ := h; rfl) | (obtain ⟨_, _, _, rfl, _⟩ := h; rfl) | (obtain ⟨_, _, _, _, rfl, _⟩ := h; rfl) | (obtain ⟨_, _, _, _, _, rfl, _⟩ := h; rfl) | (obtain ⟨_, _, _, _, _, _, rfl, _⟩ := h; rfl) | (obtain ⟨_, _, _, _, _, _, _, rfl, _⟩ := h; rfl) | (obtain ⟨_, _, _, _, _, _, _, _, rfl, _⟩ := h; rfl) | (obtain ⟨_, rfl⟩ := h; rfl)) r_l_names
  have G_l_leaf : DFn l.prog w K mg base 2 T.a_l_leaf T.f_l_leaf ["_law_feed_here", "_law_names_here"] sp_l_leaf := ok_l_leaf T (G_l_next := G_l_next) sp_l_leaf_mono (fun ds S Q E h => by first | (obtain ⟨rfl, _⟩ := h; rfl) | (obtain ⟨_, rfl, _⟩ := h; rfl) | (obtain ⟨_, _, rfl, _⟩ := h; rfl) | (obtain ⟨_, _, _, rfl, _⟩ := h; rfl) | (obtain ⟨_, _, _, _, rfl, _⟩ := h; rfl) | (obtain ⟨_, _, _, _, _, rfl, _⟩ := h; rfl) | (obtain ⟨_, _, _, _, _, _, rfl, _⟩ := h; rfl) | (obtain ⟨_, _, _, _, _, _, _, rfl, _⟩ := h; rfl) | (obtain ⟨_, _, _, _, _, _, _, _, rfl, _⟩ := h; rfl) | (obtain ⟨_, rfl⟩ := h; rfl)) r_l_leaf
  have G_l_within : DFn l.prog w K mg base 2 T.a_l_within T.f_l_within ["_law_thing"] sp_l_within := ok_l_within T (G_l_is_name := G_l_is_name) (G_l_is_text := G_l_is_text) sp_l_within_mono (fun ds S Q E h => by first | (obtain ⟨rfl, _⟩ := h; rfl) | (obtain ⟨_, rfl, _⟩ := h; rfl) | (obtain ⟨_, _, rfl, _⟩ := h; rfl) | (obtain ⟨_, _, _, rfl, _⟩ := h; rfl) | (obtain ⟨_, _, _, _, rfl, _⟩ := h; rfl) | (obtain ⟨_, _, _, _, _, rfl, _⟩ := h; rfl) | (obtain ⟨_, _, _, _, _, _, rfl, _⟩ := h; rfl) | (obtain ⟨_, _, _, _, _, _, _, rfl, _⟩ := h; rfl) | (obtain ⟨_, _, _, _, _, _, _, _, rfl, _⟩ := h; rfl) | (obtain ⟨_, rfl⟩ := h; rfl)) r_l_within
  have G_is_leaf : DFn l.prog w K mg base 3 T.a_is_leaf T.f_is_leaf ["thing"] sp_is_leaf := ok_is_leaf T (G_is_name := G_is_name) (G_is_one_of := G_is_one_of) (G_is_word := G_is_word) sp_is_leaf_mono (fun ds S Q E h => by first | (obtain ⟨rfl, _⟩ := h; rfl) | (obtain ⟨_, rfl, _⟩ := h; rfl) | (obtain ⟨_, _, rfl, _⟩ := h; rfl) | (obtain ⟨_, _, _, rfl, _⟩ := h; rfl) | (obtain ⟨_, _, _, _, rfl, _⟩ := h; rfl) | (obtain ⟨_, _, _, _, _, rfl, _⟩ := h; rfl) | (obtain ⟨_, _, _, _, _, _, rfl, _⟩ := h; rfl) | (obtain ⟨_, _, _, _, _, _, _, rfl, _⟩ := h; rfl) | (obtain ⟨_, _, _, _, _, _, _, _, rfl, _⟩ := h; rfl) | (obtain ⟨_, rfl⟩ := h; rfl)) r_is_leaf
  have G_l_right : DFn l.prog w K mg base 3 T.a_l_right T.f_l_right ["_law_thing"] sp_l_right := ok_l_right T (G_l_within := G_l_within) sp_l_right_mono (fun ds S Q E h => by first | (obtain ⟨rfl, _⟩ := h; rfl) | (obtain ⟨_, rfl, _⟩ := h; rfl) | (obtain ⟨_, _, rfl, _⟩ := h; rfl) | (obtain ⟨_, _, _, rfl, _⟩ := h; rfl) | (obtain ⟨_, _, _, _, rfl, _⟩ := h; rfl) | (obtain ⟨_, _, _, _, _, rfl, _⟩ := h; rfl) | (obtain ⟨_, _, _, _, _, _, rfl, _⟩ := h; rfl) | (obtain ⟨_, _, _, _, _, _, _, rfl, _⟩ := h; rfl) | (obtain ⟨_, _, _, _, _, _, _, _, rfl, _⟩ := h; rfl) | (obtain ⟨_, rfl⟩ := h; rfl)) r_l_right
  have G_l_bad : DFn l.prog w K mg base 3 T.a_l_bad T.f_l_bad ["_law_feed_here", "_law_names_here", "_law_part"] sp_l_bad := ok_l_bad T (G_l_next := G_l_next) (G_l_leaf := G_l_leaf) sp_l_bad_mono (fun ds S Q E h => by first | (obtain ⟨rfl, _⟩ := h; rfl) | (obtain ⟨_, rfl, _⟩ := h; rfl) | (obtain ⟨_, _, rfl, _⟩ := h; rfl) | (obtain ⟨_, _, _, rfl, _⟩ := h; rfl) | (obtain ⟨_, _, _, _, rfl, _⟩ := h; rfl) | (obtain ⟨_, _, _, _, _, rfl, _⟩ := h; rfl) | (obtain ⟨_, _, _, _, _, _, rfl, _⟩ := h; rfl) | (obtain ⟨_, _, _, _, _, _, _, rfl, _⟩ := h; rfl) | (obtain ⟨_, _, _, _, _, _, _, _, rfl, _⟩ := h; rfl) | (obtain ⟨_, rfl⟩ := h; rfl)) r_l_bad
  have G_l_great : DFn l.prog w K mg base 3 T.a_l_great T.f_l_great ["_law_feed_here", "_law_names_here"] sp_l_great := ok_l_great T (G_l_next := G_l_next) (G_l_leaf := G_l_leaf) sp_l_great_mono (fun ds S Q E h => by first | (obtain ⟨rfl, _⟩ := h; rfl) | (obtain ⟨_, rfl, _⟩ := h; rfl) | (obtain ⟨_, _, rfl, _⟩ := h; rfl) | (obtain ⟨_, _, _, rfl, _⟩ := h; rfl) | (obtain ⟨_, _, _, _, rfl, _⟩ := h; rfl) | (obtain ⟨_, _, _, _, _, rfl, _⟩ := h; rfl) | (obtain ⟨_, _, _, _, _, _, rfl, _⟩ := h; rfl) | (obtain ⟨_, _, _, _, _, _, _, rfl, _⟩ := h; rfl) | (obtain ⟨_, _, _, _, _, _, _, _, rfl, _⟩ := h; rfl) | (obtain ⟨_, rfl⟩ := h; rfl)) r_l_great
  have G_parts_right : DFn l.prog w K mg base 4 T.a_parts_right T.f_parts_right ["thing"] sp_parts_right := ok_parts_right T (G_is_one_of := G_is_one_of) (G_is_leaf := G_is_leaf) sp_parts_right_mono (fun ds S Q E h => by first | (obtain ⟨rfl, _⟩ := h; rfl) | (obtain ⟨_, rfl, _⟩ := h; rfl) | (obtain ⟨_, _, rfl, _⟩ := h; rfl) | (obtain ⟨_, _, _, rfl, _⟩ := h; rfl) | (obtain ⟨_, _, _, _, rfl, _⟩ := h; rfl) | (obtain ⟨_, _, _, _, _, rfl, _⟩ := h; rfl) | (obtain ⟨_, _, _, _, _, _, rfl, _⟩ := h; rfl) | (obtain ⟨_, _, _, _, _, _, _, rfl, _⟩ := h; rfl) | (obtain ⟨_, _, _, _, _, _, _, _, rfl, _⟩ := h; rfl) | (obtain ⟨_, rfl⟩ := h; rfl)) r_parts_right
  have G_is_pattern : DFn l.prog w K mg base 5 T.a_is_pattern T.f_is_pattern ["thing"] sp_is_pattern := ok_is_pattern T (G_parts_right := G_parts_right) sp_is_pattern_mono (fun ds S Q E h => by first | (obtain ⟨rfl, _⟩ := h; rfl) | (obtain ⟨_, rfl, _⟩ := h; rfl) | (obtain ⟨_, _, rfl, _⟩ := h; rfl) | (obtain ⟨_, _, _, rfl, _⟩ := h; rfl) | (obtain ⟨_, _, _, _, rfl, _⟩ := h; rfl) | (obtain ⟨_, _, _, _, _, rfl, _⟩ := h; rfl) | (obtain ⟨_, _, _, _, _, _, rfl, _⟩ := h; rfl) | (obtain ⟨_, _, _, _, _, _, _, rfl, _⟩ := h; rfl) | (obtain ⟨_, _, _, _, _, _, _, _, rfl, _⟩ := h; rfl) | (obtain ⟨_, rfl⟩ := h; rfl)) r_is_pattern
  have R_l_with : ∀ n, DFn l.prog w K mg base (1 + n + 1) T.a_l_with T.f_l_with ["_law_pattern_here", "_law_feed_here", "_law_bad_here"] (sp_l_with n) := fun n => by
    induction n with
    | zero => exact ok_l_with T (G_l_next := G_l_next) 0 (DFn.never 0) (sp_l_with_mono 0) (fun ds S Q E h => by first | (obtain ⟨rfl, _⟩ := h; rfl) | (obtain ⟨_, rfl, _⟩ := h; rfl) | (obtain ⟨_, _, rfl, _⟩ := h; rfl) | (obtain ⟨_, _, _, rfl, _⟩ := h; rfl) | (obtain ⟨_, _, _, _, rfl, _⟩ := h; rfl) | (obtain ⟨_, _, _, _, _, rfl, _⟩ := h; rfl) | (obtain ⟨_, _, _, _, _, _, rfl, _⟩ := h; rfl) | (obtain ⟨_, _, _, _, _, _, _, rfl, _⟩ := h; rfl) | (obtain ⟨_, _, _, _, _, _, _, _, rfl, _⟩ := h; rfl) | (obtain ⟨_, rfl⟩ := h; rfl)) (r_l_with 0)
    | succ n ih => exact ok_l_with T (G_l_next := G_l_next) (n + 1) ih (sp_l_with_mono (n + 1)) (fun ds S Q E h => by first | (obtain ⟨rfl, _⟩ := h; rfl) | (obtain ⟨_, rfl, _⟩ := h; rfl) | (obtain ⟨_, _, rfl, _⟩ := h; rfl) | (obtain ⟨_, _, _, rfl, _⟩ := h; rfl) | (obtain ⟨_, _, _, _, rfl, _⟩ := h; rfl) | (obtain ⟨_, _, _, _, _, rfl, _⟩ := h; rfl) | (obtain ⟨_, _, _, _, _, _, rfl, _⟩ := h; rfl) | (obtain ⟨_, _, _, _, _, _, _, rfl, _⟩ := h; rfl) | (obtain ⟨_, _, _, _, _, _, _, _, rfl, _⟩ := h; rfl) | (obtain ⟨_, rfl⟩ := h; rfl)) (r_l_with (n + 1))
  have G_l_with := R_l_with 3
  have R_l_pattern : ∀ n, DFn l.prog w K mg base (2 + n + 1) T.a_l_pattern T.f_l_pattern ["_law_feed_here", "_law_names_here", "_law_deep"] (sp_l_pattern n) := fun n => by
    induction n with
    | zero => exact ok_l_pattern T (G_l_next := G_l_next) (G_l_leaf := G_l_leaf) 0 (DFn.never 0) (sp_l_pattern_mono 0) (fun ds S Q E h => by first | (obtain ⟨rfl, _⟩ := h; rfl) | (obtain ⟨_, rfl, _⟩ := h; rfl) | (obtain ⟨_, _, rfl, _⟩ := h; rfl) | (obtain ⟨_, _, _, rfl, _⟩ := h; rfl) | (obtain ⟨_, _, _, _, rfl, _⟩ := h; rfl) | (obtain ⟨_, _, _, _, _, rfl, _⟩ := h; rfl) | (obtain ⟨_, _, _, _, _, _, rfl, _⟩ := h; rfl) | (obtain ⟨_, _, _, _, _, _, _, rfl, _⟩ := h; rfl) | (obtain ⟨_, _, _, _, _, _, _, _, rfl, _⟩ := h; rfl) | (obtain ⟨_, rfl⟩ := h; rfl)) (r_l_pattern 0)
    | succ n ih => exact ok_l_pattern T (G_l_next := G_l_next) (G_l_leaf := G_l_leaf) (n + 1) ih (sp_l_pattern_mono (n + 1)) (fun ds S Q E h => by first | (obtain ⟨rfl, _⟩ := h; rfl) | (obtain ⟨_, rfl, _⟩ := h; rfl) | (obtain ⟨_, _, rfl, _⟩ := h; rfl) | (obtain ⟨_, _, _, rfl, _⟩ := h; rfl) | (obtain ⟨_, _, _, _, rfl, _⟩ := h; rfl) | (obtain ⟨_, _, _, _, _, rfl, _⟩ := h; rfl) | (obtain ⟨_, _, _, _, _, _, rfl, _⟩ := h; rfl) | (obtain ⟨_, _, _, _, _, _, _, rfl, _⟩ := h; rfl) | (obtain ⟨_, _, _, _, _, _, _, _, rfl, _⟩ := h; rfl) | (obtain ⟨_, rfl⟩ := h; rfl)) (r_l_pattern (n + 1))
  have G_l_pattern := R_l_pattern 3
  have G_l_told : DFn l.prog w K mg base 6 T.a_l_told T.f_l_told ["_law_thing"] sp_l_told := ok_l_told T (G_l_right := G_l_right) (G_is_pattern := G_is_pattern) sp_l_told_mono (fun ds S Q E h => by first | (obtain ⟨rfl, _⟩ := h; rfl) | (obtain ⟨_, rfl, _⟩ := h; rfl) | (obtain ⟨_, _, rfl, _⟩ := h; rfl) | (obtain ⟨_, _, _, rfl, _⟩ := h; rfl) | (obtain ⟨_, _, _, _, rfl, _⟩ := h; rfl) | (obtain ⟨_, _, _, _, _, rfl, _⟩ := h; rfl) | (obtain ⟨_, _, _, _, _, _, rfl, _⟩ := h; rfl) | (obtain ⟨_, _, _, _, _, _, _, rfl, _⟩ := h; rfl) | (obtain ⟨_, _, _, _, _, _, _, _, rfl, _⟩ := h; rfl) | (obtain ⟨_, rfl⟩ := h; rfl)) r_l_told
  have G_law : DFn l.prog w K mg base 7 T.a_law T.f_law ["_law_script"] sp_law := ok_law T (G_l_cell_at := G_l_cell_at) (G_l_feed := G_l_feed) (G_l_names := G_l_names) (G_l_bad := G_l_bad) (G_l_great := G_l_great) (G_l_with := G_l_with) (G_l_pattern := G_l_pattern) (G_l_told := G_l_told) sp_law_mono (fun ds S Q E h => by first | (obtain ⟨rfl, _⟩ := h; rfl) | (obtain ⟨_, rfl, _⟩ := h; rfl) | (obtain ⟨_, _, rfl, _⟩ := h; rfl) | (obtain ⟨_, _, _, rfl, _⟩ := h; rfl) | (obtain ⟨_, _, _, _, rfl, _⟩ := h; rfl) | (obtain ⟨_, _, _, _, _, rfl, _⟩ := h; rfl) | (obtain ⟨_, _, _, _, _, _, rfl, _⟩ := h; rfl) | (obtain ⟨_, _, _, _, _, _, _, rfl, _⟩ := h; rfl) | (obtain ⟨_, _, _, _, _, _, _, _, rfl, _⟩ := h; rfl) | (obtain ⟨_, rfl⟩ := h; rfl)) r_law
  exact G_law
end
theorem sp_law_all (ns : List Int) (S : DH) (h : ns.length ≤ 63) : sp_law [.rol (ns.map D.int)] S (fun d _ => d = .bl true) fun _ _ _ => False := ⟨ns, rfl, h, fun _ => rfl⟩
theorem walk {l : PySem.W.OpenLaw} {q : Program} {loose : List Str} {XP : (Str → Option Value) → Heap → Prop} {YP : World → Heap → Prop} {d : DefRec} {K : Params → PySem.W.Frag} (hn : l.most = some 63) (hdf : d.params.defaults = []) (hY : ∀ (w : World) (h : Heap), YP w h → (K w.params).In h)
    (F : ∀ (w : World) (mg : Str → Option Value) (fa : Addr) (h : Heap), (K w.params).In h → h.Ns mainGlobals mg → mg d.name = some (.ref fa) →
      ∃ fd : FuncData, (∀ (s : Shared) (u : Value), BindsTo s fd ⟨[u], []⟩ [("_law_script", u)]) ∧ ∀ base : Heap, (K w.params).In base → base.Ns mainGlobals mg → DFn l.prog w (K w.params) mg base 7 fa fd ["_law_script"] sp_law) : PySem.W.WalkO q loose XP YP l.row.toRowW d [] (fun f vs => PySem.call f vs) :=
  dwalk (n := 63) (k := 7) hn (by decide) hdf ⟨rfl, by decide, by decide⟩ hY F fun ns S hl => sp_law_all ns S hl
end K07
set_option maxRecDepth 100000
open PySem PySem.W PyProof.Rows
set_option maxRecDepth 100000 in
set_option maxHeartbeats 0 in
theorem PySem.Challenge.cw_pathask_k07_what_is_a_pattern_holds : PySem.Challenge.rw_pathask_k07_what_is_a_pattern.Holds := by
  w_on; o_law; k_head; (case hw => w_witness2)
  k_fill
  refine K07.walk (l := PySem.Challenge.rw_pathask_k07_what_is_a_pattern) rfl rfl (fun w h Y => PySem.W.kIn_of Y) ?F
  case F =>
    intro w mg fa h KX G hmg
    refine' K07.all_mk KX G hmg ?a0 ?l0 ?c0 ?k0 ?a1 ?l1 ?c1 ?k1 ?a2 ?l2 ?c2 ?k2 ?a3 ?l3 ?c3 ?k3 ?a4 ?l4 ?c4 ?k4 ?a5 ?l5 ?c5 ?k5 ?a6 ?l6 ?c6 ?k6 ?a7 ?l7 ?c7 ?k7 ?a8 ?l8 ?c8 ?k8 ?a9 ?l9 ?c9 ?k9 ?a10 ?l10 ?c10 ?k10 ?a11 ?l11 ?c11 ?k11 ?a12 ?l12 ?c12 ?k12 ?a13 ?l13 ?c13 ?k13 ?a14 ?l14 ?c14 ?k14 ?a15 ?l15 ?c15 ?k15 ?a16 ?l16 ?c16 ?k16 ?a17 ?l17 ?c17 ?k17 ?a18 ?l18 ?c18 ?k18 ?a19 ?l19 ?c19 ?k19 ?a20 ?l20 ?c20 ?k20 ?gt0 ?lt0 ?gg0 ?gg1 ?gg2 ?gg3 ?gg4 ?gg5 ?z0 ?z1 ?z2 ?z3 ?z4 ?z5 ?z6 ?z7 ?z8 ?z9 ?z10 ?z11
    (case a0 => k_is); (case l0 => k_is); (case c0 => k_is); (case k0 => k_is)
    (case a1 => k_is); (case l1 => k_is); (case c1 => k_is); (case k1 => k_is)
    (case a2 => k_is); (case l2 => k_is); (case c2 => k_is); (case k2 => k_is)
    (case a3 => k_is); (case l3 => k_is); (case c3 => k_is); (case k3 => k_is)
    (case a4 => k_is); (case l4 => k_is); (case c4 => k_is); (case k4 => k_is)
    (case a5 => k_is); (case l5 => k_is); (case c5 => k_is); (case k5 => k_is)
    (case a6 => k_is); (case l6 => k_is); (case c6 => k_is); (case k6 => k_is)
    (case a7 => k_is); (case l7 => k_is); (case c7 => k_is); (case k7 => k_is)
    (case a8 => k_is); (case l8 => k_is); (case c8 => k_is); (case k8 => k_is)
    (case a9 => k_is); (case l9 => k_is); (case c9 => k_is); (case k9 => k_is)
    (case a10 => k_is); (case l10 => k_is); (case c10 => k_is); (case k10 => k_is)
    (case a11 => k_is); (case l11 => k_is); (case c11 => k_is); (case k11 => k_is)
    (case a12 => k_is); (case l12 => k_is); (case c12 => k_is); (case k12 => k_is)
    (case a13 => k_is); (case l13 => k_is); (case c13 => k_is); (case k13 => k_is)
    (case a14 => k_is); (case l14 => k_is); (case c14 => k_is); (case k14 => k_is)
    (case a15 => k_is); (case l15 => k_is); (case c15 => k_is); (case k15 => k_is)
    (case a16 => k_is); (case l16 => k_is); (case c16 => k_is); (case k16 => k_is)
    (case a17 => k_is); (case l17 => k_is); (case c17 => k_is); (case k17 => k_is)
    (case a18 => k_is); (case l18 => k_is); (case c18 => k_is); (case k18 => k_is)
    (case a19 => k_is); (case l19 => k_is); (case c19 => k_is); (case k19 => k_is)
    (case a20 => k_is); (case l20 => k_is); (case c20 => k_is); (case k20 => k_is)
    (case gt0 => k_is); (case lt0 => k_is); (case gg0 => k_is); (case gg1 => k_is)
    (case gg2 => k_is); (case gg3 => k_is); (case gg4 => k_is); (case gg5 => k_is)
    (case z0 => k_is); (case z1 => k_is); (case z2 => k_is); (case z3 => k_is)
    (case z4 => k_is); (case z5 => k_is); (case z6 => k_is); (case z7 => k_is)
    (case z8 => k_is); (case z9 => k_is); (case z10 => k_is); (case z11 => k_is)
