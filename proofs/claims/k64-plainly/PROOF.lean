import PyProof.Rows.All
import Wide.All
import OpenK.AllK
import Wide.FinOn
import KE.OsRunLaw
import PyProof.EqAt
import PyProof.EqKinds
import PyProof.TupleCall
import HandS.Base
import HandS.Call
import HandS.List
import HandS.Comp
import HandS.Ends
import HandS.Dict
import HandS.Iter
import HandS.Text
import HandS.Words
import HandS.Exc
import HandS.ExcInit
import KE.KeyNested
import KE.KDictKeyed
import HandS.WordsDict
import HandS.TupAny
import HandS.Rev
import HandS.Conv
import HandS.Keys
import HandS.TupLe
import HandS.Deep
import HandS.Wide
import HandS.IsInst
import HandS.More
import HandS.SetFor
import HandS.SortInts
import HandS.TupLen
import KE.SortData
import HandS.Set
import PyProof.Rows.SetFrom
import HandS.TupMul
import KE.DataCmp
import HandS.Remove
import HandS.TryOnly
import KE.KDictCopyH
import KE.KDictSum
import PyProof.WalksMore
import HandS.RaiseMore
import HandS.Style
import KE.DataFind
import PyProof.ListNew
import HandS.HotCalls
import HandS.ExcField
import HandS.ExcIs
import HandS.ExcValue
import KE.KExcIs
import PyProof.ReprRoads
import PySem.Challenge.RW_pathask_k64_plainly
set_option Elab.async false
set_option linter.all false
set_option maxRecDepth 100000
set_option maxHeartbeats 0
namespace K64XS
open PySem PySem.W PyProof.Rows
theorem look0 : (sreFenced (OpenLaw.row PySem.Challenge.rw_pathask_k64_plainly).prog.main) = true := by decide +kernel
theorem look1 : (((moduleNames (OpenLaw.row PySem.Challenge.rw_pathask_k64_plainly).prog.main.body).isEmpty || lookedIntoSs (moduleNames (OpenLaw.row PySem.Challenge.rw_pathask_k64_plainly).prog.main.body) (OpenLaw.row PySem.Challenge.rw_pathask_k64_plainly).prog.main.body)) = true := by decide +kernel
theorem look2 : (namesResolve (OpenLaw.row PySem.Challenge.rw_pathask_k64_plainly).prog) = true := by decide +kernel
theorem look3 : ((OpenLaw.row PySem.Challenge.rw_pathask_k64_plainly).prog.boundNames.all (fun n => !worldNames.contains n)) = true := by decide +kernel
theorem look4 : (noRoadLSs { strict := !(importedModules (OpenLaw.row PySem.Challenge.rw_pathask_k64_plainly).prog.main.body).all cThrough.contains, foot := none, bare := (["vars", "dir", "locals"] : List Str).filter (readsOut (OpenLaw.row PySem.Challenge.rw_pathask_k64_plainly).prog (OpenLaw.row PySem.Challenge.rw_pathask_k64_plainly).prog.main.body) } (OpenLaw.row PySem.Challenge.rw_pathask_k64_plainly).prog.main.body) = true := by decide +kernel
theorem look5 : (namesMeet (OpenLaw.row PySem.Challenge.rw_pathask_k64_plainly).prog (OpenLaw.row PySem.Challenge.rw_pathask_k64_plainly).prog.main.body fun _ n => attrL n) = true := by decide +kernel
theorem looks : looksOpen (OpenLaw.row PySem.Challenge.rw_pathask_k64_plainly).prog = true := by
  unfold looksOpen
  rw [look0, look1, look2, look3, look4, look5]
  rfl
theorem said : (OpenLaw.row PySem.Challenge.rw_pathask_k64_plainly).wellSaid = true := by
  unfold OpenRow.wellSaid OpenRow.partSaid
  rw [looks]
  simp only [Bool.and_eq_true]
  (repeat' (refine And.intro ?_ ?_)) <;> decide +kernel
end K64XS
set_option maxRecDepth 100000
set_option maxHeartbeats 4000000
/-! Dat1: the data layer's base. A value is a plain tree (a tuple is its items); lists, dicts, instances stand at
addresses of a data heap. Readings are over slots of such values and the data heap. -/
namespace Dt
open PySem PySem.Spec L2

/-! ### the abstract heap grows -/
/-- what values rest on -/
structure LeW (H H' : Hp) : Prop where
  tup : ∀ p xs, H p = some (.tup xs) → H' p = some (.tup xs)
  fl : ∀ p o xs, H p = some (.frz o (.lst xs)) → H' p = some (.frz o (.lst xs))
  ft : ∀ p o xs, H p = some (.frz o (.tup xs)) → H' p = some (.frz o (.tup xs))
structure LeH (H H' : Hp) : Prop where
  tup : ∀ p xs, H p = some (.tup xs) → H' p = some (.tup xs)
  fz : ∀ p o u, H p = some (.frz o u) → H' p = some (.frz o u)
theorem LeH.fl {H H' : Hp} (le : LeH H H') : ∀ p o xs, H p = some (.frz o (.lst xs)) → H' p = some (.frz o (.lst xs)) := fun p o xs h => le.fz p o _ h
theorem LeH.ft {H H' : Hp} (le : LeH H H') : ∀ p o xs, H p = some (.frz o (.tup xs)) → H' p = some (.frz o (.tup xs)) := fun p o xs h => le.fz p o _ h
theorem LeH.w {H H' : Hp} (le : LeH H H') : LeW H H' := ⟨le.tup, le.fl, le.ft⟩
theorem LeH.refl (H : Hp) : LeH H H := ⟨fun _ _ h => h, fun _ _ _ h => h⟩
theorem LeH.trans {H1 H2 H3 : Hp} (a : LeH H1 H2) (b : LeH H2 H3) : LeH H1 H3 :=
  ⟨fun p xs h => b.tup p xs (a.tup p xs h), fun p o xs h => b.fz p o xs (a.fz p o xs h)⟩
theorem LeH.new {H : Hp} {p : Addr} {o : HO} (h : H p = none) : LeH H (upd H p o) :=
  ⟨fun q xs e => by rw [upd_ne (ne_of_none e h)]; exact e, fun q u xs e => by rw [upd_ne (ne_of_none e h)]; exact e⟩
theorem LeH.put {H : Hp} {p : Addr} {o u : HO} (h : H p = some u) (m : Mut (some u)) : LeH H (upd H p o) := by
  have k : ∀ q v, H q = some v → ¬ Mut (some v) → q ≠ p := fun q v e n z => by
    subst z
    rw [h] at e
    cases e
    exact n m
  exact ⟨fun q xs e => by rw [upd_ne (k q _ e fun z => z)]; exact e, fun q u xs e => by rw [upd_ne (k q _ e fun z => z)]; exact e⟩

/-! ### data -/
inductive D where
  | non | bl (b : Bool) | int (i : Int) | str (x : Str) | tup (xs : List D) | rol (xs : List D) | ref (a : Addr)

/-- a list that is read alone, for good -/
def SqR (K : PySem.W.Frag) (H : Hp) (a : Addr) (xs : List V) : Prop :=
  (∃ o, H a = some (.frz o (.lst xs))) ∨
    ∃ (its : Array Value) (n : Nat), K.lookup a = some { cls := .type "list", data := .seq its n } ∧ its.size ≤ sizeLine ∧ Vals xs its.toList
theorem SqR.l {K : PySem.W.Frag} {H : Hp} {a : Addr} {xs : List V} (h : SqR K H a xs) : SqL K H a xs := h.elim (fun z => .inl (.inr z)) fun ⟨its, n, e, hz, r⟩ => .inr ⟨_, its, n, e, rfl, rfl, rfl, hz, r⟩
theorem SqR.le {K : PySem.W.Frag} {H H' : Hp} {a : Addr} {xs : List V} (le : LeH H H') (h : SqR K H a xs) : SqR K H' a xs :=
  h.elim (fun ⟨o, e⟩ => .inl ⟨o, le.fl _ _ _ e⟩) .inr
theorem SqR.leW {K : PySem.W.Frag} {H H' : Hp} {a : Addr} {xs : List V} (le : LeW H H') (h : SqR K H a xs) : SqR K H' a xs :=
  h.elim (fun ⟨o, e⟩ => .inl ⟨o, le.fl _ _ _ e⟩) .inr
/-- a new tuple's description: no dict of its own -/
def tupO (its : Array Value) (n : Nat) (xs : List V) : HO := .frz { cls := .type "tuple", data := .seq its n } (.tup xs)
/-- a tuple whose object is known -/
def SqTn (K : PySem.W.Frag) (H : Hp) (a : Addr) (xs : List V) : Prop :=
  (∃ its n, H a = some (tupO its n xs)) ∨
    ∃ (its : Array Value) (n : Nat), K.lookup a = some { cls := .type "tuple", data := .seq its n } ∧ its.size ≤ sizeLine ∧ Vals xs its.toList
theorem SqTn.t {K : PySem.W.Frag} {H : Hp} {a : Addr} {xs : List V} (h : SqTn K H a xs) : SqT K H a xs := h.elim (fun ⟨_, _, z⟩ => .inl (.inr ⟨_, z⟩)) fun ⟨its, n, e, hz, r⟩ => .inr ⟨_, its, n, e, rfl, rfl, hz, r⟩
instance {K : PySem.W.Frag} {H : Hp} {a : Addr} {xs : List V} : Coe (SqTn K H a xs) (SqT K H a xs) := ⟨SqTn.t⟩
theorem SqTn.le {K : PySem.W.Frag} {H H' : Hp} {a : Addr} {xs : List V} (le : LeH H H') (h : SqTn K H a xs) : SqTn K H' a xs :=
  h.elim (fun ⟨its, n, e⟩ => .inl ⟨its, n, le.ft _ _ _ e⟩) .inr
theorem SqTn.leW {K : PySem.W.Frag} {H H' : Hp} {a : Addr} {xs : List V} (le : LeW H H') (h : SqTn K H a xs) : SqTn K H' a xs :=
  h.elim (fun ⟨its, n, e⟩ => .inl ⟨its, n, le.ft _ _ _ e⟩) .inr

mutual
def RD (K : PySem.W.Frag) (H : Hp) : D → V → Prop
  | .non, v => v = .non
  | .bl b, v => v = .bl b
  | .int i, v => v = .int i
  | .str x, v => v = .str x
  | .tup ds, v => ∃ p xs, v = .ref p ∧ SqTn K H p xs ∧ RDs K H ds xs
  | .rol ds, v => ∃ p xs, v = .ref p ∧ SqR K H p xs ∧ RDs K H ds xs
  | .ref a, v => v = .ref a
def RDs (K : PySem.W.Frag) (H : Hp) : List D → List V → Prop
  | [], vs => vs = []
  | d :: ds, vs => ∃ v r, vs = v :: r ∧ RD K H d v ∧ RDs K H ds r
end

section
variable {w : World} {K : PySem.W.Frag} {H H' : Hp}
mutual
theorem RD.le (le : LeH H H') : ∀ {d : D} {v : V}, RD K H d v → RD K H' d v
  | .non, _, h => h
  | .bl _, _, h => h
  | .int _, _, h => h
  | .str _, _, h => h
  | .tup ds, _, h => by
    obtain ⟨p, xs, e, t, r⟩ : ∃ p xs, _ = V.ref p ∧ SqTn K H p xs ∧ RDs K H ds xs := h
    exact ⟨p, xs, e, SqTn.le le t, RDs.le le r⟩
  | .rol ds, _, h => by
    obtain ⟨p, xs, e, t, r⟩ : ∃ p xs, _ = V.ref p ∧ SqR K H p xs ∧ RDs K H ds xs := h
    exact ⟨p, xs, e, t.le le, RDs.le le r⟩
  | .ref _, _, h => h
theorem RDs.le (le : LeH H H') : ∀ {ds : List D} {vs : List V}, RDs K H ds vs → RDs K H' ds vs
  | [], _, h => h
  | _ :: _, _, h => by
    obtain ⟨v, r, e, h1, h2⟩ := h
    exact ⟨v, r, e, RD.le le h1, RDs.le le h2⟩
end
mutual
theorem RD.leW (le : LeW H H') : ∀ {d : D} {v : V}, RD K H d v → RD K H' d v
  | .non, _, h => h
  | .bl _, _, h => h
  | .int _, _, h => h
  | .str _, _, h => h
  | .tup ds, _, h => by
    obtain ⟨p, xs, e, t, r⟩ : ∃ p xs, _ = V.ref p ∧ SqTn K H p xs ∧ RDs K H ds xs := h
    exact ⟨p, xs, e, SqTn.leW le t, RDs.leW le r⟩
  | .rol ds, _, h => by
    obtain ⟨p, xs, e, t, r⟩ : ∃ p xs, _ = V.ref p ∧ SqR K H p xs ∧ RDs K H ds xs := h
    exact ⟨p, xs, e, t.leW le, RDs.leW le r⟩
  | .ref _, _, h => h
theorem RDs.leW (le : LeW H H') : ∀ {ds : List D} {vs : List V}, RDs K H ds vs → RDs K H' ds vs
  | [], _, h => h
  | _ :: _, _, h => by
    obtain ⟨v, r, e, h1, h2⟩ := h
    exact ⟨v, r, e, RD.leW le h1, RDs.leW le h2⟩
end
theorem RDs.nil : RDs K H [] [] := rfl
theorem RDs.cons {d : D} {ds : List D} {v : V} {vs : List V} (a : RD K H d v) (b : RDs K H ds vs) : RDs K H (d :: ds) (v :: vs) := ⟨v, vs, rfl, a, b⟩
theorem RDs.length : ∀ {ds : List D} {vs : List V}, RDs K H ds vs → ds.length = vs.length
  | [], _, h => by cases h; rfl
  | _ :: ds, _, h => by
    obtain ⟨v, r, rfl, _, h2⟩ := h
    simp [RDs.length h2]
theorem RDs.get : ∀ {ds : List D} {vs : List V} {i : Nat} {d : D}, RDs K H ds vs → ds[i]? = some d → ∃ v, vs[i]? = some v ∧ RD K H d v
  | [], _, _, _, _, e => by simp at e
  | _ :: _, _, 0, _, h, e => by
    obtain ⟨v, r, rfl, h1, h2⟩ := h
    simp at e
    subst e
    exact ⟨v, rfl, h1⟩
  | _ :: ds, _, i + 1, _, h, e => by
    obtain ⟨v, r, rfl, h1, h2⟩ := h
    obtain ⟨u, e1, e2⟩ := RDs.get (i := i) h2 (by simpa using e)
    exact ⟨u, by simpa using e1, e2⟩
theorem RDs.got : ∀ {ds : List D} {vs : List V} {i : Nat} {v : V}, RDs K H ds vs → vs[i]? = some v → ∃ d, ds[i]? = some d ∧ RD K H d v
  | [], _, _, _, h, e => by cases h; simp at e
  | _ :: _, _, 0, _, h, e => by
    obtain ⟨v, r, rfl, h1, h2⟩ := h
    simp at e
    subst e
    exact ⟨_, rfl, h1⟩
  | _ :: ds, _, i + 1, _, h, e => by
    obtain ⟨v, r, rfl, h1, h2⟩ := h
    obtain ⟨u, e1, e2⟩ := RDs.got (i := i) h2 (by simpa using e)
    exact ⟨u, by simpa using e1, e2⟩
theorem RDs.append : ∀ {ds es : List D} {vs us : List V}, RDs K H ds vs → RDs K H es us → RDs K H (ds ++ es) (vs ++ us)
  | [], _, _, _, h, k => by cases h; exact k
  | _ :: _, _, _, _, h, k => by
    obtain ⟨v, r, rfl, h1, h2⟩ := h
    exact ⟨v, r ++ _, rfl, h1, RDs.append h2 k⟩
theorem RDs.snoc {ds : List D} {vs : List V} {d : D} {v : V} (h : RDs K H ds vs) (k : RD K H d v) : RDs K H (ds ++ [d]) (vs ++ [v]) := h.append (.cons k .nil)
theorem RDs.set : ∀ {ds : List D} {vs : List V} {d : D} {v : V} (i : Nat), RDs K H ds vs → RD K H d v → RDs K H (ds.set i d) (vs.set i v)
  | [], _, _, _, _, h, _ => by cases h; rfl
  | _ :: _, _, _, _, 0, h, k => by
    obtain ⟨v, r, rfl, h1, h2⟩ := h
    exact ⟨_, r, rfl, k, h2⟩
  | _ :: _, _, _, _, i + 1, h, k => by
    obtain ⟨v, r, rfl, h1, h2⟩ := h
    exact ⟨v, _, rfl, h1, RDs.set i h2 k⟩
theorem RDs.take : ∀ {ds : List D} {vs : List V} (n : Nat), RDs K H ds vs → RDs K H (ds.take n) (vs.take n)
  | [], _, _, h => by cases h; simp [RDs]
  | _ :: _, _, 0, h => by simp [RDs]
  | _ :: _, _, n + 1, h => by
    obtain ⟨v, r, rfl, h1, h2⟩ := h
    exact ⟨v, _, rfl, h1, RDs.take n h2⟩
theorem RDs.drop : ∀ {ds : List D} {vs : List V} (n : Nat), RDs K H ds vs → RDs K H (ds.drop n) (vs.drop n)
  | [], _, _, h => by cases h; simp [RDs]
  | _ :: _, _, 0, h => h
  | _ :: _, _, n + 1, h => by
    obtain ⟨v, r, rfl, h1, h2⟩ := h
    exact RDs.drop n h2
theorem RDs.reverse : ∀ {ds : List D} {vs : List V}, RDs K H ds vs → RDs K H ds.reverse vs.reverse
  | [], _, h => by cases h; rfl
  | _ :: _, _, h => by
    obtain ⟨v, r, rfl, h1, h2⟩ := h
    rw [List.reverse_cons, List.reverse_cons]
    exact (RDs.reverse h2).snoc h1
theorem RDs.dropLast : ∀ {ds : List D} {vs : List V}, RDs K H ds vs → RDs K H ds.dropLast vs.dropLast := fun {ds vs} h => by
  rw [List.dropLast_eq_take, List.dropLast_eq_take, h.length]
  exact h.take _
theorem RDs.eraseIdx : ∀ {ds : List D} {vs : List V} (n : Nat), RDs K H ds vs → RDs K H (ds.eraseIdx n) (vs.eraseIdx n)
  | [], _, _, h => by cases h; rfl
  | _ :: _, _, 0, h => by
    obtain ⟨v, r, rfl, h1, h2⟩ := h
    exact h2
  | _ :: _, _, n + 1, h => by
    obtain ⟨v, r, rfl, h1, h2⟩ := h
    exact ⟨v, _, rfl, h1, RDs.eraseIdx n h2⟩
theorem RDs.ints : ∀ {ns : List Int} {vs : List V}, RDs K H (ns.map D.int) vs ↔ vs = ns.map V.int
  | [], _ => Iff.rfl
  | n :: ns, vs => by
    constructor
    · rintro ⟨v, r, rfl, h1, h2⟩
      cases h1
      rw [RDs.ints.mp h2]
      rfl
    · rintro rfl
      exact ⟨_, _, rfl, rfl, RDs.ints.mpr rfl⟩
theorem RDs.bls : ∀ {ns : List Bool} {vs : List V}, RDs K H (ns.map D.bl) vs ↔ vs = ns.map V.bl
  | [], _ => Iff.rfl
  | n :: ns, vs => by
    constructor
    · rintro ⟨v, r, rfl, h1, h2⟩
      cases h1
      rw [RDs.bls.mp h2]
      rfl
    · rintro rfl
      exact ⟨_, _, rfl, rfl, RDs.bls.mpr rfl⟩
end

/-! ### tables -/
section
variable {κ α : Type} [DecidableEq κ]
def lk : List (κ × α) → κ → Option α
  | [], _ => none
  | (j, v) :: r, k => if j = k then some v else lk r k
def pt (l : List (κ × α)) (k : κ) (v : α) : List (κ × α) :=
  if (lk l k).isSome then l.map (fun q => if q.1 = k then (q.1, v) else q) else l ++ [(k, v)]
def dr (l : List (κ × α)) (k : κ) : List (κ × α) := l.filter fun q => decide (q.1 ≠ k)
end
def RKs {κ : Type} (K : PySem.W.Frag) (H : Hp) : List (κ × D) → List (κ × V) → Prop
  | [], ws => ws = []
  | (k, d) :: r, ws => ∃ v s, ws = (k, v) :: s ∧ RD K H d v ∧ RKs K H r s
section
variable {w : World} {K : PySem.W.Frag} {H H' : Hp} {κ : Type}
theorem RKs.le (le : LeH H H') : ∀ {kvs : List (κ × D)} {ws : List (κ × V)}, RKs K H kvs ws → RKs K H' kvs ws
  | [], _, h => h
  | (_, _) :: _, _, h => by
    obtain ⟨v, r, e, h1, h2⟩ := h
    exact ⟨v, r, e, h1.le le, RKs.le le h2⟩
theorem RKs.leW (le : LeW H H') : ∀ {kvs : List (κ × D)} {ws : List (κ × V)}, RKs K H kvs ws → RKs K H' kvs ws
  | [], _, h => h
  | (_, _) :: _, _, h => by
    obtain ⟨v, r, e, h1, h2⟩ := h
    exact ⟨v, r, e, h1.leW le, RKs.leW le h2⟩
theorem RKs.length : ∀ {kvs : List (κ × D)} {ws : List (κ × V)}, RKs K H kvs ws → kvs.length = ws.length
  | [], _, h => by cases h; rfl
  | (_, _) :: _, _, h => by
    obtain ⟨v, r, rfl, h1, h2⟩ := h
    simp [RKs.length h2]
theorem RKs.append : ∀ {kvs ls : List (κ × D)} {ws us : List (κ × V)}, RKs K H kvs ws → RKs K H ls us → RKs K H (kvs ++ ls) (ws ++ us)
  | [], _, _, _, h, k => by cases h; exact k
  | (_, _) :: _, _, _, _, h, k => by
    obtain ⟨v, r, rfl, h1, h2⟩ := h
    exact ⟨v, r ++ _, rfl, h1, RKs.append h2 k⟩
theorem RKs.get : ∀ {kvs : List (κ × D)} {ws : List (κ × V)} {i : Nat} {k : κ} {v : V}, RKs K H kvs ws → ws[i]? = some (k, v) → ∃ d, kvs[i]? = some (k, d) ∧ RD K H d v
  | [], _, _, _, _, h, e => by cases h; simp at e
  | (_, _) :: _, _, 0, _, _, h, e => by
    obtain ⟨v, r, rfl, h1, h2⟩ := h
    simp at e
    obtain ⟨rfl, rfl⟩ := e
    exact ⟨_, rfl, h1⟩
  | (_, _) :: _, _, i + 1, _, _, h, e => by
    obtain ⟨v, r, rfl, h1, h2⟩ := h
    obtain ⟨u, e1, e2⟩ := RKs.get (i := i) h2 (by simpa using e)
    exact ⟨u, by simpa using e1, e2⟩
variable [DecidableEq κ]
theorem RKs.lk : ∀ {kvs : List (κ × D)} {ws : List (κ × V)} (k : κ), RKs K H kvs ws → match Dt.lk kvs k, valV ws k with | some d, some v => RD K H d v | none, none => True | _, _ => False
  | [], _, k, h => by cases h; simp [Dt.lk, valV]
  | (j, d) :: r, _, k, h => by
    obtain ⟨v, s, rfl, h1, h2⟩ := h
    by_cases e : j = k
    · rw [valV_pos e]
      simp [Dt.lk, e, h1]
    · rw [valV_neg e]
      simp only [Dt.lk, if_neg e]
      exact RKs.lk k h2
theorem RKs.nn {kvs : List (κ × D)} {ws : List (κ × V)} {k : κ} (h : RKs K H kvs ws) (e : Dt.lk kvs k = none) : valV ws k = none := by
  have := h.lk k
  rw [e] at this
  cases q : valV ws k with
  | none => rfl
  | some v => rw [q] at this; exact this.elim
theorem RKs.ss {kvs : List (κ × D)} {ws : List (κ × V)} {k : κ} {d : D} (h : RKs K H kvs ws) (e : Dt.lk kvs k = some d) : ∃ v, valV ws k = some v ∧ RD K H d v := by
  have := h.lk k
  rw [e] at this
  cases q : valV ws k with
  | none => rw [q] at this; exact this.elim
  | some v => rw [q] at this; exact ⟨v, rfl, this⟩
theorem RKs.isSome {kvs : List (κ × D)} {ws : List (κ × V)} (k : κ) (h : RKs K H kvs ws) : (valV ws k).isSome = (Dt.lk kvs k).isSome := by
  cases e : Dt.lk kvs k with
  | none => rw [h.nn e]; rfl
  | some d =>
    obtain ⟨v, q, _⟩ := h.ss e
    rw [q]
    rfl
theorem RKs.mapv {k : κ} {d : D} {v : V} (rv : RD K H d v) : ∀ {kvs : List (κ × D)} {ws : List (κ × V)}, RKs K H kvs ws →
    RKs K H (kvs.map fun q => if q.1 = k then (q.1, d) else q) (ws.map fun q => if q.1 = k then (q.1, v) else q)
  | [], _, h => by cases h; rfl
  | (j, _) :: _, _, h => by
    obtain ⟨w, s, rfl, h1, h2⟩ := h
    by_cases e : j = k
    · simp only [List.map_cons, if_pos e]
      exact ⟨v, _, rfl, rv, RKs.mapv rv h2⟩
    · simp only [List.map_cons, if_neg e]
      exact ⟨w, _, rfl, h1, RKs.mapv rv h2⟩
theorem RKs.pt {kvs : List (κ × D)} {ws : List (κ × V)} {k : κ} {d : D} {v : V} (h : RKs K H kvs ws) (rv : RD K H d v) : RKs K H (Dt.pt kvs k d) (putK ws k v) := by
  unfold Dt.pt putK
  rw [valV_any, h.isSome k]
  split
  · exact RKs.mapv rv h
  · exact h.append ⟨v, [], rfl, rv, rfl⟩
theorem RKs.dr {k : κ} : ∀ {kvs : List (κ × D)} {ws : List (κ × V)}, RKs K H kvs ws → RKs K H (Dt.dr kvs k) (dropK ws k)
  | [], _, h => by cases h; rfl
  | (j, _) :: _, _, h => by
    obtain ⟨w, s, rfl, h1, h2⟩ := h
    unfold Dt.dr dropK
    by_cases e : j = k
    · simp only [List.filter_cons, decide_eq_true_eq, ne_eq, e, not_true, decide_false, Bool.false_eq_true, if_false]
      exact RKs.dr h2
    · simp only [List.filter_cons, decide_eq_true_eq, ne_eq, e, not_false_eq_true, decide_true, if_true]
      exact ⟨w, _, rfl, h1, RKs.dr h2⟩
end

/-! ### data may be told apart -/
mutual
def deq : D → D → Bool
  | .non, .non => true
  | .bl a, .bl b => decide (a = b)
  | .int a, .int b => decide (a = b)
  | .str a, .str b => decide (a = b)
  | .tup a, .tup b => deqs a b
  | .rol a, .rol b => deqs a b
  | .ref a, .ref b => decide (a = b)
  | _, _ => false
def deqs : List D → List D → Bool
  | [], [] => true
  | a :: as, b :: bs => deq a b && deqs as bs
  | _, _ => false
end
mutual
theorem deq_self : ∀ a : D, deq a a = true
  | .non => rfl
  | .bl a => by simp [deq]
  | .int a => by simp [deq]
  | .str a => by simp [deq]
  | .tup a => by rw [deq]; exact deqs_self a
  | .rol a => by rw [deq]; exact deqs_self a
  | .ref a => by simp [deq]
theorem deqs_self : ∀ a : List D, deqs a a = true
  | [] => rfl
  | a :: as => by rw [deqs, deq_self a, deqs_self as]; rfl
end
mutual
theorem of_deq : ∀ a b : D, deq a b = true → a = b
  | .non, b, h => by cases b <;> simp [deq] at h; rfl
  | .bl a, b, h => by cases b <;> simp [deq] at h; rw [h]
  | .int a, b, h => by cases b <;> simp [deq] at h; rw [h]
  | .str a, b, h => by cases b <;> simp [deq] at h; rw [h]
  | .tup a, b, h => by
    cases b <;> simp [deq] at h
    rw [of_deqs a _ h]
  | .rol a, b, h => by
    cases b <;> simp [deq] at h
    rw [of_deqs a _ h]
  | .ref a, b, h => by cases b <;> simp [deq] at h; rw [h]
theorem of_deqs : ∀ a b : List D, deqs a b = true → a = b
  | [], b, h => by cases b <;> simp [deqs] at h; rfl
  | x :: xs, b, h => by
    cases b with
    | nil => simp [deqs] at h
    | cons y ys =>
      simp [deqs] at h
      rw [of_deq x y h.1, of_deqs xs ys h.2]
end
instance : DecidableEq D := fun a b => if h : deq a b = true then .isTrue (of_deq a b h) else .isFalse fun e => h (e ▸ deq_self a)
/-! ### keys that are tuples -/
mutual
def nkey : D → Option NestedKey
  | .non => some .none
  | .int i => some (.num i)
  | .str x => some (.text x)
  | .tup ds => match nkeys ds with | some ks => some (.tup ks) | none => none
  | _ => none
def nkeys : List D → Option (List NestedKey)
  | [] => some []
  | d :: ds => match nkey d, nkeys ds with | some k, some ks => some (k :: ks) | _, _ => none
end
mutual
theorem nkey_inj : ∀ (a b : D) (k : NestedKey), nkey a = some k → nkey b = some k → a = b
  | .non, b, k, h, h' => by
    simp only [nkey, Option.some.injEq] at h
    subst h
    cases b with
    | tup ds => simp only [nkey] at h'; split at h' <;> cases h'
    | non => rfl
    | _ => simp [nkey] at h'
  | .int i, b, k, h, h' => by
    simp only [nkey, Option.some.injEq] at h
    subst h
    cases b with
    | tup ds => simp only [nkey] at h'; split at h' <;> cases h'
    | int j => simp [nkey] at h'; rw [h']
    | _ => simp [nkey] at h'
  | .str i, b, k, h, h' => by
    simp only [nkey, Option.some.injEq] at h
    subst h
    cases b with
    | tup ds => simp only [nkey] at h'; split at h' <;> cases h'
    | str j => simp [nkey] at h'; rw [h']
    | _ => simp [nkey] at h'
  | .tup ds, b, k, h, h' => by
    simp only [nkey] at h
    split at h
    · rename_i ks e
      cases h
      cases b with
      | tup es =>
        simp only [nkey] at h'
        split at h'
        · rename_i ks' e'
          cases h'
          rw [nkeys_inj ds es _ e e']
        · cases h'
      | _ => simp [nkey] at h'
    · cases h
  | .bl _, _, _, h, _ => by simp [nkey] at h
  | .rol _, _, _, h, _ => by simp [nkey] at h
  | .ref _, _, _, h, _ => by simp [nkey] at h
theorem nkeys_inj : ∀ (a b : List D) (k : List NestedKey), nkeys a = some k → nkeys b = some k → a = b
  | [], b, k, h, h' => by
    simp only [nkeys, Option.some.injEq] at h
    subst h
    cases b with
    | nil => rfl
    | cons y ys => simp only [nkeys] at h'; split at h' <;> cases h'
  | x :: xs, b, k, h, h' => by
    simp only [nkeys] at h
    split at h
    · rename_i k1 ks e1 e2
      cases h
      cases b with
      | nil => simp [nkeys] at h'
      | cons y ys =>
        simp only [nkeys] at h'
        split at h'
        · rename_i k2 ks2 f1 f2
          cases h'
          rw [nkey_inj x y _ e1 f1, nkeys_inj xs ys _ e2 f2]
        · cases h'
    · cases h
end
/-- a dict's rows as they lie: the key, its address, the value -/
def RawRows (w : World) (rows : List (NestedKey × Addr × V)) (a : Addr) (h : Heap) : Prop := (a == sysModules) = false ∧ ∃ o es ep, h.get? a = some o ∧ o.ExactDict ∧ o.data = .dict es ep ∧
  Paired (fun (r : NestedKey × Addr × V) (e : DictEntry) => e.hash = r.1.hash w ∧ e.key = .ref r.2.1 ∧ RelV r.2.2 e.val) rows es.toList
abbrev dnHO (w : World) (rows : List (NestedKey × Addr × V)) (a : Addr) : HO := .ext (RawRows w rows a)
/-- rows beside keys and values -/
def RRows (K : PySem.W.Frag) (H : Hp) : List (D × D) → List (NestedKey × Addr × V) → Prop
  | [], rows => rows = []
  | (k, d) :: r, rows => ∃ nk b v s, rows = (nk, b, v) :: s ∧ nkey k = some nk ∧ nk.depth ≤ 8 ∧ RD K H k (.ref b) ∧ RD K H d v ∧ RRows K H r s
theorem RRows.le {K : PySem.W.Frag} {H H' : Hp} (le : LeH H H') : ∀ {kvs : List (D × D)} {rows : List (NestedKey × Addr × V)}, RRows K H kvs rows → RRows K H' kvs rows
  | [], _, h => h
  | (_, _) :: _, _, ⟨nk, b, v, s, e, e1, e2, r1, r2, h⟩ => ⟨nk, b, v, s, e, e1, e2, r1.le le, r2.le le, RRows.le le h⟩
theorem RRows.leW {K : PySem.W.Frag} {H H' : Hp} (le : LeW H H') : ∀ {kvs : List (D × D)} {rows : List (NestedKey × Addr × V)}, RRows K H kvs rows → RRows K H' kvs rows
  | [], _, h => h
  | (_, _) :: _, _, ⟨nk, b, v, s, e, e1, e2, r1, r2, h⟩ => ⟨nk, b, v, s, e, e1, e2, r1.leW le, r2.leW le, RRows.leW le h⟩
/-! ### the data heap -/
inductive Ob where
  | lst (xs : List D) | dK (kvs : List (Key × D)) | dN (kvs : List (D × D)) | ins (C : Addr) (fs : List (Str × D))
  | exc (C dd : Addr) | xd (fs : List (Str × D)) | ex0 (C : Addr) | ex1 (C dx : Addr) | xm (fs : List (Str × D))
  | fK (kvs : List (Key × D)) | fN (kvs : List (D × D))
abbrev DH := Addr → Option Ob
def upo (S : DH) (a : Addr) (o : Ob) : DH := fun b => if b = a then some o else S b
@[simp] theorem upo_same {S : DH} {a : Addr} {o : Ob} : upo S a o a = some o := if_pos rfl
theorem upo_ne {S : DH} {a b : Addr} {o : Ob} (h : b ≠ a) : upo S a o b = S b := if_neg h
@[simp] theorem upo_upo {S : DH} {a : Addr} {o u : Ob} : upo (upo S a o) a u = upo S a u := by
  funext b
  unfold upo
  split <;> rfl
/-- a new object o: p its address, the heap with it -/
def newO (S : DH) (o : Ob) (Q : Addr → DH → Prop) : Prop := ∀ p, S p = none → Q p (upo S p o)
/-- an exception: its class, where its fields lie -/
def excP (C dd a : Addr) (h : Heap) : Prop := ∃ (oe : Obj) (vs : Array Value), h.get? a = some oe ∧ oe.cls = .ref C ∧ oe.dict = some dd ∧ oe.data = .fields vs
abbrev excHO (C dd a : Addr) : HO := .ext (excP C dd a)
def ROb (w : World) (K : PySem.W.Frag) (H : Hp) (a : Addr) : Ob → Prop
  | .lst ds => ∃ xs, H a = some (.lst xs) ∧ RDs K H ds xs
  | .dK kvs => ∃ ws, H a = some (.dK ws) ∧ RKs K H kvs ws
  | .dN kvs => ∃ rows, H a = some (dnHO w rows a) ∧ kvs.length ≤ sizeLine ∧ (kvs.map (·.1)).Nodup ∧ RRows K H kvs rows
  | .ins C fs => ∃ dx ws, H a = some (.ins C dx ws) ∧ RKs K H fs ws
  | .exc C dd => H a = some (excHO C dd a)
  | .xd fs => ∃ ws, H a = some (.xd ws) ∧ RKs K H fs ws
  | .ex0 C => H a = some (exo a C none)
  | .ex1 C dx => H a = some (exo a C (some dx))
  | .xm fs => ∃ ws, H a = some (exd a ws) ∧ RKs K H fs ws
  | .fK kvs => ∃ ws, (∃ o, H a = some (.frz o (.dK ws))) ∧ RKs K H kvs ws
  | .fN kvs => ∃ rows, (∃ o, H a = some (.frz o (dnHO w rows a))) ∧ kvs.length ≤ sizeLine ∧ (kvs.map (·.1)).Nodup ∧ RRows K H kvs rows
def Rep (w : World) (K : PySem.W.Frag) (S : DH) (H : Hp) : Prop := ∀ a o, S a = some o → ROb w K H a o
section
variable {w : World} {K : PySem.W.Frag} {H H' : Hp} {S : DH} {a p : Addr} {o : Ob}
theorem ROb.mut (h : ROb w K H a o) : ∃ u, H a = some u ∧ True := by
  cases o with
  | lst _ => obtain ⟨xs, e, _⟩ := h; exact ⟨_, e, trivial⟩
  | dK _ => obtain ⟨xs, e, _⟩ := h; exact ⟨_, e, trivial⟩
  | dN _ => obtain ⟨xs, e, _⟩ := h; exact ⟨_, e, trivial⟩
  | ins _ _ => obtain ⟨dx, xs, e, _⟩ := h; exact ⟨_, e, trivial⟩
  | exc _ _ => exact ⟨_, h, trivial⟩
  | ex0 _ => exact ⟨_, h, trivial⟩
  | ex1 _ _ => exact ⟨_, h, trivial⟩
  | xd _ => obtain ⟨xs, e, _⟩ := h; exact ⟨_, e, trivial⟩
  | xm _ => obtain ⟨xs, e, _⟩ := h; exact ⟨_, e, trivial⟩
  | fK _ => obtain ⟨xs, ⟨o, e⟩, _⟩ := h; exact ⟨_, e, trivial⟩
  | fN _ => obtain ⟨xs, ⟨o, e⟩, _⟩ := h; exact ⟨_, e, trivial⟩
theorem ROb.at (h : ROb w K H a o) (le : LeH H H') (e : H' a = H a) : ROb w K H' a o := by
  cases o with
  | lst _ => obtain ⟨xs, q, r⟩ := h; exact ⟨xs, e.trans q, r.le le⟩
  | dK _ => obtain ⟨xs, q, r⟩ := h; exact ⟨xs, e.trans q, r.le le⟩
  | dN _ => obtain ⟨xs, q, l, n, r⟩ := h; exact ⟨xs, e.trans q, l, n, r.le le⟩
  | ins _ _ => obtain ⟨dx, xs, q, r⟩ := h; exact ⟨dx, xs, e.trans q, r.le le⟩
  | exc _ _ => exact e.trans h
  | ex0 _ => exact e.trans h
  | ex1 _ _ => exact e.trans h
  | xd _ => obtain ⟨xs, q, r⟩ := h; exact ⟨xs, e.trans q, r.le le⟩
  | xm _ => obtain ⟨xs, q, r⟩ := h; exact ⟨xs, e.trans q, r.le le⟩
  | fK _ => obtain ⟨xs, ⟨o, q⟩, r⟩ := h; exact ⟨xs, ⟨o, e.trans q⟩, r.le le⟩
  | fN _ => obtain ⟨xs, ⟨o, q⟩, l, n, r⟩ := h; exact ⟨xs, ⟨o, e.trans q⟩, l, n, r.le le⟩
theorem Rep.free (r : Rep w K S H) (h : H p = none) : S p = none := by
  cases e : S p with
  | none => rfl
  | some o =>
    obtain ⟨u, q, _⟩ := (r p o e).mut
    rw [h] at q
    cases q
/-- a new object that the data heap does not tell -/
theorem Rep.garb {u : HO} (r : Rep w K S H) (h : H p = none) : Rep w K S (upd H p u) := fun b o e => by
  obtain ⟨v, q, _⟩ := (r b o e).mut
  exact (r b o e).at (LeH.new h) (upd_ne (ne_of_none q h))
theorem Rep.new {u : HO} (r : Rep w K S H) (h : H p = none) (n : ROb w K (upd H p u) p o) : Rep w K (upo S p o) (upd H p u) := fun b ob e => by
  by_cases z : b = p
  · subst z
    rw [upo_same] at e
    cases e
    exact n
  · rw [upo_ne z] at e
    exact (r b ob e).at (LeH.new h) (upd_ne z)
theorem Rep.put {u v : HO} (r : Rep w K S H) (h : H p = some v) (m : Mut (some v)) (n : ROb w K (upd H p u) p o) : Rep w K (upo S p o) (upd H p u) := fun b ob e => by
  by_cases z : b = p
  · subst z
    rw [upo_same] at e
    cases e
    exact n
  · rw [upo_ne z] at e
    exact (r b ob e).at (LeH.put h m) (upd_ne z)
end

def opt {α : Type} (o : Option α) (k : α → Prop) : Prop := match o with | some x => k x | none => False
@[simp] theorem opt_some {α : Type} (x : α) (k : α → Prop) : opt (some x) k = k x := rfl
@[simp] theorem opt_none {α : Type} (k : α → Prop) : opt none k = False := rfl
theorem opt_mono {α : Type} {o : Option α} {k k' : α → Prop} (h : ∀ x, k x → k' x) (q : opt o k) : opt o k' := by
  cases o with
  | none => exact q
  | some x => exact h x q
theorem opt_ex {α : Type} {o : Option α} {k : α → Prop} (q : opt o k) : ∃ x, o = some x ∧ k x := by
  cases o with
  | none => exact q.elim
  | some x => exact ⟨x, rfl, q⟩
/-- the items of a list -/
def seqD (S : DH) (d : D) : Option (List D) := match d with
  | .rol xs => some xs
  | .ref a => (match S a with | some (.lst xs) => some xs | _ => none)
  | _ => none
section
variable {S : DH}
@[simp] theorem seqD_rol (xs : List D) : seqD S (.rol xs) = some xs := rfl
@[simp] theorem seqD_ref (a : Addr) : seqD S (.ref a) = (match S a with | some (.lst xs) => some xs | _ => none) := rfl
@[simp] theorem seqD_tup (xs : List D) : seqD S (.tup xs) = none := rfl
@[simp] theorem seqD_str (xs : Str) : seqD S (.str xs) = none := rfl
@[simp] theorem seqD_int (xs : Int) : seqD S (.int xs) = none := rfl
@[simp] theorem seqD_non : seqD S .non = none := rfl
@[simp] theorem seqD_bl (b : Bool) : seqD S (.bl b) = none := rfl
end
/-- a list of ours, written or not -/
def SqX (K : PySem.W.Frag) (H : Hp) (a : Addr) (xs : List V) : Prop := H a = some (.lst xs) ∨ SqR K H a xs
theorem SqX.l {K : PySem.W.Frag} {H : Hp} {a : Addr} {xs : List V} (h : SqX K H a xs) : SqL K H a xs := h.elim (fun z => .inl (.inl z)) SqR.l
theorem seqD_rd {w : World} {K : PySem.W.Frag} {S : DH} {H : Hp} {d : D} {v : V} {ds : List D} (rep : Rep w K S H) (rd : RD K H d v) (e : seqD S d = some ds) : ∃ a xs, v = .ref a ∧ SqX K H a xs ∧ RDs K H ds xs := by
  cases d with
  | rol xs =>
    cases e
    obtain ⟨p, ys, rfl, sq, rs⟩ : ∃ p xs, v = V.ref p ∧ SqR K H p xs ∧ RDs K H ds xs := rd
    exact ⟨p, ys, rfl, .inr sq, rs⟩
  | ref a =>
    simp only [seqD_ref] at e
    split at e
    · rename_i xs ea
      cases e
      obtain ⟨ys, e0, rs⟩ : ∃ ys, H a = some (.lst ys) ∧ RDs K H ds ys := rep a _ ea
      exact ⟨a, ys, rd, .inl e0, rs⟩
    · cases e
  | _ => simp at e
theorem sqX_get {X : Cx} {pins : List (Addr × Obj)} {σ : L2.St} {H : Hp} {s : Shared} {a : Addr} {xs : List V} (I : Inv X pins σ H s) (h : SqX X.K H a xs) :
    ∃ (its : List Value) (n : Nat), Vals xs its ∧ xs.length ≤ sizeLine ∧ xs.length = its.length ∧ s.heap.get? a = some { cls := .type "list", data := .seq its.toArray n } := by
  rcases h with h | ⟨o, h⟩ | ⟨its, n, h, hz, r⟩
  · obtain ⟨z, its, n, r, e⟩ := I.hok a _ h
    exact ⟨its, n, r, z, r.length, e⟩
  · obtain ⟨_, z, its, n, r, e⟩ := I.hok a _ h
    exact ⟨its, n, r, z, r.length, e⟩
  · exact ⟨its.toList, n, r, by rw [r.length, Array.length_toList]; exact hz, r.length, by simpa using I.kIn a _ h⟩
def catD (S : DH) (d e : D) (k : List D → Prop) : Prop := opt (seqD S d) fun xs => opt (seqD S e) fun ys => xs.length + ys.length ≤ sizeLine ∧ k (xs ++ ys)
/-! ### slots -/
abbrev DSt := List (Option D)
abbrev DK := D → DH → Prop
/-- what is wanted of an exception: its class, its fields, the slots, the heap -/
abbrev DW := Addr → List (Str × D) → DSt → DH → Prop
abbrev DTE := DW → DSt → DH → DK → Prop
abbrev DTT := DW → DSt → DH → (Bool → DH → Prop) → Prop
abbrev DTA := DW → DSt → DH → (List D → DH → Prop) → Prop
structure RSt (K : PySem.W.Frag) (H : Hp) (τ : DSt) (σ : St) : Prop where
  len : τ.length = σ.length
  get : ∀ (i : Nat) d, τ[i]? = some (some d) → ∃ v, σ[i]? = some (some v) ∧ RD K H d v
structure Rel (w : World) (K : PySem.W.Frag) (τ : DSt) (S : DH) (σ : St) (H : Hp) : Prop where
  st : RSt K H τ σ
  rep : Rep w K S H
theorem RSt.le {K : PySem.W.Frag} {H H' : Hp} {τ : DSt} {σ : St} (le : LeH H H') (r : RSt K H τ σ) : RSt K H' τ σ := ⟨r.len, fun i d e => by
  obtain ⟨v, q, rv⟩ := r.get i d e
  exact ⟨v, q, rv.le le⟩⟩
theorem RSt.set {K : PySem.W.Frag} {H : Hp} {τ : DSt} {σ : St} (r : RSt K H τ σ) (i : Nat) {d : D} {v : V} (rv : RD K H d v) : RSt K H (τ.set i (some d)) (σ.set i (some v)) := by
  refine ⟨by simp [r.len], fun j e h => ?_⟩
  rw [List.getElem?_set] at h ⊢
  by_cases z : i = j
  · subst z
    rw [if_pos rfl] at h
    rw [if_pos rfl]
    by_cases l : i < τ.length
    · rw [if_pos l] at h
      cases h
      rw [if_pos (by rw [← r.len]; exact l)]
      exact ⟨v, rfl, rv⟩
    · rw [if_neg l] at h
      cases h
  · rw [if_neg z] at h
    rw [if_neg z]
    exact r.get j e h
theorem Rel.le {w : World} {K : PySem.W.Frag} {H H' : Hp} {τ : DSt} {S S' : DH} {σ : St} (r : Rel w K τ S σ H) (le : LeH H H') (h : Rep w K S' H') : Rel w K τ S' σ H' := ⟨r.st.le le, h⟩

/-! ### wishes, lifts -/
def upW (w : World) (K : PySem.W.Frag) (E : DW) (H0 : Hp) : WX := fun cls d σ H => ∃ (C : Addr) (fs : List (Str × D)) (τ : DSt) (S : DH) (dd : Addr) (ws : List (Str × V)),
  cls = .ref C ∧ d = some dd ∧ LeH H0 H ∧ Rel w K τ S σ H ∧ H dd = some (.xd ws) ∧ RKs K H fs ws ∧ S dd = none ∧ E C fs τ S
theorem upW.imp {w : World} {K : PySem.W.Frag} {E E' : DW} {H0 H1 : Hp} (le : LeH H0 H1) (k : ∀ C fs τ S, E C fs τ S → E' C fs τ S) {cls : Value} {d : Option Addr} {σ : St} {H : Hp} (h : upW w K E H1 cls d σ H) : upW w K E' H0 cls d σ H := by
  obtain ⟨C, fs, τ, S, dd, ws, e1, e2, l, r, x, y, z, q⟩ := h
  exact ⟨C, fs, τ, S, dd, ws, e1, e2, le.trans l, r, x, y, z, k _ _ _ _ q⟩
def Wish (X : Cx) (E : DW) (H0 : Hp) : Prop := Takes X (upW X.w X.K E H0)
theorem Wish.le {X : Cx} {E : DW} {H0 H1 : Hp} (w : Wish X E H0) (le : LeH H0 H1) : Wish X E H1 := Takes.imp w fun _ _ _ _ h => upW.imp le (fun _ _ _ _ q => q) h
abbrev DW0 : DW := fun _ _ _ _ => False
theorem wish0 {X : Cx} {H0 : Hp} : Wish X DW0 H0 := fun u s' ⟨a, B, sI, pins, σ, H, cls, d, e, I, nb, up, sky, na, os, ag, w⟩ => by
  obtain ⟨_, _, _, _, _, _, _, _, _, _, _, _, _, q⟩ := w
  exact q.elim

def upE (X : Cx) (t : DTE) : TE := fun σ H Q => ∃ E τ S, Wish X E H ∧ Rel X.w X.K τ S σ H ∧ t E τ S fun d S' => ∀ v H', LeH H H' → Rep X.w X.K S' H' → RD X.K H' d v → Q v H'
def upT (X : Cx) (t : DTT) : TT := fun σ H Q => ∃ E τ S, Wish X E H ∧ Rel X.w X.K τ S σ H ∧ t E τ S fun b S' => ∀ H', LeH H H' → Rep X.w X.K S' H' → Q b H'
def upA (X : Cx) (t : DTA) : TA := fun σ H Q => ∃ E τ S, Wish X E H ∧ Rel X.w X.K τ S σ H ∧ t E τ S fun ds S' => ∀ vs H', LeH H H' → Rep X.w X.K S' H' → RDs X.K H' ds vs → Q vs H'
structure DE (X : Cx) (e : Expr) (t : DTE) : Prop where
  mono : ∀ (E E' : DW) τ S (Q Q' : DK), (∀ C fs τ S, E C fs τ S → E' C fs τ S) → (∀ d S', Q d S' → Q' d S') → t E τ S Q → t E' τ S Q'
  run : PE X e (upE X t)
structure DT (X : Cx) (e : Expr) (t : DTT) : Prop where
  mono : ∀ (E E' : DW) τ S (Q Q' : Bool → DH → Prop), (∀ C fs τ S, E C fs τ S → E' C fs τ S) → (∀ d S', Q d S' → Q' d S') → t E τ S Q → t E' τ S Q'
  run : PT X e (upT X t)
structure DWt (X : Cx) (e : Expr) (t : DTT) : Prop where
  mono : ∀ (E E' : DW) τ S (Q Q' : Bool → DH → Prop), (∀ C fs τ S, E C fs τ S → E' C fs τ S) → (∀ d S', Q d S' → Q' d S') → t E τ S Q → t E' τ S Q'
  run : PW X e (upT X t)
structure DA (X : Cx) (es : List Expr) (t : DTA) : Prop where
  mono : ∀ (E E' : DW) τ S (Q Q' : List D → DH → Prop), (∀ C fs τ S, E C fs τ S → E' C fs τ S) → (∀ d S', Q d S' → Q' d S') → t E τ S Q → t E' τ S Q'
  run : PA X es (upA X t)
theorem pE_imp {X : Cx} {e : Expr} {t t' : TE} (h : PE X e t) (k : ∀ σ H Q, t' σ H Q → t σ H Q) : PE X e t' := ⟨fun pins s σ H Q I q => h.run pins s σ H Q I (k σ H Q q)⟩
theorem pT_imp {X : Cx} {e : Expr} {t t' : TT} (h : PT X e t) (k : ∀ σ H Q, t' σ H Q → t σ H Q) : PT X e t' := ⟨fun pins s σ H Q I q => h.run pins s σ H Q I (k σ H Q q)⟩
theorem pW_imp {X : Cx} {e : Expr} {t t' : TT} (h : PW X e t) (k : ∀ σ H Q, t' σ H Q → t σ H Q) : PW X e t' := ⟨fun wh pins s σ H Q I q => h.run wh pins s σ H Q I (k σ H Q q)⟩
theorem pA_imp {X : Cx} {e : List Expr} {t t' : TA} (h : PA X e t) (k : ∀ σ H Q, t' σ H Q → t σ H Q) : PA X e t' := ⟨fun pos pins s σ H Q I q => h.run pos pins s σ H Q I (k σ H Q q)⟩
theorem pS_imp {X : Cx} {e : Stmt} {t t' : TS} (h : PS X e t) (k : ∀ D σ H, t' D σ H → t D σ H) : PS X e t' := ⟨fun pins s σ H D I q => h.run pins s σ H D I (k D σ H q)⟩
theorem pSs_imp {X : Cx} {e : List Stmt} {t t' : TS} (h : PSs X e t) (k : ∀ D σ H, t' D σ H → t D σ H) : PSs X e t' := ⟨fun pins s σ H D I q => h.run pins s σ H D I (k D σ H q)⟩

section
variable {X : Cx} {e : Expr} {es : List Expr} {E : DW} {τ : DSt} {S : DH} {σ : St} {H : Hp}
/-- from a data reading to the layer's, the end weakened -/
theorem DE.to {t : DTE} (h : DE X e t) {Q0 : DK} {Q : VK} (w : Wish X E H) (r : Rel X.w X.K τ S σ H) (q : t E τ S Q0)
    (k : ∀ d S' v H', LeH H H' → Wish X E H' → Rel X.w X.K τ S' σ H' → RD X.K H' d v → Q0 d S' → Q v H') : upE X t σ H Q :=
  ⟨E, τ, S, w, r, h.mono _ _ _ _ _ _ (fun _ _ _ _ z => z) (fun d S' z v H' le rp rd => k d S' v H' le (w.le le) (r.le le rp) rd z) q⟩
theorem DT.to {t : DTT} (h : DT X e t) {Q0 : Bool → DH → Prop} {Q : Bool → Hp → Prop} (w : Wish X E H) (r : Rel X.w X.K τ S σ H) (q : t E τ S Q0)
    (k : ∀ b S' H', LeH H H' → Wish X E H' → Rel X.w X.K τ S' σ H' → Q0 b S' → Q b H') : upT X t σ H Q :=
  ⟨E, τ, S, w, r, h.mono _ _ _ _ _ _ (fun _ _ _ _ z => z) (fun d S' z H' le rp => k d S' H' le (w.le le) (r.le le rp) z) q⟩
theorem DWt.to {t : DTT} (h : DWt X e t) {Q0 : Bool → DH → Prop} {Q : Bool → Hp → Prop} (w : Wish X E H) (r : Rel X.w X.K τ S σ H) (q : t E τ S Q0)
    (k : ∀ b S' H', LeH H H' → Wish X E H' → Rel X.w X.K τ S' σ H' → Q0 b S' → Q b H') : upT X t σ H Q :=
  ⟨E, τ, S, w, r, h.mono _ _ _ _ _ _ (fun _ _ _ _ z => z) (fun d S' z H' le rp => k d S' H' le (w.le le) (r.le le rp) z) q⟩
theorem DA.to {t : DTA} (h : DA X es t) {Q0 : List D → DH → Prop} {Q : List V → Hp → Prop} (w : Wish X E H) (r : Rel X.w X.K τ S σ H) (q : t E τ S Q0)
    (k : ∀ ds S' vs H', LeH H H' → Wish X E H' → Rel X.w X.K τ S' σ H' → RDs X.K H' ds vs → Q0 ds S' → Q vs H') : upA X t σ H Q :=
  ⟨E, τ, S, w, r, h.mono _ _ _ _ _ _ (fun _ _ _ _ z => z) (fun d S' z vs H' le rp rd => k d S' vs H' le (w.le le) (r.le le rp) rd z) q⟩
end

/-! ### names, constants -/
@[simp] def dVar (i : Nat) : DTE := fun _ τ S Q => match τ[i]? with | some (some d) => Q d S | _ => False
@[simp] def dC (d : D) : DTE := fun _ _ S Q => Q d S
section
variable {X : Cx}
theorem de_var {e : Expr} {i : Nat} (h : PE X e (tVar i)) : DE X e (dVar i) := by
  refine ⟨fun E E' τ S Q Q' _ k q => ?_, pE_imp h fun σ H Q ⟨E, τ, S, w, r, q⟩ => ?_⟩
  · unfold dVar at q ⊢
    split at q
    · exact k _ _ q
    · exact q
  · unfold dVar at q
    split at q
    · rename_i d e'
      obtain ⟨v, e2, rv⟩ := r.st.get i d e'
      exact ⟨v, e2, q v H (LeH.refl H) r.rep rv⟩
    · exact q.elim
theorem de_c {e : Expr} {d : D} {v : V} (h : PE X e (tC v)) (hv : ∀ H, RD X.K H d v) : DE X e (dC d) :=
  ⟨fun E E' τ S Q Q' _ k q => k _ _ q, pE_imp h fun σ H Q ⟨E, τ, S, w, r, q⟩ => q v H (LeH.refl H) r.rep (hv H)⟩
theorem dv (i : Nat) {x : Str} {pos : Pos} (hN : X.N[i]? = some x := by rfl) (hv : Vis X.env.scope x := by first | exact Or.inl rfl | exact Or.inr (Or.inl rfl) | exact Or.inr (Or.inr rfl)) (hd : (x == ("__debug__" : Str)) = false := by decide)
    (hcd : (x == ("__classdict__" : Str)) = false := by decide) : DE X (.Name x pos) (dVar i) := de_var (pe_var hN hv hd hcd)
theorem de_int {i : Int} {j pos} : DE X (.Constant (.int i) j pos) (dC (.int i)) := de_c pe_int fun _ => rfl
theorem de_bl {b : Bool} {j pos} : DE X (.Constant (.bool b) j pos) (dC (.bl b)) := de_c pe_bl fun _ => rfl
theorem de_non {j pos} : DE X (.Constant .none j pos) (dC .non) := de_c pe_non fun _ => rfl
theorem de_str {x : Str} {j pos} : DE X (.Constant (.str x) j pos) (dC (.str x)) := de_c pe_str fun _ => rfl
end

/-! ### operators -/
abbrev R2D := D → D → DH → DK → Prop
def Mono2 (r : R2D) : Prop := ∀ x y S (Q Q' : DK), (∀ d S', Q d S' → Q' d S') → r x y S Q → r x y S Q'
def upO (w : World) (K : PySem.W.Frag) (r : R2D) : R2 := fun x y H Q => ∃ d e S, Rep w K S H ∧ RD K H d x ∧ RD K H e y ∧ r d e S fun z S' => ∀ v H', LeH H H' → Rep w K S' H' → RD K H' z v → Q v H'
structure OpD (X : Cx) (f : Value → Value → Sem Value) (r : R2D) : Prop where
  mono : Mono2 r
  run : OpR X f (upO X.w X.K r)
theorem opR_imp {X : Cx} {f : Value → Value → Sem Value} {r r' : R2} (h : OpR X f r) (k : ∀ x y H Q, r' x y H Q → r x y H Q) : OpR X f r' := fun pins s σ H x y v u Q I rx ry q => h pins s σ H x y v u Q I rx ry (k _ _ _ _ q)
@[simp] def dOp (r : R2D) (ta tb : DTE) : DTE := fun E τ S Q => ta E τ S fun d S1 => tb E τ S1 fun e S2 => r d e S2 Q
section
variable {X : Cx} {a b : Expr} {ta tb : DTE} {pos : Pos} {r : R2D}
theorem dOp_mono {E E' : DW} {τ : DSt} {S : DH} {Q Q' : DK} (ma : DE X a ta) (mb : DE X b tb) (mr : Mono2 r) (he : ∀ C fs τ S, E C fs τ S → E' C fs τ S) (k : ∀ d S', Q d S' → Q' d S') (q : dOp r ta tb E τ S Q) : dOp r ta tb E' τ S Q' :=
  ma.mono _ _ _ _ _ _ he (fun _ _ h => mb.mono _ _ _ _ _ _ he (fun _ _ h => mr _ _ _ _ _ k h) h) q
theorem dOp_up {σ : St} {H : Hp} {Q : VK} (ha : DE X a ta) (hb : DE X b tb) (mr : Mono2 r) (h : upE X (dOp r ta tb) σ H Q) : tOp (upO X.w X.K r) (upE X ta) (upE X tb) σ H Q := by
  obtain ⟨E, τ, S, w, rl, q⟩ := h
  refine ha.to w rl q fun d S1 x H1 le1 w1 r1 rd q1 => ?_
  refine hb.to w1 r1 q1 fun e S2 y H2 le2 w2 r2 re q2 => ?_
  exact ⟨d, e, S2, r2.rep, rd.le le2, re, mr _ _ _ _ _ (fun z S' k v H' le rp rz => k v H' (le1.trans (le2.trans le)) rp rz) q2⟩
theorem de_op {op : Operator} (ho : OpD X (binaryOp op) r) (ha : DE X a ta) (hb : DE X b tb) : DE X (.BinOp a op b pos) (dOp r ta tb) :=
  ⟨fun _ _ _ _ _ _ he k q => dOp_mono ha hb ho.mono he k q, pE_imp (pe_op ho.run ha.run hb.run) fun _ _ _ h => dOp_up ha hb ho.mono h⟩
theorem de_cmp {op : CmpOp} (ho : OpD X (compareOp op) r) (ha : DE X a ta) (hb : DE X b tb) (hm : behindInMarks op b = false) : DE X (.Compare a [op] [b] pos) (dOp r ta tb) :=
  ⟨fun _ _ _ _ _ _ he k q => dOp_mono ha hb ho.mono he k q, pE_imp (pe_cmpR ho.run ha.run hb.run hm) fun _ _ _ h => dOp_up ha hb ho.mono h⟩
/-- a test: a value that is a truth -/
@[simp] def dTest (t : DTE) : DTT := fun E τ S Q => t E τ S fun d S' => match d with | .bl b => Q b S' | _ => False
theorem dTest_mono {e : Expr} {t : DTE} (m : DE X e t) (E E' : DW) (τ : DSt) (S : DH) (Q Q' : Bool → DH → Prop) (he : ∀ C fs τ S, E C fs τ S → E' C fs τ S) (k : ∀ d S', Q d S' → Q' d S') (q : dTest t E τ S Q) : dTest t E' τ S Q' :=
  m.mono _ _ _ _ _ _ he (fun d S' h => by
    cases d with
    | bl b => exact k _ _ h
    | _ => exact h) q
theorem dt_cmp {op : CmpOp} (ho : OpD X (compareOp op) r) (ha : DE X a ta) (hb : DE X b tb) (hm : behindInMarks op b = false) : DT X (.Compare a [op] [b] pos) (dTest (dOp r ta tb)) := by
  refine ⟨dTest_mono (de_cmp ho ha hb hm (pos := pos)), pT_imp (pt_cmpR ho.run ha.run hb.run hm) fun σ H Q ⟨E, τ, S, w, rl, q⟩ => ?_⟩
  refine dOp_up ha hb ho.mono ⟨E, τ, S, w, rl, dOp_mono ha hb ho.mono (fun _ _ _ _ z => z) (fun d S' h v H' le rp rd => ?_) q⟩
  cases d with
  | bl b => exact ⟨b, rd, h H' le rp⟩
  | _ => exact h.elim
theorem dt_val {e : Expr} {t : DTE} (h : DE X e t) (he : ∀ whole, isTrue e X.env whole = (do let v ← whole; standAt e.pos; holding [v] (truthy v)) := by intro _; rfl) : DT X e (dTest t) := by
  refine ⟨dTest_mono h, pT_imp (pt_val h.run he) fun σ H Q ⟨E, τ, S, w, rl, q⟩ => ?_⟩
  refine h.to w rl q fun d S' v H' le w' r' rd q' => ?_
  cases d with
  | bl b => exact ⟨b, rd, q' H' le r'.rep⟩
  | _ => exact q'.elim
end
end Dt
set_option maxRecDepth 100000
set_option maxHeartbeats 4000000
/-! Dat2: tests, statements, loops, comprehensions. -/
namespace Dt
open PySem PySem.Spec L2

/-! ### arguments -/
@[simp] def dNil : DTA := fun _ _ S Q => Q [] S
@[simp] def dCons (ta : DTE) (tr : DTA) : DTA := fun E τ S Q => ta E τ S fun d S1 => tr E τ S1 fun ds S2 => Q (d :: ds) S2
section
variable {X : Cx} {e : Expr} {es : List Expr} {te : DTE} {t : DTA} {pos : Pos}
theorem da_nil : DA X [] dNil := ⟨fun _ _ _ _ _ _ _ k q => k _ _ q, pA_imp pa_nil fun σ H Q ⟨E, τ, S, w, r, q⟩ => q [] H (LeH.refl H) r.rep .nil⟩
theorem da_cons (ha : DE X e te) (hr : DA X es t) (hs : starEach (e :: es) X.env = (false, eval e X.env) :: starEach es X.env := by rfl) : DA X (e :: es) (dCons te t) := by
  refine ⟨fun _ _ _ _ _ _ he k q => ha.mono _ _ _ _ _ _ he (fun _ _ h => hr.mono _ _ _ _ _ _ he (fun _ _ h => k _ _ h) h) q, pA_imp (pa_cons ha.run hr.run hs) fun σ H Q ⟨E, τ, S, w, r, q⟩ => ?_⟩
  refine ha.to w r q fun d S1 v H1 le1 w1 r1 rd q1 => ?_
  exact hr.to w1 r1 q1 fun ds S2 vs H2 le2 w2 r2 rds q2 => q2 (v :: vs) H2 (le1.trans le2) r2.rep (.cons (rd.le le2) rds)
end

/-! ### tests -/
section
variable {X : Cx} {a b : Expr} {rest : List Expr} {ta tb : DTT} {te : DTE} {pos : Pos}
@[simp] def dAnd (t u : DTT) : DTT := fun E τ S Q => t E τ S fun c S1 => if c = true then u E τ S1 Q else Q false S1
@[simp] def dOr (t u : DTT) : DTT := fun E τ S Q => t E τ S fun c S1 => if c = true then Q true S1 else u E τ S1 Q
@[simp] def dNot (t : DTT) : DTT := fun E τ S Q => t E τ S fun c S1 => Q (!c) S1
theorem DWt.pt (h : DWt X a ta) : DT X a ta := ⟨h.mono, h.run.pt⟩
theorem dw_and1 (ha : DT X a ta) : DWt X (.BoolOp .And [a] pos) ta := ⟨ha.mono, pw_and1 ha.run⟩
theorem dw_or1 (ha : DT X a ta) : DWt X (.BoolOp .Or [a] pos) ta := ⟨ha.mono, pw_or1 ha.run⟩
theorem dw_and (ha : DT X a ta) (hb : DWt X (.BoolOp .And (b :: rest) pos) tb) : DWt X (.BoolOp .And (a :: b :: rest) pos) (dAnd ta tb) := by
  refine ⟨fun E E' τ S Q Q' he k q => ha.mono _ _ _ _ _ _ he (fun c S1 h => ?_) q, pW_imp (pw_and ha.run hb.run) fun σ H Q ⟨E, τ, S, w, r, q⟩ => ?_⟩
  · split at h
    · rename_i hc
      rw [if_pos hc]
      exact hb.mono _ _ _ _ _ _ he k h
    · rename_i hc
      rw [if_neg hc]
      exact k _ _ h
  · refine ha.to w r q fun c S1 H1 le w1 r1 h => ?_
    cases c with
    | true => exact hb.to w1 r1 h fun b S2 H2 le2 _ r2 q2 => q2 H2 (le.trans le2) r2.rep
    | false => exact h H1 le r1.rep
theorem dw_or (ha : DT X a ta) (hb : DWt X (.BoolOp .Or (b :: rest) pos) tb) : DWt X (.BoolOp .Or (a :: b :: rest) pos) (dOr ta tb) := by
  refine ⟨fun E E' τ S Q Q' he k q => ha.mono _ _ _ _ _ _ he (fun c S1 h => ?_) q, pW_imp (pw_or ha.run hb.run) fun σ H Q ⟨E, τ, S, w, r, q⟩ => ?_⟩
  · split at h
    · rename_i hc
      rw [if_pos hc]
      exact k _ _ h
    · rename_i hc
      rw [if_neg hc]
      exact hb.mono _ _ _ _ _ _ he k h
  · refine ha.to w r q fun c S1 H1 le w1 r1 h => ?_
    cases c with
    | true => exact h H1 le r1.rep
    | false => exact hb.to w1 r1 h fun b S2 H2 le2 _ r2 q2 => q2 H2 (le.trans le2) r2.rep
theorem dt_not (ha : DT X a ta) : DT X (.UnaryOp .Not a pos) (dNot ta) :=
  ⟨fun _ _ _ _ _ _ he k q => ha.mono _ _ _ _ _ _ he (fun _ _ h => k _ _ h) q, pT_imp (pt_not ha.run) fun σ H Q ⟨E, τ, S, w, r, q⟩ => ha.to w r q fun c S1 H1 le w1 r1 h => h H1 le r1.rep⟩
/-- and, or, not as values, of truths -/
def dBV (t : DTE) (k : Bool → DH → DK → Prop) : DTE := fun E τ S Q => t E τ S fun d S1 => match d with | .bl c => k c S1 Q | _ => False
@[simp] def dAndV (ta tb : DTE) : DTE := fun E τ S Q => ta E τ S fun d S1 => match d with | .bl c => (if c = true then tb E τ S1 Q else Q (.bl false) S1) | _ => False
@[simp] def dOrV (ta tb : DTE) : DTE := fun E τ S Q => ta E τ S fun d S1 => match d with | .bl c => (if c = true then Q (.bl true) S1 else tb E τ S1 Q) | _ => False
@[simp] def dNotV (ta : DTE) : DTE := fun E τ S Q => ta E τ S fun d S1 => match d with | .bl c => Q (.bl (!c)) S1 | _ => False
variable {va vb : DTE}
theorem de_one {op} (h : DE X a te) : DE X (.BoolOp op [a] pos) te := ⟨h.mono, pe_one h.run⟩
theorem de_and (ha : DE X a va) (hb : DE X (.BoolOp .And (b :: rest) pos) vb) : DE X (.BoolOp .And (a :: b :: rest) pos) (dAndV va vb) := by
  refine ⟨fun E E' τ S Q Q' he k q => ha.mono _ _ _ _ _ _ he (fun d S1 h => ?_) q, pE_imp (pe_and ha.run hb.run) fun σ H Q ⟨E, τ, S, w, r, q⟩ => ?_⟩
  · cases d with
    | bl c =>
      cases c with
      | true => exact hb.mono _ _ _ _ _ _ he k h
      | false => exact k _ _ h
    | _ => exact h
  · refine ha.to w r q fun d S1 v H1 le w1 r1 rd h => ?_
    cases d with
    | bl c =>
      refine ⟨c, rd, ?_⟩
      cases c with
      | true => exact hb.to w1 r1 h fun z S2 u H2 le2 _ r2 rz q2 => q2 u H2 (le.trans le2) r2.rep rz
      | false => exact h _ H1 le r1.rep rfl
    | _ => exact h.elim
theorem de_or (ha : DE X a va) (hb : DE X (.BoolOp .Or (b :: rest) pos) vb) : DE X (.BoolOp .Or (a :: b :: rest) pos) (dOrV va vb) := by
  refine ⟨fun E E' τ S Q Q' he k q => ha.mono _ _ _ _ _ _ he (fun d S1 h => ?_) q, pE_imp (pe_or ha.run hb.run) fun σ H Q ⟨E, τ, S, w, r, q⟩ => ?_⟩
  · cases d with
    | bl c =>
      cases c with
      | true => exact k _ _ h
      | false => exact hb.mono _ _ _ _ _ _ he k h
    | _ => exact h
  · refine ha.to w r q fun d S1 v H1 le w1 r1 rd h => ?_
    cases d with
    | bl c =>
      refine ⟨c, rd, ?_⟩
      cases c with
      | true => exact h _ H1 le r1.rep rfl
      | false => exact hb.to w1 r1 h fun z S2 u H2 le2 _ r2 rz q2 => q2 u H2 (le.trans le2) r2.rep rz
    | _ => exact h.elim
@[simp] def dIfE (t : DTT) (ta tb : DTE) : DTE := fun E τ S Q => t E τ S fun c S1 => if c = true then ta E τ S1 Q else tb E τ S1 Q
theorem de_if {c : Expr} (hc : DT X c ta) (ha : DE X a va) (hb : DE X b vb) : DE X (.IfExp c a b pos) (dIfE ta va vb) := by
  refine ⟨fun E E' τ S Q Q' he k q => hc.mono _ _ _ _ _ _ he (fun c S1 h => ?_) q, pE_imp (pe_ifExp hc.run ha.run hb.run) fun σ H Q ⟨E, τ, S, w, r, q⟩ => ?_⟩
  · cases c with
    | true => exact ha.mono _ _ _ _ _ _ he k h
    | false => exact hb.mono _ _ _ _ _ _ he k h
  · refine hc.to w r q fun c S1 H1 le w1 r1 h => ?_
    cases c with
    | true => exact ha.to w1 r1 h fun z S2 u H2 le2 _ r2 rz q2 => q2 u H2 (le.trans le2) r2.rep rz
    | false => exact hb.to w1 r1 h fun z S2 u H2 le2 _ r2 rz q2 => q2 u H2 (le.trans le2) r2.rep rz
end

/-! ### statements -/
structure DEnds where
  nx : DSt → DH → Prop
  rt : DK
  bk : DSt → DH → Prop := fun _ _ => False
  ct : DSt → DH → Prop := fun _ _ => False
  xe : DW := fun _ _ _ _ => False
abbrev DTS := DEnds → DSt → DH → Prop
structure DEnds.Le (A B : DEnds) : Prop where
  nx : ∀ τ S, A.nx τ S → B.nx τ S
  rt : ∀ d S, A.rt d S → B.rt d S
  bk : ∀ τ S, A.bk τ S → B.bk τ S
  ct : ∀ τ S, A.ct τ S → B.ct τ S
  xe : ∀ C fs τ S, A.xe C fs τ S → B.xe C fs τ S
def dnE (w : World) (K : PySem.W.Frag) (H : Hp) (D : Ends) (E : DW) : DEnds where
  nx := fun τ S => ∀ σ H', LeH H H' → Rel w K τ S σ H' → D.nx σ H'
  rt := fun d S => ∀ v H', LeH H H' → Rep w K S H' → RD K H' d v → D.rt v H'
  bk := fun τ S => ∀ σ H', LeH H H' → Rel w K τ S σ H' → D.bk σ H'
  ct := fun τ S => ∀ σ H', LeH H H' → Rel w K τ S σ H' → D.ct σ H'
  xe := E
def upS (X : Cx) (t : DTS) : TS := fun D σ H => ∃ E τ S, Wish X E H ∧ Rel X.w X.K τ S σ H ∧ t (dnE X.w X.K H D E) τ S
structure DS (X : Cx) (st : Stmt) (t : DTS) : Prop where
  mono : ∀ A B τ S, DEnds.Le A B → t A τ S → t B τ S
  run : PS X st (upS X t)
structure DSs (X : Cx) (st : List Stmt) (t : DTS) : Prop where
  mono : ∀ A B τ S, DEnds.Le A B → t A τ S → t B τ S
  run : PSs X st (upS X t)
section
variable {X : Cx} {st : Stmt} {sts : List Stmt} {t u : DTS} {E : DW} {τ : DSt} {S : DH} {σ : St} {H : Hp} {pos : Pos}
theorem dn_le {w : World} {K : PySem.W.Frag} {D : Ends} {H H' : Hp} (le : LeH H H') : DEnds.Le (dnE w K H D E) (dnE w K H' D E) :=
  ⟨fun τ S h σ H2 l => h σ H2 (le.trans l), fun d S h v H2 l => h v H2 (le.trans l), fun τ S h σ H2 l => h σ H2 (le.trans l), fun τ S h σ H2 l => h σ H2 (le.trans l), fun _ _ _ _ h => h⟩
theorem DS.to (h : DS X st t) {A : DEnds} {D : Ends} (w : Wish X E H) (r : Rel X.w X.K τ S σ H) (q : t A τ S) (k : DEnds.Le A (dnE X.w X.K H D E)) : upS X t D σ H := ⟨E, τ, S, w, r, h.mono _ _ _ _ k q⟩
theorem DSs.to (h : DSs X sts t) {A : DEnds} {D : Ends} (w : Wish X E H) (r : Rel X.w X.K τ S σ H) (q : t A τ S) (k : DEnds.Le A (dnE X.w X.K H D E)) : upS X t D σ H := ⟨E, τ, S, w, r, h.mono _ _ _ _ k q⟩
@[simp] def dNx : DTS := fun A τ S => A.nx τ S
@[simp] def dSeq (t u : DTS) : DTS := fun A τ S => t { A with nx := u A } τ S
theorem dss_nil : DSs X [] dNx := ⟨fun _ _ _ _ le q => le.nx _ _ q, pSs_imp pss_nil fun D σ H ⟨E, τ, S, w, r, q⟩ => q σ H (LeH.refl H) r⟩
theorem dss_one (h : DS X st t) : DSs X [st] t := ⟨h.mono, pss_one h.run⟩
theorem dss_cons (h1 : DS X st t) (h2 : DSs X sts u) : DSs X (st :: sts) (dSeq t u) := by
  refine ⟨fun A B τ S le q => h1.mono { A with nx := u A } { B with nx := u B } _ _ ⟨fun τ S z => h2.mono _ _ _ _ le z, le.rt, le.bk, le.ct, le.xe⟩ q, pSs_imp (pss_cons h1.run h2.run) fun D σ H ⟨E, τ, S, w, r, q⟩ => ?_⟩
  exact h1.to w r q ⟨fun τ' S' z σ' H' le r' => h2.to (w.le le) r' z (dn_le le), fun _ _ z => z, fun _ _ z => z, fun _ _ z => z, fun _ _ _ _ z => z⟩
@[simp] def dBk : DTS := fun A τ S => A.bk τ S
@[simp] def dCt : DTS := fun A τ S => A.ct τ S
def dNever : DTS := fun _ _ _ => False
variable {e c : Expr} {te : DTE} {tc : DTT} {as bs : List Stmt}
@[simp] def dDrop (te : DTE) : DTS := fun A τ S => te A.xe τ S fun _ S' => A.nx τ S'
theorem ds_expr (h : DE X e te) (hs : swapsWith e none pos.line X.env = pure false := by rfl) : DS X (.Expr e pos) (dDrop te) :=
  ⟨fun _ _ _ _ le q => h.mono _ _ _ _ _ _ le.xe (fun _ _ z => le.nx _ _ z) q, pS_imp (ps_expr h.run hs) fun D σ H ⟨E, τ, S, w, r, q⟩ => h.to w r q fun d S' v H' le w' r' rd z => z σ H' le r'⟩
@[simp] def dRet (te : DTE) : DTS := fun A τ S => te A.xe τ S A.rt
theorem ds_ret (h : DE X e te) : DS X (.Return (some e) pos) (dRet te) :=
  ⟨fun _ _ _ _ le q => h.mono _ _ _ _ _ _ le.xe le.rt q, pS_imp (ps_ret h.run) fun D σ H ⟨E, τ, S, w, r, q⟩ => h.to w r q fun d S' v H' le w' r' rd z => z v H' le r'.rep rd⟩
@[simp] def dRetN : DTS := fun A _ S => A.rt .non S
@[simp] def dIf (tc : DTT) (t u : DTS) : DTS := fun A τ S => tc A.xe τ S fun b S' => if b = true then t A τ S' else u A τ S'
theorem ds_if (hc : DT X c tc) (ha : DSs X as t) (hb : DSs X bs u) : DS X (.If c as bs pos) (dIf tc t u) := by
  refine ⟨fun A B τ S le q => hc.mono _ _ _ _ _ _ le.xe (fun b S' z => ?_) q, pS_imp (ps_if hc.run ha.run hb.run) fun D σ H ⟨E, τ, S, w, r, q⟩ => ?_⟩
  · cases b with
    | true => exact ha.mono _ _ _ _ le z
    | false => exact hb.mono _ _ _ _ le z
  · refine hc.to w r q fun b S' H' le w' r' z => ?_
    cases b with
    | true => exact ha.to w' r' z (dn_le le)
    | false => exact hb.to w' r' z (dn_le le)
end

/-! ### targets -/
abbrev DTG := D → DSt → DH → (DSt → DH → Prop) → Prop
abbrev DTGs := List D → DSt → DH → (DSt → DH → Prop) → Prop
def upG (X : Cx) (t : DTG) : TG := fun v σ H Q => ∃ d τ S, Rel X.w X.K τ S σ H ∧ RD X.K H d v ∧ t d τ S fun τ' S' => ∀ σ' H', LeH H H' → Rel X.w X.K τ' S' σ' H' → Q σ' H'
def upGs (X : Cx) (t : DTGs) : TGs := fun vs σ H Q => ∃ ds τ S, Rel X.w X.K τ S σ H ∧ RDs X.K H ds vs ∧ t ds τ S fun τ' S' => ∀ σ' H', LeH H H' → Rel X.w X.K τ' S' σ' H' → Q σ' H'
structure DG (X : Cx) (tg : Expr) (t : DTG) : Prop where
  mono : ∀ d τ S (Q Q' : DSt → DH → Prop), (∀ τ S, Q τ S → Q' τ S) → t d τ S Q → t d τ S Q'
  run : PG X tg (upG X t)
structure DGs (X : Cx) (tg : List Expr) (t : DTGs) : Prop where
  mono : ∀ d τ S (Q Q' : DSt → DH → Prop), (∀ τ S, Q τ S → Q' τ S) → t d τ S Q → t d τ S Q'
  run : PGs X tg (upGs X t)
theorem pG_imp {X : Cx} {e : Expr} {t t' : TG} (h : PG X e t) (k : ∀ v σ H Q, t' v σ H Q → t v σ H Q) : PG X e t' := ⟨fun pins s σ H v u Q I r q => h.run pins s σ H v u Q I r (k v σ H Q q)⟩
theorem pGs_imp {X : Cx} {e : List Expr} {t t' : TGs} (h : PGs X e t) (k : ∀ v σ H Q, t' v σ H Q → t v σ H Q) : PGs X e t' := ⟨fun pins s σ H v u Q I r q => h.run pins s σ H v u Q I r (k v σ H Q q)⟩
section
variable {X : Cx} {tg e : Expr} {tgs : List Expr} {t : DTG} {ts : DTGs} {te : DTE} {pos : Pos}
theorem DG.to (h : DG X tg t) {d : D} {v : V} {τ : DSt} {S : DH} {σ : St} {H : Hp} {Q0 : DSt → DH → Prop} {Q : St → Hp → Prop} (r : Rel X.w X.K τ S σ H) (rd : RD X.K H d v) (q : t d τ S Q0) (k : ∀ τ' S' σ' H', LeH H H' → Rel X.w X.K τ' S' σ' H' → Q0 τ' S' → Q σ' H') : upG X t v σ H Q :=
  ⟨d, τ, S, r, rd, h.mono _ _ _ _ _ (fun τ' S' z σ' H' le r' => k _ _ _ _ le r' z) q⟩
@[simp] def dGN (i : Nat) : DTG := fun d τ S Q => Q (τ.set i (some d)) S
theorem dg_name {i : Nat} {x : Str} (hN : X.N.Nodup) (hi : X.N[i]? = some x) (hx : Loc X.env.scope x) (hf : X.fn x = true ∨ X.env.scope.names.lookup x = some .local := by first | exact .inl rfl | exact .inr rfl | assumption) : DG X (.Name x pos) (dGN i) :=
  ⟨fun _ _ _ _ _ k q => k _ _ q, pG_imp (pg_name hN hi hx hf) fun v σ H Q ⟨d, τ, S, r, rd, q⟩ => q _ _ (LeH.refl H) ⟨r.st.set i rd, r.rep⟩⟩
@[simp] def dGNil : DTGs := fun ds τ S Q => match ds with | [] => Q τ S | _ => False
@[simp] def dGCons (t : DTG) (u : DTGs) : DTGs := fun ds τ S Q => match ds with | d :: r => t d τ S fun τ' S' => u r τ' S' Q | _ => False
theorem dgs_nil : DGs X [] dGNil := by
  refine ⟨fun ds _ _ _ _ k q => ?_, pGs_imp pgs_nil fun vs σ H Q ⟨ds, τ, S, r, rd, q⟩ => ?_⟩
  · cases ds with
    | nil => exact k _ _ q
    | cons _ _ => exact q
  · cases ds with
    | nil => exact ⟨rd, q σ H (LeH.refl H) r⟩
    | cons _ _ => exact q.elim
theorem dgs_cons (h1 : DG X tg t) (h2 : DGs X tgs ts) (hs : (assignEach (tg :: tgs) X.env).map (·.2) = assign tg X.env :: (assignEach tgs X.env).map (·.2) := by rfl) : DGs X (tg :: tgs) (dGCons t ts) := by
  refine ⟨fun ds _ _ _ _ k q => ?_, pGs_imp (pgs_cons h1.run h2.run hs) fun vs σ H Q ⟨ds, τ, S, r, rd, q⟩ => ?_⟩
  · cases ds with
    | nil => exact q
    | cons d r => exact h1.mono _ _ _ _ _ (fun _ _ z => h2.mono _ _ _ _ _ k z) q
  · cases ds with
    | nil => exact q.elim
    | cons d ds =>
      obtain ⟨v, s, rfl, rd1, rd2⟩ := rd
      refine ⟨v, s, rfl, h1.to r rd1 q fun τ' S' σ' H' le r' z => ?_⟩
      exact ⟨ds, τ', S', r', rd2.le le, h2.mono _ _ _ _ _ (fun τ2 S2 z2 σ2 H2 le2 r2 => z2 σ2 H2 (le.trans le2) r2) z⟩
@[simp] def dGTup (n : Nat) (t : DTGs) : DTG := fun d τ S Q => match d with | .tup ds => ds.length = n ∧ t ds τ S Q | _ => False
@[simp] def dAsg (te : DTE) (t : DTG) : DTS := fun A τ S => te A.xe τ S fun d S' => t d τ S' A.nx
theorem ds_asg (he : DE X e te) (hg : DG X tg t) (hs : swapsWithSole [tg] e pos.line X.env = pure false := by rfl) (hw : swappedStores [tg] e X.env = pure none := by rfl) (h1 : (assignEach [tg] X.env).map (·.2) = [assign tg X.env] := by rfl) : DS X (.Assign [tg] e pos) (dAsg te t) := by
  refine ⟨fun A B τ S le q => he.mono _ _ _ _ _ _ le.xe (fun _ _ z => hg.mono _ _ _ _ _ le.nx z) q, pS_imp (ps_asg he.run hg.run hs hw h1) fun D σ H ⟨E, τ, S, w, r, q⟩ => ?_⟩
  exact he.to w r q fun d S' v H' le w' r' rd z => hg.to r' rd z fun τ2 S2 σ2 H2 le2 r2 z2 => z2 σ2 H2 (le.trans le2) r2
theorem ds_set {i : Nat} {x : Str} {pos' : Pos} (hN : X.N.Nodup) (hi : X.N[i]? = some x) (hx : Loc X.env.scope x) (he : DE X e te) (hs : swapsWith e (some (.Name x pos')) pos.line X.env = pure false := by rfl)
    (hf : X.fn x = true ∨ X.env.scope.names.lookup x = some .local := by first | exact .inl rfl | exact .inr rfl | assumption) : DS X (.Assign [.Name x pos'] e pos) (dAsg te (dGN i)) := by
  refine ⟨fun A B τ S le q => he.mono _ _ _ _ _ _ le.xe (fun _ _ z => le.nx _ _ z) q, pS_imp (ps_set hN hi hx he.run hs hf) fun D σ H ⟨E, τ, S, w, r, q⟩ => ?_⟩
  exact he.to w r q fun d S' v H' le w' r' rd z => z _ H' le ⟨r'.st.set i rd, r'.rep⟩
end

/-! ### while -/
def dWh (c : DTT) (tb : DTS) (A : DEnds) : Nat → DSt → DH → Prop
  | 0, _, _ => False
  | n + 1, τ, S => c A.xe τ S fun b S' => if b = true then tb { A with nx := dWh c tb A n, ct := dWh c tb A n, bk := A.nx } τ S' else A.nx τ S'
def dWhile (c : DTT) (tb : DTS) : DTS := fun A τ S => ∃ n, dWh c tb A n τ S
section
variable {X : Cx} {c : Expr} {body : List Stmt} {tc : DTT} {tb : DTS} {pos : Pos}
theorem dWh_mono (hc : DT X c tc) (hb : DSs X body tb) {A B : DEnds} (le : DEnds.Le A B) : ∀ (n : Nat) (τ : DSt) (S : DH), dWh tc tb A n τ S → dWh tc tb B n τ S
  | 0, _, _, q => q
  | n + 1, τ, S, q => hc.mono _ _ _ _ _ _ le.xe (fun b S' z => by
      cases b with
      | true => exact hb.mono { A with nx := dWh tc tb A n, ct := dWh tc tb A n, bk := A.nx } { B with nx := dWh tc tb B n, ct := dWh tc tb B n, bk := B.nx } _ _ ⟨fun τ S w => dWh_mono hc hb le n τ S w, le.rt, le.nx, fun τ S w => dWh_mono hc hb le n τ S w, le.xe⟩ z
      | false => exact le.nx _ _ z) q
theorem ds_while (hp : PassesOwn (model X.prog X.w) X.A X.env X.xe) (hc : DT X c tc) (hb : DSs X body tb) : DS X (.While c body [] pos) (dWhile tc tb) := by
  refine ⟨fun A B τ S le ⟨n, q⟩ => ⟨n, dWh_mono hc hb le n τ S q⟩, pS_imp (ps_while hp hc.run hb.run) fun D σ H ⟨E, τ, S, w, r, n, q⟩ => ?_⟩
  refine ⟨fun m σ' H' => LeH H H' ∧ ∃ τ' S', Rel X.w X.K τ' S' σ' H' ∧ dWh tc tb (dnE X.w X.K H D E) m τ' S', ⟨n, LeH.refl H, τ, S, r, q⟩, ?_⟩
  rintro m σ1 H1 ⟨le1, τ1, S1, r1, q1⟩
  cases m with
  | zero => exact q1.elim
  | succ m =>
    refine hc.to (w.le le1) r1 q1 fun b S2 H2 le2 w2 r2 z => ?_
    cases b with
    | false => exact z σ1 H2 (le1.trans le2) r2
    | true =>
      rw [if_pos rfl]
      have again : ∀ τ3 S3, dWh tc tb (dnE X.w X.K H D E) m τ3 S3 → ∀ σ3 H3, LeH H2 H3 → Rel X.w X.K τ3 S3 σ3 H3 → LeH H H3 ∧ ∃ τ' S', Rel X.w X.K τ' S' σ3 H3 ∧ dWh tc tb (dnE X.w X.K H D E) m τ' S' :=
        fun τ3 S3 y σ3 H3 le3 r3 => ⟨le1.trans (le2.trans le3), τ3, S3, r3, y⟩
      refine ⟨fun σ3 H3 => LeH H H3 ∧ ∃ τ' S', Rel X.w X.K τ' S' σ3 H3 ∧ dWh tc tb (dnE X.w X.K H D E) m τ' S', fun σ3 H3 y => ⟨m, Nat.lt_succ_self m, y⟩, hb.to w2 r2 z ⟨again, ?_, ?_, again, fun _ _ _ _ y => y⟩⟩
      · exact fun d S3 y v H3 le3 r3 rd => y v H3 (le1.trans (le2.trans le3)) r3 rd
      · exact fun τ3 S3 y σ3 H3 le3 r3 => y σ3 H3 (le1.trans (le2.trans le3)) r3
end

/-! ### what is walked -/
structure Feeds (w : World) (K : PySem.W.Frag) (H0 : Hp) (J : It) (G : DH → Prop) (ds : List D) : Prop where
  go : ∀ i S H, LeH H0 H → Rep w K S H → G S → i < ds.length → J.go i H
  yld : ∀ i S H x H', LeH H0 H → Rep w K S H → G S → i < ds.length → J.yld i H x H' → LeH H H' ∧ Rep w K S H' ∧ ∃ d, ds[i]? = some d ∧ RD K H' d x
  stop : ∀ S H, LeH H0 H → Rep w K S H → G S → J.stop ds.length H
abbrev DTI := DW → DSt → DH → ((DH → Prop) → List D → DH → Prop) → Prop
def upI (X : Cx) (ti : DTI) : TI := fun σ H R => ∃ E τ S, Wish X E H ∧ Rel X.w X.K τ S σ H ∧ ti E τ S fun G ds S' => ∀ J H', LeH H H' → Rep X.w X.K S' H' → Feeds X.w X.K H' J G ds → R J H'
structure DI (X : Cx) (tg iter : Expr) (ti : DTI) : Prop where
  mono : ∀ (E E' : DW) τ S (Q Q' : (DH → Prop) → List D → DH → Prop), (∀ C fs τ S, E C fs τ S → E' C fs τ S) → (∀ G d S', Q G d S' → Q' G d S') → ti E τ S Q → ti E' τ S Q'
  run : PI X tg iter (upI X ti)
theorem pI_imp {X : Cx} {tg e : Expr} {t t' : TI} (h : PI X tg e t) (k : ∀ σ H R, t' σ H R → t σ H R) : PI X tg e t' := ⟨fun pins s σ H R I q => h.run pins s σ H R I (k σ H R q)⟩
@[simp] def dLoop (g : DTG) (tb : DTS) (A : DEnds) (G : DH → Prop) : List D → DSt → DH → Prop
  | [], τ, S => G S ∧ A.nx τ S
  | d :: ds, τ, S => G S ∧ g d τ S fun τ1 S1 => tb { A with nx := dLoop g tb A G ds, ct := dLoop g tb A G ds, bk := A.nx } τ1 S1
@[simp] def dFor (ti : DTI) (g : DTG) (tb : DTS) : DTS := fun A τ S => ti A.xe τ S fun G ds S' => dLoop g tb A G ds τ S'
section
variable {X : Cx} {tg iter : Expr} {body : List Stmt} {ti : DTI} {g : DTG} {tb : DTS} {pos : Pos}
theorem DI.to (h : DI X tg iter ti) {E : DW} {τ : DSt} {S : DH} {σ : St} {H : Hp} {Q0 : (DH → Prop) → List D → DH → Prop} {R : It → Hp → Prop} (w : Wish X E H) (r : Rel X.w X.K τ S σ H) (q : ti E τ S Q0)
    (k : ∀ G ds S' J H', LeH H H' → Wish X E H' → Rel X.w X.K τ S' σ H' → Feeds X.w X.K H' J G ds → Q0 G ds S' → R J H') : upI X ti σ H R :=
  ⟨E, τ, S, w, r, h.mono _ _ _ _ _ _ (fun _ _ _ _ z => z) (fun G ds S' z J H' le rp f => k G ds S' J H' le (w.le le) (r.le le rp) f z) q⟩
theorem dLoop_mono (hg : DG X tg g) (hb : DSs X body tb) {A B : DEnds} (le : DEnds.Le A B) {G : DH → Prop} : ∀ (ds : List D) (τ : DSt) (S : DH), dLoop g tb A G ds τ S → dLoop g tb B G ds τ S
  | [], _, _, q => ⟨q.1, le.nx _ _ q.2⟩
  | d :: ds, τ, S, q => ⟨q.1, hg.mono _ _ _ _ _ (fun τ1 S1 z => hb.mono { A with nx := dLoop g tb A G ds, ct := dLoop g tb A G ds, bk := A.nx } { B with nx := dLoop g tb B G ds, ct := dLoop g tb B G ds, bk := B.nx } _ _ ⟨fun τ S w => dLoop_mono hg hb le ds τ S w, le.rt, le.nx, fun τ S w => dLoop_mono hg hb le ds τ S w, le.xe⟩ z) q.2⟩
theorem drop_at {α : Type} {ds : List α} {i : Nat} {d : α} (h : ds[i]? = some d) : ds.drop i = d :: ds.drop (i + 1) := by
  obtain ⟨hi, e⟩ := List.getElem?_eq_some_iff.mp h
  rw [List.drop_eq_getElem_cons hi, e]
theorem ds_for (hp : PassesOwn (model X.prog X.w) X.A X.env X.xe) (hc : X.calm = true) (hi : DI X tg iter ti) (hg : DG X tg g) (hb : DSs X body tb) (hs : ∀ x, foldedSetIterable iter X.env x = pure x := by intro _; rfl) :
    DS X (.For tg iter body [] pos) (dFor ti g tb) := by
  refine ⟨fun A B τ S le q => hi.mono _ _ _ _ _ _ le.xe (fun G ds S' z => dLoop_mono hg hb le ds τ S' z) q, pS_imp (ps_for hp hc hi.run hg.run hb.run hs) fun D σ H ⟨E, τ, S, w, r, q⟩ => ?_⟩
  refine hi.to w r q fun G ds S0 J H0 le0 w0 r0 f z => ?_
  refine ⟨fun i m σ' H' => m = ds.length - i ∧ i ≤ ds.length ∧ LeH H0 H' ∧ ∃ τ' S', Rel X.w X.K τ' S' σ' H' ∧ dLoop g tb (dnE X.w X.K H D E) G (ds.drop i) τ' S', ⟨ds.length, by omega, Nat.zero_le _, LeH.refl H0, τ, S0, r0, z⟩, ?_⟩
  rintro i m σ1 H1 ⟨rfl, hle, le1, τ1, S1, r1, q1⟩
  by_cases hlt : i < ds.length
  · have e0 : ds[i]? = some ds[i] := List.getElem?_eq_getElem hlt
    rw [drop_at e0] at q1
    obtain ⟨hG, q1⟩ := q1
    refine .inr ⟨f.go i S1 H1 le1 r1.rep hG hlt, fun σ2 H2 => LeH H0 H2 ∧ ∃ τ' S', Rel X.w X.K τ' S' σ2 H2 ∧ dLoop g tb (dnE X.w X.K H D E) G (ds.drop (i + 1)) τ' S', fun σ2 H2 ⟨l, y⟩ => ⟨ds.length - (i + 1), by omega, rfl, hlt, l, y⟩, fun x H2 hy => ?_⟩
    obtain ⟨le2, rp2, d, ed, rd⟩ := f.yld i S1 H1 x H2 le1 r1.rep hG hlt hy
    rw [e0] at ed
    cases ed
    refine hg.to (r1.le le2 rp2) rd q1 fun τ3 S3 σ3 H3 le3 r3 q3 => ?_
    have l03 := le1.trans (le2.trans le3)
    refine hb.to (w0.le l03) r3 q3 ⟨?_, ?_, ?_, ?_, fun _ _ _ _ y => y⟩
    · exact fun τ4 S4 y σ4 H4 le4 r4 => ⟨l03.trans le4, τ4, S4, r4, y⟩
    · exact fun d S4 y v H4 le4 r4 rd => y v H4 (le0.trans (l03.trans le4)) r4 rd
    · exact fun τ4 S4 y σ4 H4 le4 r4 => y σ4 H4 (le0.trans (l03.trans le4)) r4
    · exact fun τ4 S4 y σ4 H4 le4 r4 => ⟨l03.trans le4, τ4, S4, r4, y⟩
  · have e : i = ds.length := by omega
    subst e
    rw [List.drop_length] at q1
    exact .inl ⟨f.stop S1 H1 le1 r1.rep q1.1, q1.2 σ1 H1 (le0.trans le1) r1⟩
end
/-! ### comprehensions -/
@[simp] def wipeD (τ : DSt) : List Nat → DSt
  | [] => τ
  | v :: vs => (wipeD τ vs).set v none
theorem RSt.wipe {K : PySem.W.Frag} {H : Hp} {τ : DSt} {σ : St} (r : RSt K H τ σ) : ∀ vs : List Nat, RSt K H (wipeD τ vs) (L2.wipe σ vs)
  | [] => r
  | v :: vs => by
    have q := RSt.wipe r vs
    refine ⟨by simp only [wipeD, L2.wipe, List.length_set]; exact q.len, fun i d e => ?_⟩
    simp only [wipeD, L2.wipe, List.getElem?_set] at e ⊢
    by_cases z : v = i
    · rw [if_pos z] at e
      split at e <;> cases e
    · rw [if_neg z] at e
      rw [if_neg z]
      exact q.get i d e
@[simp] def dLcL (g : DTG) (tt : DTT) (te : DTE) (E : DW) (τ : DSt) (G : DH → Prop) (p : Addr) (Q : DH → Prop) : List D → DH → Prop
  | [], S => G S ∧ Q S
  | d :: ds, S => G S ∧ g d τ S fun τ1 S1 => tt E τ1 S1 fun b S2 => if b = true then te E τ1 S2 fun y S3 => (match S3 p with | some (.lst acc) => acc.length < sizeLine ∧ dLcL g tt te E τ G p Q ds (upo S3 p (.lst (acc ++ [y]))) | _ => False) else dLcL g tt te E τ G p Q ds S2
@[simp] def dLc (ti : DTI) (g : DTG) (tt : DTT) (te : DTE) (vs : List Nat) : DTE := fun E τ S Q => ti E τ S fun G ds S' => newO S' (.lst []) fun p S1 => dLcL g tt te DW0 (wipeD τ vs) G p (Q (.ref p)) ds S1
structure DTs (X : Cx) (ifs : List Expr) (t : DTT) : Prop where
  mono : ∀ (E E' : DW) τ S (Q Q' : Bool → DH → Prop), (∀ C fs τ S, E C fs τ S → E' C fs τ S) → (∀ d S', Q d S' → Q' d S') → t E τ S Q → t E' τ S Q'
  run : PTs X ifs (upT X t)
@[simp] def dYes : DTT := fun _ _ S Q => Q true S
section
variable {X : Cx} {c : Expr} {t : DTT}
theorem pTs_imp {ifs : List Expr} {t t' : TT} (h : PTs X ifs t) (k : ∀ σ H Q, t' σ H Q → t σ H Q) : PTs X ifs t' := ⟨fun pins s σ H Q I q => h.run pins s σ H Q I (k σ H Q q)⟩
theorem dts_nil : DTs X [] dYes := ⟨fun _ _ _ _ _ _ _ k q => k _ _ q, pTs_imp pts_nil fun σ H Q ⟨E, τ, S, w, r, q⟩ => q H (LeH.refl H) r.rep⟩
theorem dts_one (h : DT X c t) : DTs X [c] t := ⟨h.mono, pts_one h.run⟩
end
def upT0 (w : World) (K : PySem.W.Frag) (t : DTT) : TT := fun σ H Q => ∃ τ S, Rel w K τ S σ H ∧ t DW0 τ S fun b S' => ∀ H', LeH H H' → Rep w K S' H' → Q b H'
def upE0 (w : World) (K : PySem.W.Frag) (t : DTE) : TE := fun σ H Q => ∃ τ S, Rel w K τ S σ H ∧ t DW0 τ S fun d S' => ∀ v H', LeH H H' → Rep w K S' H' → RD K H' d v → Q v H'
theorem DTs.zero {X : Cx} {ifs : List Expr} {t : DTT} (h : DTs X ifs t) : PTs X ifs (upT0 X.w X.K t) := pTs_imp h.run fun σ H Q ⟨τ, S, r, q⟩ => ⟨DW0, τ, S, wish0, r, q⟩
theorem DE.zero {X : Cx} {e : Expr} {t : DTE} (h : DE X e t) : PE X e (upE0 X.w X.K t) := pE_imp h.run fun σ H Q ⟨τ, S, r, q⟩ => ⟨DW0, τ, S, wish0, r, q⟩
theorem wipe_get (σ : L2.St) (j : Nat) : ∀ vs : List Nat, (L2.wipe σ vs)[j]? = if j ∈ vs then σ[j]?.map (fun _ => none) else σ[j]?
  | [] => by simp [L2.wipe]
  | v :: vs => by
    rw [L2.wipe, List.getElem?_set, L2.wipe_length, wipe_get σ j vs]
    by_cases e : v = j
    · subst e
      by_cases l : v < σ.length
      · simp [l]
      · simp [l]
    · have e' : ¬ j = v := fun z => e z.symm
      rw [if_neg e]
      by_cases m : j ∈ vs
      · simp [m]
      · simp [m, e']
theorem wipe_set {σ : L2.St} {i : Nat} {x : Option V} {vs : List Nat} (h : i ∈ vs) : L2.wipe (σ.set i x) vs = L2.wipe σ vs := by
  refine List.ext_getElem? fun j => ?_
  rw [wipe_get, wipe_get, List.getElem?_set]
  by_cases e : i = j
  · subst e
    rw [if_pos h, if_pos h, if_pos rfl]
    by_cases l : i < σ.length
    · simp [l]
    · simp [l]
  · rw [if_neg e]
theorem wipe_wipe (σ : L2.St) (vs : List Nat) : L2.wipe (L2.wipe σ vs) vs = L2.wipe σ vs := by
  refine List.ext_getElem? fun j => ?_
  rw [wipe_get, wipe_get]
  by_cases m : j ∈ vs
  · rw [if_pos m, if_pos m]
    cases σ[j]? <;> rfl
  · rw [if_neg m]
/-- a target that stores in vs alone -/
def upGw (w : World) (K : PySem.W.Frag) (vs : List Nat) (t : DTG) : TG := fun v σ H Q => ∃ d τ S, Rel w K τ S σ H ∧ RD K H d v ∧ t d τ S fun τ' S' => ∀ σ' H', LeH H H' → Rel w K τ' S' σ' H' → L2.wipe σ' vs = L2.wipe σ vs → Q σ' H'
def upGsw (w : World) (K : PySem.W.Frag) (vs : List Nat) (t : DTGs) : TGs := fun us σ H Q => ∃ ds τ S, Rel w K τ S σ H ∧ RDs K H ds us ∧ t ds τ S fun τ' S' => ∀ σ' H', LeH H H' → Rel w K τ' S' σ' H' → L2.wipe σ' vs = L2.wipe σ vs → Q σ' H'
structure DGw (X : Cx) (vs : List Nat) (tg : Expr) (t : DTG) : Prop where
  mono : ∀ d τ S (Q Q' : DSt → DH → Prop), (∀ τ S, Q τ S → Q' τ S) → t d τ S Q → t d τ S Q'
  run : PG X tg (upGw X.w X.K vs t)
structure DGsw (X : Cx) (vs : List Nat) (tg : List Expr) (t : DTGs) : Prop where
  mono : ∀ d τ S (Q Q' : DSt → DH → Prop), (∀ τ S, Q τ S → Q' τ S) → t d τ S Q → t d τ S Q'
  run : PGs X tg (upGsw X.w X.K vs t)
section
variable {X : Cx} {tg e : Expr} {tgs : List Expr} {t : DTG} {ts : DTGs} {te : DTE} {pos : Pos} {vs : List Nat}
theorem dw_name {i : Nat} {x : Str} (hN : X.N.Nodup) (hi : X.N[i]? = some x) (hx : Loc X.env.scope x) (hv : i ∈ vs) (hf : X.fn x = true ∨ X.env.scope.names.lookup x = some .local := by first | exact .inl rfl | exact .inr rfl | assumption) : DGw X vs (.Name x pos) (dGN i) :=
  ⟨fun _ _ _ _ _ k q => k _ _ q, pG_imp (pg_name hN hi hx hf) fun v σ H Q ⟨d, τ, S, r, rd, q⟩ => q _ _ (LeH.refl H) ⟨r.st.set i rd, r.rep⟩ (wipe_set hv)⟩
end
/-- the block's parts, at any block -/
structure Blk (X : Cx) (scope : Scope) (vs : List Nat) (elt tg : Expr) (ifs : List Expr) (g : DTG) (tt : DTT) (te : DTE) : Prop where
  hg : ∀ (s : Shared) (H : Hp) (C : Addr) (cl : List (Str × Addr)) (fp : List Addr), DGw (X.blk s H scope (compEnvC scope cl C X.env) fp) vs tg g
  ht : ∀ (s : Shared) (H : Hp) (C : Addr) (cl : List (Str × Addr)) (fp : List Addr), DTs (X.blk s H scope (compEnvC scope cl C X.env) fp) ifs tt
  he : ∀ (s : Shared) (H : Hp) (C : Addr) (cl : List (Str × Addr)) (fp : List Addr), DE (X.blk s H scope (compEnvC scope cl C X.env) fp) elt te
section
variable {X : Cx} {elt tg iter : Expr} {ifs : List Expr} {scope : Scope} {own : List (Str × Nat)} {pos spos py : Pos} {ti : DTI} {g : DTG} {tt : DTT} {te : DTE}
theorem dLcL_mono {X' : Cx} {vs : List Nat} (hg : DGw X' vs tg g) (ht : DTs X' ifs tt) (he : DE X' elt te) {E : DW} {τ : DSt} {G : DH → Prop} {p : Addr} {Q Q' : DH → Prop} (k : ∀ S, Q S → Q' S) : ∀ (ds : List D) (S : DH), dLcL g tt te E τ G p Q ds S → dLcL g tt te E τ G p Q' ds S
  | [], _, q => ⟨q.1, k _ q.2⟩
  | d :: ds, S, q => ⟨q.1, hg.mono _ _ _ _ _ (fun τ1 S1 z => ht.mono _ _ _ _ _ _ (fun _ _ _ _ y => y) (fun b S2 z => by
      cases b with
      | true =>
        refine he.mono _ _ _ _ _ _ (fun _ _ _ _ y => y) (fun y S3 z => ?_) z
        split at z
        · exact ⟨z.1, dLcL_mono hg ht he k ds _ z.2⟩
        · exact z
      | false => exact dLcL_mono hg ht he k ds _ z) z) q.2⟩
theorem dLc_mono {vs : List Nat} (hi : DI X tg iter ti) (B : Blk X scope vs elt tg ifs g tt te) (E E' : DW) (τ : DSt) (S : DH) (Q Q' : DK) (he : ∀ C fs τ S, E C fs τ S → E' C fs τ S) (k : ∀ d S', Q d S' → Q' d S') (q : dLc ti g tt te vs E τ S Q) : dLc ti g tt te vs E' τ S Q' :=
  hi.mono _ _ _ _ _ _ he (fun G ds S' z p hp => dLcL_mono (B.hg X.s_0 (fun _ => none) 0 [] []) (B.ht X.s_0 (fun _ => none) 0 [] []) (B.he X.s_0 (fun _ => none) 0 [] []) (fun S h => k _ _ h) ds _ (z p hp)) q
theorem dLc_up {vs : List Nat} (hi : DI X tg iter ti) (B : Blk X scope vs elt tg ifs g tt te) {σ : L2.St} {H : Hp} {Q : VK} (h : upE X (dLc ti g tt te vs) σ H Q) : tLc (upI X ti) (upGw X.w X.K vs g) (upT0 X.w X.K tt) (upE0 X.w X.K te) vs σ H Q := by
  obtain ⟨E, τ, S, w, r, q⟩ := h
  refine hi.to w r q fun G ds S0 J H0 le0 w0 r0 f z => fun p hp => ?_
  have z1 := z p (r0.rep.free hp)
  refine ⟨fun i m H' => m = ds.length - i ∧ i ≤ ds.length ∧ LeH H0 H' ∧ ∃ S', Rep X.w X.K S' H' ∧ dLcL g tt te DW0 (wipeD τ vs) G p (fun S => ∀ v H', LeH H H' → Rep X.w X.K S H' → RD X.K H' (.ref p) v → Q v H') (ds.drop i) S', ⟨ds.length, by omega, Nat.zero_le _, LeH.new hp, _, r0.rep.new hp (o := .lst []) ⟨[], upd_same, rfl⟩, z1⟩, ?_⟩
  rintro i m H1 ⟨rfl, hle, le1, S1, r1, q1⟩
  have st1 : RSt X.K H1 (wipeD τ vs) (L2.wipe σ vs) := (r0.st.wipe vs).le le1
  by_cases hlt : i < ds.length
  · have e0 : ds[i]? = some ds[i] := List.getElem?_eq_getElem hlt
    rw [drop_at e0] at q1
    obtain ⟨hG, q1⟩ := q1
    have again : ∀ S' H', LeH H1 H' → Rep X.w X.K S' H' → dLcL g tt te DW0 (wipeD τ vs) G p (fun S => ∀ v H', LeH H H' → Rep X.w X.K S H' → RD X.K H' (.ref p) v → Q v H') (ds.drop (i + 1)) S' →
        LeH H0 H' ∧ ∃ S', Rep X.w X.K S' H' ∧ dLcL g tt te DW0 (wipeD τ vs) G p (fun S => ∀ v H', LeH H H' → Rep X.w X.K S H' → RD X.K H' (.ref p) v → Q v H') (ds.drop (i + 1)) S' := fun S' H' le r' y => ⟨le1.trans le, S', r', y⟩
    refine .inr ⟨f.go i S1 H1 le1 r1 hG hlt, _, fun H2 y => ⟨ds.length - (i + 1), by omega, rfl, hlt, y⟩, fun x H2 hy => ?_⟩
    obtain ⟨le2, rp2, d, ed, rd⟩ := f.yld i S1 H1 x H2 le1 r1 hG hlt hy
    rw [e0] at ed
    cases ed
    refine ⟨ds[i], wipeD τ vs, S1, ⟨st1.le le2, rp2⟩, rd, (B.hg X.s_0 (fun _ => none) 0 [] []).mono _ _ _ _ _ (fun τ3 S3 q3 σ3 H3 le3 r3 hw => ?_) q1⟩
    refine ⟨hw.trans (wipe_wipe σ vs), τ3, S3, r3, (B.ht X.s_0 (fun _ => none) 0 [] []).mono _ _ _ _ _ _ (fun _ _ _ _ y => y) (fun b S4 q4 H4 le4 r4 => ?_) q3⟩
    cases b with
    | false => exact again S4 H4 (le2.trans (le3.trans le4)) r4 q4
    | true =>
      refine ⟨τ3, S4, ⟨r3.st.le le4, r4⟩, (B.he X.s_0 (fun _ => none) 0 [] []).mono _ _ _ _ _ _ (fun _ _ _ _ y => y) (fun y S5 q5 v H5 le5 r5 rv => ?_) q4⟩
      split at q5
      · rename_i acc ea
        obtain ⟨xs, hx, rxs⟩ : ∃ xs, H5 p = some (.lst xs) ∧ RDs X.K H5 acc xs := r5 p _ ea
        have le6 : LeH H5 (upd H5 p (.lst (xs ++ [v]))) := LeH.put hx trivial
        exact ⟨xs, hx, by rw [← rxs.length]; exact q5.1, again _ _ (le2.trans (le3.trans (le4.trans (le5.trans le6)))) (r5.put hx trivial (o := .lst (acc ++ [y])) ⟨_, upd_same, (rxs.snoc rv).le le6⟩) q5.2⟩
      · exact q5.elim
  · have e : i = ds.length := by omega
    subst e
    rw [List.drop_length] at q1
    exact .inl ⟨f.stop S1 H1 le1 r1 q1.1, q1.2 _ H1 (le0.trans le1) r1 rfl⟩
theorem de_lc (hc : X.calm = true) (hN : X.N.Nodup) (hi : DI X tg iter ti) (ok : BlkOk X.N X.env.scope scope own) (B : Blk X scope (own.map (·.2)) elt tg ifs g tt te) (hs : ∀ x, foldedSetIterable iter X.env x = pure x := by intro _; rfl) :
    DE X (.ListComp elt [⟨tg, iter, ifs, 0⟩] scope pos) (dLc ti g tt te (own.map (·.2))) :=
  ⟨dLc_mono hi B, pE_imp (pe_lc (g := upGw X.w X.K (own.map (·.2)) g) (tt := upT0 X.w X.K tt) (te := upE0 X.w X.K te) hc hN hi.run ok (fun s H C cl fp => (B.hg s H C cl fp).run) (fun s H C cl fp => (B.ht s H C cl fp).zero) (fun s H C cl fp => (B.he s H C cl fp).zero) hs) fun σ H Q h => dLc_up hi B h⟩
theorem ds_setLc {i : Nat} {y : Str} (hc : X.calm = true) (hN : X.N.Nodup) (hy : X.N[i]? = some y) (hyl : X.env.scope.names.lookup y = some .local)
    (hsw : swapsWith (.ListComp elt [⟨tg, iter, ifs, 0⟩] scope pos) (some (.Name y py)) spos.line X.env = pure true) (hi : DI X tg iter ti) (ok : BlkOk X.N X.env.scope scope own) (B : Blk X scope (own.map (·.2)) elt tg ifs g tt te)
    (hs : ∀ x, foldedSetIterable iter X.env x = pure x := by intro _; rfl) : DS X (.Assign [.Name y py] (.ListComp elt [⟨tg, iter, ifs, 0⟩] scope pos) spos) (dAsg (dLc ti g tt te (own.map (·.2))) (dGN i)) := by
  refine ⟨fun A B' τ S le q => dLc_mono hi B _ _ _ _ _ _ le.xe (fun _ _ z => le.nx _ _ z) q, pS_imp (ps_setLc (g := upGw X.w X.K (own.map (·.2)) g) (tt := upT0 X.w X.K tt) (te := upE0 X.w X.K te) hc hN hy hyl hsw hi.run ok (fun s H C cl fp => (B.hg s H C cl fp).run) (fun s H C cl fp => (B.ht s H C cl fp).zero) (fun s H C cl fp => (B.he s H C cl fp).zero) hs) fun D σ H ⟨E, τ, S, w, r, q⟩ => ?_⟩
  refine dLc_up hi B ⟨E, τ, S, w, r, dLc_mono hi B _ _ _ _ _ _ (fun _ _ _ _ z => z) (fun d S' z v H' le rp rd => ?_) q⟩
  exact z _ H' le ⟨(r.st.le le).set i rd, rp⟩
end
end Dt
set_option maxRecDepth 100000
set_option maxHeartbeats 4000000
/-! Dat3: defs and their promises, calls, instances. -/
namespace Dt
open PySem PySem.Spec L2

abbrev DXK := Addr → List (Str × D) → DH → Prop
abbrev DSp := List D → DH → DK → DXK → Prop
def lQ (w : World) (K : PySem.W.Frag) (H : Hp) (Q : VK) : DK := fun d S' => ∀ v H', LeH H H' → Rep w K S' H' → RD K H' d v → Q v H'
def lX (w : World) (K : PySem.W.Frag) (H : Hp) (E : XK) : DXK := fun C fs S' => ∀ dd ws H', LeH H H' → Rep w K S' H' → H' dd = some (.xd ws) → RKs K H' fs ws → S' dd = none → E (.ref C) (some dd) H'
def upSp (w : World) (K : PySem.W.Frag) (sp : DSp) : Sp := fun vs H Q E => ∃ ds S, Rep w K S H ∧ RDs K H ds vs ∧ sp ds S (lQ w K H Q) (lX w K H E)
structure DFn (P : Program) (w : World) (K : PySem.W.Frag) (mg : Str → Option Value) (base : Heap) (k : Nat) (f : Addr) (fd : FuncData) (ps : List Str) (sp : DSp) : Prop where
  mono : ∀ ds S (Q Q' : DK) (E E' : DXK), (∀ d S', Q d S' → Q' d S') → (∀ C fs S', E C fs S' → E' C fs S') → sp ds S Q E → sp ds S Q' E'
  len : ∀ ds S Q E, sp ds S Q E → ds.length = ps.length
  run : ∀ (A : Around) (outer : List Env) (s : Shared) (H : Hp) (args : Args) (us : List Value) (vs : List V) (Q : VK) (E : XK), Room k A → A.guards = some [] → Env0 P w K mg base A outer s H → BindsTo s fd args (ps.zip us) → Vals vs us →
    upSp w K sp vs H Q E → codeAny (model P w) A (.call (.ref f) args) (CR (L2.CX P w) outer P w H s Q E) s
theorem DFn.more {P : Program} {w : World} {K : PySem.W.Frag} {mg : Str → Option Value} {base : Heap} {j k : Nat} {f : Addr} {fd : FuncData} {ps : List Str} {sp : DSp} (F : DFn P w K mg base j f fd ps sp) (h : j ≤ k) : DFn P w K mg base k f fd ps sp :=
  ⟨F.mono, F.len, fun A outer s H args us vs Q E hr => F.run A outer s H args us vs Q E (hr.mono h)⟩

section
variable {X : Cx} {k : Nat} {f C : Addr} {fd : FuncData} {ps : List Str} {sp : DSp} {x m : Str} {p pos apos : Pos} {e o : Expr} {es : List Expr} {ta : DTE} {t : DTA}
theorem run_dfn {pins : List (Addr × Obj)} {s : Shared} {us : List Value} {vs : List V} {ds : List D} {E : DW} {τ : DSt} {S : DH} {σ : L2.St} {H : Hp} {Q0 : DK} {Q : VK} (F : DFn X.prog X.w X.K X.mg X.base k f fd ps sp) (hr : Room k X.A) (gu : X.A.guards = some []) (hb : Binds X.K fd ps [])
    (I : Inv X pins σ H s) (w : Wish X E H) (rl : Rel X.w X.K τ S σ H) (r : Vals vs us) (rd : RDs X.K H ds vs) (h : sp ds S Q0 (fun C fs S' => E C fs τ S')) (kq : ∀ d S' v H', LeH H H' → Rep X.w X.K S' H' → RD X.K H' d v → Q0 d S' → Q v H') :
    wpAny (model X.prog X.w) X.A (call (.ref f) us) (EP X pins σ Q) X.xe s := by
  have hl : (us ++ []).length = ps.length := by rw [List.append_nil, ← r.length, ← rd.length]; exact F.len _ _ _ _ h
  have hbd := hb s us I.kIn hl
  rw [List.append_nil] at hbd
  refine wpAny_call (codeAny_mono (F.run X.A X.stack s H ⟨us, []⟩ us vs Q (fun cls d H' => upW X.w X.K E H cls d σ H') hr gu I.env0 hbd r ⟨ds, S, rl.rep, rd, F.mono _ _ _ _ _ _ (fun d S' q v H' le rp rv => kq d S' v H' le rp rv q)
    (fun C fs S' q dd ws H' le rp hx rk hn => ⟨C, fs, τ, S', dd, ws, rfl, rfl, le, rl.le le rp, hx, rk, hn, q⟩) h⟩) fun r s' hq => ?_)
  cases r with
  | error e => exact w e s' (XE.of_call I (fun _ _ _ h => h) hq)
  | ok fl =>
    cases fl with
    | ret u => exact I.after hq
    | next => exact False.elim hq
    | brk => exact False.elim hq
    | cont => exact False.elim hq
@[simp] def dCall (sp : DSp) (t : DTA) : DTE := fun E τ S Q => t E τ S fun ds S1 => sp ds S1 Q fun C fs S' => E C fs τ S'
theorem de_call (F : DFn X.prog X.w X.K X.mg X.base k f fd ps sp) (hr : Room k X.A) (gu : X.A.guards = some []) (hg : Gl X x) (hm : X.mg x = some (.ref f)) (hk : PySem.W.keepIn X.K (.ref f) = true) (hb : Binds X.K fd ps []) (ha : DA X (e :: es) t)
    (hdb : (x == ("__debug__" : Str)) = false := by decide) (he : starEach (e :: es) X.env = (false, eval e X.env) :: starEach es X.env := by rfl) (hpl : (backTo pos (starEach es X.env)).any (·.1) = false := by rfl) :
    DE X (.Call (.Name x p) (e :: es) [] pos) (dCall sp t) := by
  refine ⟨fun E E' τ S Q Q' hE kq q => ha.mono _ _ _ _ _ _ hE (fun ds S1 z => F.mono _ _ _ _ _ _ kq (fun C fs S' y => hE _ _ _ _ y) z) q, ⟨fun pins s σ H Q I ⟨E, τ, S, w, r, q⟩ => ?_⟩⟩
  refine PySem.wpAny_Call_Name_kw (ld_glob I hg hm ?_ hdb)
  refine PySem.W.callWith_K (h₀ := X.base) I.ok.mod.kin hk (thn (ha.run.run pos pins s σ H _ I (ha.to w r q fun ds S1 vs H1 le1 w1 r1 rd1 z => (⟨LeH.refl H1, le1, w1, r1, rd1, z⟩ : LeH H1 H1 ∧ LeH H H1 ∧ Wish X E H1 ∧ Rel X.w X.K τ S1 σ H1 ∧ RDs X.K H1 ds vs ∧ _) |> fun a => (⟨ds, S1, a⟩ : ∃ ds S1, LeH H1 H1 ∧ LeH H H1 ∧ Wish X E H1 ∧ Rel X.w X.K τ S1 σ H1 ∧ RDs X.K H1 ds vs ∧ sp ds S1 (fun d S' => ∀ v H', LeH H H' → Rep X.w X.K S' H' → RD X.K H' d v → Q v H') fun C fs S' => E C fs τ S'))) fun us s1 ⟨vs, H1, I1, rv, ds, S1, _, le1, w1, r1, rd1, z⟩ => ⟨I1.kIn, ?_⟩) he hpl
  exact run_dfn F hr gu hb I1 w1 r1 rv rd1 z fun d S' v H' le rp rd q2 => q2 v H' (le1.trans le) rp rd
/-! ### fields of instances -/
theorem RKs.lookup {K : PySem.W.Frag} {H : Hp} : ∀ {fs : List (Str × D)} {ws : List (Str × V)} (f : Str), RKs K H fs ws → match fs.lookup f, ws.lookup f with | some d, some v => RD K H d v | none, none => True | _, _ => False
  | [], _, f, h => by cases h; trivial
  | (j, d) :: r, _, f, h => by
    obtain ⟨v, s, rfl, h1, h2⟩ := h
    simp only [List.lookup_cons]
    cases e : f == j with
    | true => exact h1
    | false => exact RKs.lookup f h2
/-- o.m(..) -/
@[simp] def dMeth (C : Addr) (m : Str) (sp : DSp) (ta : DTE) (t : DTA) : DTE := fun E τ S Q => ta E τ S fun d S1 => match d with
  | .ref a => (match S1 a with | some (.ins C' fs) => C' = C ∧ fs.lookup m = none ∧ t E τ S1 fun ds S2 => sp (.ref a :: ds) S2 Q fun C fs S' => E C fs τ S' | _ => False)
  | _ => False
end

/-! ### a def by its body -/
def dstart (N : List Str) (ds : List D) : DSt := ds.map some ++ List.replicate (N.length - ds.length) none
theorem dstart_rel {K : PySem.W.Frag} {H : Hp} {N : List Str} {ds : List D} {vs : List V} (r : RDs K H ds vs) : RSt K H (dstart N ds) (L2.start N vs) := by
  refine ⟨by simp [dstart, L2.start, r.length], fun i d e => ?_⟩
  unfold dstart at e
  unfold L2.start
  by_cases l : i < ds.length
  · rw [List.getElem?_append_left (by simpa using l), List.getElem?_map] at e
    rw [List.getElem?_append_left (by simpa [← r.length] using l), List.getElem?_map]
    cases q : ds[i]? with
    | none => rw [q] at e; cases e
    | some d' =>
      rw [q] at e
      cases e
      obtain ⟨v, h1, h2⟩ := r.get q
      exact ⟨v, by rw [h1]; rfl, h2⟩
  · rw [List.getElem?_append_right (by simpa using l), List.getElem?_replicate] at e
    split at e <;> cases e
theorem guards_deeper {A : Around} {env : Env} (h : A.guards = some []) : (A.deeper env).guards = some [] := by
  first | exact h | (simp [Around.deeper, h])
end Dt
set_option maxRecDepth 100000
set_option maxHeartbeats 4000000
/-! DatU: lists that are written no more are values; what is no more needed is let go. -/
namespace Dt
open PySem PySem.Spec L2

def delo (S : DH) (a : Addr) : DH := fun b => if b = a then none else S b
@[simp] theorem delo_upo {S : DH} {p : Addr} {o : Ob} : delo (upo S p o) p = delo S p := by
  funext b
  unfold delo upo
  split <;> rfl
theorem delo_none {S : DH} {p : Addr} (h : S p = none) : delo S p = S := by
  funext b
  unfold delo
  split
  · rename_i e
    rw [e, h]
  · rfl
/-- a data heap that tells less -/
def Sub (S' S : DH) : Prop := ∀ b o, S' b = some o → S b = some o
theorem Sub.refl (S : DH) : Sub S S := fun _ _ h => h
theorem Sub.trans {S1 S2 S3 : DH} (a : Sub S1 S2) (b : Sub S2 S3) : Sub S1 S3 := fun x o h => b x o (a x o h)
theorem Sub.delo (S : DH) (a : Addr) : Sub (delo S a) S := fun b o h => by
  unfold Dt.delo at h
  split at h
  · cases h
  · exact h
theorem Sub.new {S : DH} {p : Addr} {o : Ob} (h : S p = none) : Sub S (upo S p o) := fun b u e => by
  rw [upo_ne (fun z => by subst z; rw [h] at e; cases e)]
  exact e
section
variable {w : World} {K : PySem.W.Frag} {S S' : DH} {H H' : Hp}
theorem Rep.sub (r : Rep w K S H) (h : Sub S' S) : Rep w K S' H := fun a o e => r a o (h a o e)
end
section
variable {X : Cx} {pins : List (Addr × Obj)} {σ : L2.St} {H : Hp} {s : Shared}
/-- the list at a is written no more -/
theorem inv_frz {a : Addr} {xs : List V} (I : Inv X pins σ H s) (e : H a = some (.lst xs)) : ∃ o, Inv X pins σ (upd H a (.frz o (.lst xs))) s := by
  obtain ⟨hz, its, n, r, eo⟩ := I.hok a _ e
  refine ⟨{ cls := .type "list", data := .seq its.toArray n }, ?_⟩
  have := I.write (t' := s.toks) (h' := s.heap) (x := a) (e := a) (o := .frz { cls := .type "list", data := .seq its.toArray n } (.lst xs)) (by rw [e]; trivial) (.inl rfl) (fun _ _ _ q => q) ⟨_, eo⟩ ⟨eo, hz, its, n, r, eo⟩
  exact this
/-! lists that are written no more, and how a value is seen then -/
mutual
inductive Vw (S : DH) (F : List Addr) : D → D → Prop
  | same (d : D) : Vw S F d d
  | lst {a : Addr} {ds es : List D} : S a = some (.lst ds) → a ∈ F → Vws S F ds es → Vw S F (.ref a) (.rol es)
  | tup {ds es : List D} : Vws S F ds es → Vw S F (.tup ds) (.tup es)
  | rol {ds es : List D} : Vws S F ds es → Vw S F (.rol ds) (.rol es)
inductive Vws (S : DH) (F : List Addr) : List D → List D → Prop
  | nil : Vws S F [] []
  | cons {d e : D} {ds es : List D} : Vw S F d e → Vws S F ds es → Vws S F (d :: ds) (e :: es)
end
theorem Vws.same {S : DH} {F : List Addr} : ∀ ds : List D, Vws S F ds ds
  | [] => .nil
  | d :: ds => .cons (.same d) (Vws.same ds)
/-- what stands behind: F's lists are told as values alone -/
def Bhd (S : DH) (F : List Addr) (S' : DH) : Prop := ∀ b o, S' b = some o → S b = some o ∧ b ∉ F
structure Frzn (w : World) (K : PySem.W.Frag) (S : DH) (F : List Addr) (H : Hp) : Prop where
  get : ∀ a ∈ F, ∀ ds, S a = some (.lst ds) → ∃ xs o, H a = some (.frz o (.lst xs)) ∧ RDs K H ds xs
end
section
variable {w : World} {K : PySem.W.Frag} {S : DH} {F : List Addr} {H : Hp}
mutual
theorem Vw.rd (f : Frzn w K S F H) : ∀ {d e : D} {v : V}, Vw S F d e → RD K H d v → RD K H e v
  | _, _, _, .same _, r => r
  | _, _, v, .lst (a := a) (ds := ds) h1 h2 h3, r => by
    obtain rfl : v = .ref a := r
    obtain ⟨xs, o, e, rs⟩ := f.get _ h2 _ h1
    exact ⟨a, xs, rfl, .inl ⟨o, e⟩, Vws.rd f h3 rs⟩
  | _, _, v, .tup h, r => by
    obtain ⟨p, xs, rfl, sq, rs⟩ : ∃ p xs, v = V.ref p ∧ SqTn K H p xs ∧ RDs K H _ xs := r
    exact ⟨p, xs, rfl, sq, Vws.rd f h rs⟩
  | _, _, v, .rol h, r => by
    obtain ⟨p, xs, rfl, sq, rs⟩ : ∃ p xs, v = V.ref p ∧ SqR K H p xs ∧ RDs K H _ xs := r
    exact ⟨p, xs, rfl, sq, Vws.rd f h rs⟩
theorem Vws.rd (f : Frzn w K S F H) : ∀ {ds es : List D} {vs : List V}, Vws S F ds es → RDs K H ds vs → RDs K H es vs
  | _, _, _, .nil, r => r
  | _, _, vs, .cons h1 h2, r => by
    obtain ⟨v, r', rfl, r1, r2⟩ := r
    exact ⟨v, r', rfl, Vw.rd f h1 r1, Vws.rd f h2 r2⟩
end
end
theorem LeH.frz {H : Hp} {a : Addr} {xs : List V} {o : Obj} (e : H a = some (.lst xs)) : LeH H (upd H a (.frz o (.lst xs))) := LeH.put e trivial
section
variable {X : Cx} {pins : List (Addr × Obj)} {σ : L2.St} {s : Shared}
theorem rep_frz {w : World} {K : PySem.W.Frag} {S : DH} {H : Hp} {a : Addr} {xs : List V} {o : Obj} (r : Rep w K S H) (e : H a = some (.lst xs)) : Rep w K (delo S a) (upd H a (.frz o (.lst xs))) := fun b ob h => by
  unfold delo at h
  split at h
  · cases h
  · rename_i hb
    exact (r b ob h).at (LeH.frz e) (upd_ne hb)
/-- all of F, one by one -/
theorem frz_all {S : DH} : ∀ (F : List Addr) {H : Hp}, Inv X pins σ H s → Rep X.w X.K S H → (∀ a ∈ F, ∃ ds, S a = some (.lst ds)) → F.Nodup →
    ∃ H', Inv X pins σ H' s ∧ LeH H H' ∧ Frzn X.w X.K S F H' ∧ Rep X.w X.K (fun b => if b ∈ F then none else S b) H'
  | [], H, I, r, _, _ => ⟨H, I, LeH.refl H, ⟨fun _ h => nomatch h⟩, by simpa using r⟩
  | a :: F, H, I, r, h, nd => by
    obtain ⟨nd1, nd2⟩ := List.nodup_cons.mp nd
    obtain ⟨ds, ea⟩ := h a (List.mem_cons_self ..)
    obtain ⟨xs, eh, rs⟩ : ∃ xs, H a = some (.lst xs) ∧ RDs X.K H ds xs := r a _ ea
    obtain ⟨o, I1⟩ := inv_frz I eh
    have r1 := rep_frz (o := o) r eh
    obtain ⟨H2, I2, le2, f2, r2⟩ := frz_all (S := delo S a) F I1 r1 (fun b hb => by
      obtain ⟨ds', e'⟩ := h b (List.mem_cons_of_mem _ hb)
      refine ⟨ds', ?_⟩
      unfold delo
      rw [if_neg (fun z : b = a => nd1 (by rw [← z]; exact hb))]
      exact e') nd2
    have le1 : LeH H (upd H a (.frz o (.lst xs))) := LeH.frz eh
    refine ⟨H2, I2, le1.trans le2, ⟨fun b hb ds' e' => ?_⟩, fun b ob hb => ?_⟩
    · rcases List.mem_cons.mp hb with rfl | hb
      · rw [ea] at e'
        cases e'
        exact ⟨xs, o, le2.fl _ _ _ upd_same, rs.le (le1.trans le2)⟩
      · refine f2.get b hb ds' ?_
        unfold delo
        rw [if_neg (fun z : b = a => nd1 (by rw [← z]; exact hb))]
        exact e'
    · refine r2 b ob ?_
      have hb : (if b ∈ a :: F then none else S b) = some ob := hb
      show (if b ∈ F then none else delo S a b) = some ob
      simp only [List.mem_cons] at hb
      by_cases z : b = a
      · rw [if_pos (.inl z)] at hb
        cases hb
      · by_cases z2 : b ∈ F
        · rw [if_pos (.inr z2)] at hb
          cases hb
        · rw [if_neg (fun y => y.elim z z2)] at hb
          rw [if_neg z2]
          unfold delo
          rw [if_neg z]
          exact hb
/-- what a def gives: lists may become values, other things may be let go -/
def Rt (Q : DK) : DK := fun d S => ∃ F d' S', Vw S F d d' ∧ (∀ a ∈ F, ∃ ds, S a = some (.lst ds)) ∧ F.Nodup ∧ Bhd S F S' ∧ Q d' S'
theorem Rt.mono {Q Q' : DK} (k : ∀ d S, Q d S → Q' d S) (d : D) (S : DH) (h : Rt Q d S) : Rt Q' d S := by
  obtain ⟨F, d', S', h1, h2, h3, h4, h5⟩ := h
  exact ⟨F, d', S', h1, h2, h3, h4, k _ _ h5⟩
theorem Rt.same {Q : DK} {d : D} {S : DH} (h : Q d S) : Rt Q d S := ⟨[], d, S, .same d, (fun _ z => nomatch z), .nil, fun b o e => ⟨e, List.not_mem_nil⟩, h⟩
theorem Rt.keep {Q : DK} {d : D} {S S' : DH} (x : Sub S S') (h : Q d S) : Rt Q d S' := ⟨[], d, S, .same d, (fun _ z => nomatch z), .nil, fun b o e => ⟨x b o e, List.not_mem_nil⟩, h⟩
/-- a list of its own is given -/
theorem Rt.rol {Q : DK} {p : Addr} {S S' : DH} {ds : List D} (e : S' p = some (.lst ds)) (n : S p = none) (x : Sub S S') (h : Q (.rol ds) S) : Rt Q (.ref p) S' :=
  ⟨[p], .rol ds, S, .lst e (List.mem_singleton.mpr rfl) (Vws.same ds), fun a ha => ⟨ds, by rw [List.mem_singleton.mp ha]; exact e⟩, List.nodup_cons.mpr ⟨List.not_mem_nil, .nil⟩,
    fun b o eb => ⟨x b o eb, fun z => by rw [List.mem_singleton.mp z, n] at eb; cases eb⟩, h⟩
theorem Rt.to {S : DH} {H : Hp} {d : D} {v : V} {u : Value} {Q : DK} {Q' : VK} (I : Inv X pins σ H s) (r : Rep X.w X.K S H) (rd : RD X.K H d v) (ru : RelV v u) (h : Rt Q d S)
    (k : ∀ d S' v H', LeH H H' → Rep X.w X.K S' H' → RD X.K H' d v → Q d S' → Q' v H') : ∃ v H', Inv X pins σ H' s ∧ RelV v u ∧ LeH H H' ∧ Q' v H' := by
  obtain ⟨F, d', S', h1, h2, h3, h4, h5⟩ := h
  obtain ⟨H', I', le, f, r'⟩ := frz_all F I r h2 h3
  refine ⟨v, H', I', ru, le, k d' S' v H' le (r'.sub fun b o e => ?_) (Vw.rd f h1 (rd.le le)) h5⟩
  obtain ⟨e1, e2⟩ := h4 b o e
  show (if b ∈ F then none else S b) = some o
  rw [if_neg e2]
  exact e1
end
/-- a def by its body -/
theorem dfn_of2 {P : Program} {w : World} {K : PySem.W.Frag} {mg : Str → Option Value} {base : Heap} {x qual : Str} {st : Stmt} {f : Addr} {fd : FuncData} {N ps : List Str} {k : Nat} {sp : DSp} {t : DTS} (F : Fun K x qual st f fd) (Sc : FnScope N ps (defScope st))
    (mono : ∀ ds S (Q Q' : DK) (E E' : DXK), (∀ d S', Q d S' → Q' d S') → (∀ C fs S', E C fs S' → E' C fs S') → sp ds S Q E → sp ds S Q' E') (len : ∀ ds S Q E, sp ds S Q E → ds.length = ps.length)
    (hbody : ∀ (cdv : Value) (A : Around) (outer : List Env) (s : Shared) (H : Hp) (E : XK), Room k (A.deeper (PyProof.Rows.envOfC qual (defScope st) s.heap.objs.size f cdv)) → (A.deeper (PyProof.Rows.envOfC qual (defScope st) s.heap.objs.size f cdv)).guards = some [] →
      DSs (cxOf (L2.CX P w) P w K mg base N qual (defScope st) f cdv A outer s H E) (defBody st) t)
    (hsp : ∀ ds S Q E, sp ds S Q E → t { nx := fun _ S' => Rt Q .non S', rt := Rt Q, xe := fun C fs _ S' => ∃ S'', Sub S'' S' ∧ E C fs S'' } (dstart N ds) S) : DFn P w K mg base (k + 1) f fd ps sp := by
  obtain ⟨oc, od, kV, doc, pm, an, cdv, ct, osl, rfl, lk, hcd⟩ := F.ex
  refine ⟨mono, len, fun A outer s H args us vs Q E hr gu e0 hb r ⟨ds, S, rep, rds, q⟩ => ?_⟩
  have hl : vs.length = ps.length := by rw [← rds.length]; exact len _ _ _ _ q
  have KX : K.In s.heap := e0.mod.kin.keeps fun b o z => (e0.bs b o z).1
  have lim : s.heap.NoLimit := e0.mod.nolimit.keeps fun b o z => (e0.bs b o z).1
  refine codeAny_call_function hr.depth (KX _ _ lk) rfl Sc.co Sc.gen rfl (PySem.W.codeRec_of KX hcd) (hb _ _ _ _ ?_)
  refine wpAny_newFunctionEnv_cells Sc.kind (fun ⟨n, v⟩ hy => ?_) fun env he s1 x => ?_
  · rcases Sc.par n (List.of_mem_zip hy).1 with z | z
    · exact .inl z
    · exact .inr ⟨z, PySem.W.cellsFrom_some _ _ _ (.inl z)⟩
  subst he
  have B := hbody cdv A outer s H E (hr.deeper _) (guards_deeper gu)
  have I : Inv (cxOf (L2.CX P w) P w K mg base N qual (defScope st) f cdv A outer s H E) [] (L2.start N vs) H s1 := inv_start Sc hr.hd e0 hl r x
  have wi : Wish (cxOf (L2.CX P w) P w K mg base N qual (defScope st) f cdv A outer s H E) (fun C fs _ S' => ∃ S'', Sub S'' S' ∧ lX w K H E C fs S'') H := by
    refine Takes.imp (takes_of (E := E) rfl rfl rfl rfl) fun cls d σ H' h => ?_
    obtain ⟨C, fs, τ, S', dd, ws, rfl, rfl, le, rl, hx, rk, hn, S'', sb, h⟩ := h
    refine h dd ws H' le (rl.rep.sub sb) hx rk ?_
    cases e : S'' dd with
    | none => rfl
    | some o => rw [sb dd o e] at hn; cases hn
  have fin : ∀ {σ' : L2.St} {H' : Hp} {v : V} {u : Value} {s' : Shared}, Inv (cxOf (L2.CX P w) P w K mg base N qual (defScope st) f cdv A outer s H E) [] σ' H' s' → RelV v u → (∃ d S', LeH H H' ∧ Rep w K S' H' ∧ RD K H' d v ∧ Rt (lQ w K H Q) d S') → CE outer P w H s Q u s' :=
    fun {σ' H' v u s'} J rv ⟨d, S', le, rp, rd, y⟩ => by
      obtain ⟨v, H', J, rv, le', y⟩ := Rt.to (X := cxOf (L2.CX P w) P w K mg base N qual (defScope st) f cdv A outer s H E) J rp rd rv y fun d S' v H2 le2 rp2 rd2 z => (z v H2 (le.trans le2) rp2 rd2 : Q v H2)
      exact ⟨v, H', J.os, J.bare, J.base, J.hok, rv, y⟩
  refine ⟨lim.keeps x.toInCall.keep, codeAny_func (PySem.wpAny_mono (B.run.run [] s1 (L2.start N vs) H { nx := fun _ H' => ∃ S', LeH H H' ∧ Rep w K S' H' ∧ Rt (lQ w K H Q) .non S', rt := fun v H' => ∃ d S', LeH H H' ∧ Rep w K S' H' ∧ RD K H' d v ∧ Rt (lQ w K H Q) d S' } I ⟨_, dstart N ds, S, wi, ⟨dstart_rel rds, rep⟩, B.mono { nx := fun _ S' => Rt (lQ w K H Q) .non S', rt := Rt (lQ w K H Q), xe := fun C fs _ S' => ∃ S'', Sub S'' S' ∧ lX w K H E C fs S'' } _ _ _ ⟨fun τ S' h σ H' le r' => ?_, fun d S' h v H' le r' rv => ?_, fun _ _ h => h.elim, fun _ _ h => h.elim, fun _ _ _ _ h => h⟩ (hsp _ _ _ _ q)⟩) (fun fl s' hs => ?_) fun e s' hs => hs)⟩
  · exact ⟨S', le, r'.rep, h⟩
  · exact ⟨d, S', le, r', rv, h⟩
  · cases fl with
    | ret u =>
      obtain ⟨v, σ', H', J, rv, y⟩ := hs
      exact fin J rv y
    | next =>
      obtain ⟨σ', H', J, S', le, rp, y⟩ := hs
      exact fin (v := V.non) (u := Value.none) J rfl ⟨.non, S', le, rp, rfl, y⟩
    | brk =>
      obtain ⟨_, _, _, y⟩ := hs
      exact y.elim
    | cont =>
      obtain ⟨_, _, _, y⟩ := hs
      exact y.elim

/-! ### expressions whose list is written no more -/
theorem DE.sub {X : Cx} {e : Expr} {t t' : DTE} (h : DE X e t) (m : ∀ (E E' : DW) τ S (Q Q' : DK), (∀ C fs τ S, E C fs τ S → E' C fs τ S) → (∀ d S', Q d S' → Q' d S') → t' E τ S Q → t' E' τ S Q') (k : ∀ E τ S Q, t' E τ S Q → t E τ S Q) : DE X e t' :=
  ⟨m, pE_imp h.run fun σ H Q ⟨E, τ, S, w, r, q⟩ => ⟨E, τ, S, w, r, k _ _ _ _ q⟩⟩
/-- a list becomes a value -/
@[simp] def fzK (Q : DK) : DK := fun d S => match d with
  | .ref a => (match S a with | some (.lst ds) => Q (.rol ds) (delo S a) | _ => False)
  | d => Q d S
theorem fzK_mono {Q Q' : DK} (k : ∀ d S', Q d S' → Q' d S') (d : D) (S : DH) (h : fzK Q d S) : fzK Q' d S := by
  cases d with
  | ref a =>
    revert h
    show (match S a with | some (.lst ds) => _ | _ => False) → (match S a with | some (.lst ds) => _ | _ => False)
    split
    · exact k _ _
    · exact fun h => h
  | _ => exact k _ _ h
theorem fzK_new {Q : DK} {S : DH} {p : Addr} {ds : List D} (hp : S p = none) (h : Q (.rol ds) S) : fzK Q (.ref p) (upo S p (.lst ds)) := by
  simp only [fzK, upo_same, delo_upo, delo_none hp]
  exact h
def fzK_to {X : Cx} {pins : List (Addr × Obj)} {σ : L2.St} {s : Shared} {S : DH} {H : Hp} {d : D} {v : V} {u : Value} {Q : DK} {Q' : VK} (I : Inv X pins σ H s) (r : Rep X.w X.K S H) (rd : RD X.K H d v) (ru : RelV v u) (h : fzK Q d S)
    (k : ∀ d S' v H', LeH H H' → Rep X.w X.K S' H' → RD X.K H' d v → Q d S' → Q' v H') : EP X pins σ Q' u s := by
  cases d with
  | ref a =>
    obtain rfl : v = .ref a := rd
    revert h
    show (match S a with | some (.lst ds) => _ | _ => False) → _
    split
    · rename_i ds ea
      intro h
      obtain ⟨xs, eh, rs⟩ : ∃ xs, H a = some (.lst xs) ∧ RDs X.K H ds xs := r a _ ea
      obtain ⟨o, I1⟩ := inv_frz I eh
      exact ⟨_, _, I1, ru, k (.rol ds) (delo S a) (.ref a) _ (LeH.frz eh) (rep_frz r eh) ⟨a, xs, rfl, .inl ⟨o, upd_same⟩, rs.le (LeH.frz eh)⟩ h⟩
    · exact fun h => h.elim
  | _ => exact ⟨v, H, I, ru, k _ _ _ _ (LeH.refl H) r rd h⟩
@[simp] def dFz (t : DTE) : DTE := fun E τ S Q => t E τ S (fzK Q)
section
variable {X : Cx} {e : Expr} {t : DTE}
theorem de_fz (h : DE X e t) : DE X e (dFz t) := by
  refine ⟨fun E E' τ S Q Q' he k q => h.mono _ _ _ _ _ _ he (fzK_mono k) q, ⟨fun pins s σ H Q I ⟨E, τ, S, w, r, q⟩ => ?_⟩⟩
  refine thn (h.run.run pins s σ H (fun v H1 => ∃ d S1, LeH H H1 ∧ Rep X.w X.K S1 H1 ∧ RD X.K H1 d v ∧ fzK (fun d S' => ∀ v H', LeH H H' → Rep X.w X.K S' H' → RD X.K H' d v → Q v H') d S1) I (h.to w r q fun d S1 v H1 le w1 r1 rd z => ⟨d, S1, le, r1.rep, rd, z⟩)) fun u s' ⟨v, H1, I1, ru, d, S1, le, rp, rd, z⟩ => ?_
  exact fzK_to I1 rp rd ru z fun d S' v H' le' rp' rd' y => y v H' (le.trans le') rp' rd'
end
@[simp] def rFz (r : R2D) : R2D := fun x y S Q => r x y S (fzK Q)
theorem od_fz {X : Cx} {f : Value → Value → Sem Value} {r : R2D} (h : OpD X f r) : OpD X f (rFz r) := by
  refine ⟨fun x y S Q Q' k q => h.mono _ _ _ _ _ (fzK_mono k) q, fun pins s σ H x y v u Q I rx ry ⟨d, e, S, rep, rd, re, q⟩ => ?_⟩
  refine thn (h.run pins s σ H x y v u (fun v H1 => ∃ d S1, LeH H H1 ∧ Rep X.w X.K S1 H1 ∧ RD X.K H1 d v ∧ fzK (fun d S' => ∀ v H', LeH H H' → Rep X.w X.K S' H' → RD X.K H' d v → Q v H') d S1) I rx ry ⟨d, e, S, rep, rd, re, h.mono _ _ _ _ _ (fun z S' y v H' le rp rz => ⟨z, S', le, rp, rz, y⟩) q⟩) fun u s' ⟨v, H1, I1, ru, d, S1, le, rp, rd, z⟩ => ?_
  exact fzK_to I1 rp rd ru z fun d S' v H' le' rp' rd' y => y v H' (le.trans le') rp' rd'
end Dt
set_option maxRecDepth 100000
set_option maxHeartbeats 4000000
/-! DatN: dicts whose keys are tuples, by the library's nested keys. -/
namespace Dt
open PySem PySem.Spec L2 PySem.W

mutual
theorem rd_nested {X : Cx} {pins : List (Addr × Obj)} {σ : L2.St} {H : Hp} {s : Shared} (I : Inv X pins σ H s) : ∀ (d : D) (nk : NestedKey) (v : V) (u : Value), nkey d = some nk → RD X.K H d v → RelV v u → NestedIs s.heap nk u
  | .non, nk, v, u, e, r, q => by
    simp only [nkey, Option.some.injEq] at e
    subst e
    cases r
    cases (show u = .none from q)
    exact .none
  | .int i, nk, v, u, e, r, q => by
    simp only [nkey, Option.some.injEq] at e
    subst e
    cases r
    obtain ⟨t, rfl⟩ := q
    exact .int i t
  | .str i, nk, v, u, e, r, q => by
    simp only [nkey, Option.some.injEq] at e
    subst e
    cases r
    obtain ⟨t, rfl⟩ := q
    exact .text i t
  | .tup ds, nk, v, u, e, r, q => by
    simp only [nkey] at e
    split at e
    · rename_i ks ek
      cases e
      obtain ⟨p, xs, rfl, sq, rs⟩ : ∃ p xs, v = V.ref p ∧ SqTn X.K H p xs ∧ RDs X.K H ds xs := r
      cases (show u = .ref p from q)
      obtain ⟨its, rv, ⟨o, e1, e2, n, e3⟩, hz⟩ := I.tuple sq.t
      exact .tup e1 e2 e3 (by simpa using rds_nested I ds ks xs its ek rs rv)
    · cases e
  | .bl _, _, _, _, e, _, _ => by simp [nkey] at e
  | .rol _, _, _, _, e, _, _ => by simp [nkey] at e
  | .ref _, _, _, _, e, _, _ => by simp [nkey] at e
theorem rds_nested {X : Cx} {pins : List (Addr × Obj)} {σ : L2.St} {H : Hp} {s : Shared} (I : Inv X pins σ H s) : ∀ (ds : List D) (ks : List NestedKey) (vs : List V) (us : List Value), nkeys ds = some ks → RDs X.K H ds vs → Vals vs us → NestedAll s.heap ks us
  | [], ks, vs, us, e, r, q => by
    simp only [nkeys, Option.some.injEq] at e
    subst e
    cases r
    cases q
    exact .nil
  | d :: ds, ks, vs, us, e, r, q => by
    simp only [nkeys] at e
    split at e
    · rename_i k1 ks1 e1 e2
      cases e
      obtain ⟨v, r', rfl, r1, r2⟩ := r
      cases q with
      | cons q1 q2 => exact .cons (rd_nested I d _ v _ e1 r1 q1) (rds_nested I ds _ r' _ e2 r2 q2)
    · cases e
end
/-- may be a key: a tuple of ints, texts, None, tuples of such -/
def okT (d : D) : Bool := match d, nkey d with | .tup _, some k => decide (k.depth ≤ 8) | _, _ => false
theorem okT_ex {d : D} (h : okT d = true) : ∃ nk, nkey d = some nk ∧ nk.depth ≤ 8 ∧ ∃ ds, d = .tup ds := by
  unfold okT at h
  split at h
  · rename_i ds k e
    exact ⟨k, e, of_decide_eq_true h, ds, rfl⟩
  · cases h
/-- entries beside keys and values -/
def RX (K : PySem.W.Frag) (H : Hp) : List (D × D) → List (NestedKey × Addr × Value) → Prop
  | [], xs => xs = []
  | (k, d) :: r, xs => ∃ nk b u s, xs = (nk, b, u) :: s ∧ (nkey k = some nk ∧ nk.depth ≤ 8 ∧ RD K H k (.ref b) ∧ ∃ v, RelV v u ∧ RD K H d v) ∧ RX K H r s
section
variable {K : PySem.W.Frag} {H H' : Hp}
theorem RX.le (le : LeH H H') : ∀ {kvs : List (D × D)} {xs : List (NestedKey × Addr × Value)}, RX K H kvs xs → RX K H' kvs xs
  | [], _, h => h
  | (_, _) :: _, _, ⟨nk, b, u, s, e, ⟨e1, e2, r1, v, r2, r3⟩, h⟩ => ⟨nk, b, u, s, e, ⟨e1, e2, r1.le le, v, r2, r3.le le⟩, RX.le le h⟩
theorem RX.length : ∀ {kvs : List (D × D)} {xs : List (NestedKey × Addr × Value)}, RX K H kvs xs → kvs.length = xs.length
  | [], _, h => by cases h; rfl
  | (_, _) :: _, _, ⟨nk, b, u, s, e, _, h⟩ => by subst e; simp [RX.length h]
theorem RX.append : ∀ {kvs ls : List (D × D)} {xs ys : List (NestedKey × Addr × Value)}, RX K H kvs xs → RX K H ls ys → RX K H (kvs ++ ls) (xs ++ ys)
  | [], _, _, _, h, k => by cases h; exact k
  | (_, _) :: _, _, _, _, ⟨nk, b, u, s, e, e1, h⟩, k => by subst e; exact ⟨nk, b, u, s ++ _, rfl, e1, RX.append h k⟩
theorem key_iff {k k' : D} {nk nk' : NestedKey} (e : nkey k = some nk) (e' : nkey k' = some nk') : nk = nk' ↔ k = k' :=
  ⟨fun h => nkey_inj k k' nk e (by rw [h]; exact e'), fun h => by rw [h, e'] at e; exact (Option.some.inj e).symm⟩
theorem RX.lk {k : D} {nk : NestedKey} (ek : nkey k = some nk) : ∀ {kvs : List (D × D)} {xs : List (NestedKey × Addr × Value)}, RX K H kvs xs →
    match Dt.lk kvs k, atKey xs nk with | some d, some p => ∃ v, RelV v p.2 ∧ RD K H d v | none, none => True | _, _ => False
  | [], _, h => by cases h; simp [Dt.lk, atKey]
  | (j, d) :: r, _, ⟨nk', b, u, s, e, ⟨e1, e2, r1, r2⟩, h⟩ => by
    subst e
    have ih := RX.lk ek h
    by_cases z : j = k
    · have z' : nk' = nk := (key_iff e1 ek).mpr z
      simp only [Dt.lk, atKey, List.find?_cons, z, z', if_true, decide_true, Option.map_some]
      exact r2
    · have z' : ¬ nk' = nk := fun y => z ((key_iff e1 ek).mp y)
      simp only [Dt.lk, atKey, List.find?_cons, z, z', if_false, decide_false]
      exact ih
theorem RX.ss {kvs : List (D × D)} {xs : List (NestedKey × Addr × Value)} {k d : D} {nk : NestedKey} (h : RX K H kvs xs) (ek : nkey k = some nk) (e : Dt.lk kvs k = some d) : ∃ p, atKey xs nk = some p ∧ ∃ v, RelV v p.2 ∧ RD K H d v := by
  have q := h.lk ek
  rw [e] at q
  split at q
  · rename_i e1 e2
    cases e1
    exact ⟨_, e2, q⟩
  · rename_i e1 _
    cases e1
  · exact q.elim
theorem RX.isSome {kvs : List (D × D)} {xs : List (NestedKey × Addr × Value)} {k : D} {nk : NestedKey} (h : RX K H kvs xs) (ek : nkey k = some nk) : (atKey xs nk).isSome = (Dt.lk kvs k).isSome := by
  have q := h.lk ek
  split at q
  · rename_i e1 e2
    rw [e1, e2]
    rfl
  · rename_i e1 e2
    rw [e1, e2]
    rfl
  · exact q.elim
theorem RX.mapv {k d : D} {nk : NestedKey} {u : Value} {v : V} (ek : nkey k = some nk) (rv : RelV v u) (rd : RD K H d v) : ∀ {kvs : List (D × D)} {xs : List (NestedKey × Addr × Value)}, RX K H kvs xs →
    RX K H (kvs.map fun q => if q.1 = k then (q.1, d) else q) (xs.map (putAt nk u))
  | [], _, h => by cases h; rfl
  | (j, _) :: _, _, ⟨nk', b, u', s, e, ⟨e1, e2, r1, r2⟩, h⟩ => by
    subst e
    by_cases z : j = k
    · have z' : nk' = nk := (key_iff e1 ek).mpr z
      simp only [List.map_cons, putAt, z, z', if_true]
      exact ⟨nk, b, u, _, rfl, ⟨ek, z' ▸ e2, z ▸ r1, v, rv, rd⟩, RX.mapv ek rv rd h⟩
    · have z' : ¬ nk' = nk := fun y => z ((key_iff e1 ek).mp y)
      simp only [List.map_cons, putAt, z, z', if_false]
      exact ⟨nk', b, u', _, rfl, ⟨e1, e2, r1, r2⟩, RX.mapv ek rv rd h⟩
theorem RX.pt {kvs : List (D × D)} {xs : List (NestedKey × Addr × Value)} {k d : D} {nk : NestedKey} {b : Addr} {u : Value} {v : V} (h : RX K H kvs xs) (ek : nkey k = some nk) (hd : nk.depth ≤ 8) (rk : RD K H k (.ref b)) (rv : RelV v u) (rd : RD K H d v) :
    RX K H (Dt.pt kvs k d) (storedH xs nk b u) := by
  unfold Dt.pt storedH
  rw [h.isSome ek]
  split
  · exact RX.mapv ek rv rd h
  · exact h.append ⟨nk, b, u, [], rfl, ⟨ek, hd, rk, v, rv, rd⟩, rfl⟩
theorem RX.dr {k : D} {nk : NestedKey} (ek : nkey k = some nk) : ∀ {kvs : List (D × D)} {xs : List (NestedKey × Addr × Value)}, RX K H kvs xs → RX K H (Dt.dr kvs k) (withoutH xs nk)
  | [], _, h => by cases h; rfl
  | (j, _) :: _, _, ⟨nk', b, u', s, e, ⟨e1, e2, r1, r2⟩, h⟩ => by
    subst e
    have ih := RX.dr ek h
    unfold Dt.dr withoutH at ih ⊢
    by_cases z : j = k
    · have z' : nk' = nk := (key_iff e1 ek).mpr z
      simp only [List.filter_cons, z, z', ne_eq, not_true, decide_false, Bool.false_eq_true, if_false]
      exact ih
    · have z' : ¬ nk' = nk := fun y => z ((key_iff e1 ek).mp y)
      simp only [List.filter_cons, z, z', ne_eq, not_false_eq_true, decide_true, if_true]
      exact ⟨nk', b, u', _, rfl, ⟨e1, e2, r1, r2⟩, ih⟩
theorem RX.get {k d : D} {i : Nat} : ∀ {kvs : List (D × D)} {xs : List (NestedKey × Addr × Value)} {i : Nat} {x : NestedKey × Addr × Value}, RX K H kvs xs → xs[i]? = some x → ∃ k d, kvs[i]? = some (k, d) ∧ nkey k = some x.1 ∧ x.1.depth ≤ 8 ∧ RD K H k (.ref x.2.1) ∧ ∃ v, RelV v x.2.2 ∧ RD K H d v
  | [], _, _, _, h, e => by cases h; simp at e
  | (j, d) :: _, _, 0, _, ⟨nk', b, u', s, e0, ⟨e1, e2, r1, r2⟩, h⟩, e => by
    subst e0
    simp at e
    subst e
    exact ⟨j, d, rfl, e1, e2, r1, r2⟩
  | (_, _) :: _, _, i + 1, _, ⟨nk', b, u', s, e0, _, h⟩, e => by
    subst e0
    obtain ⟨k, d, q⟩ := RX.get (k := .non) (d := .non) (i := 0) h (by simpa using e)
    exact ⟨k, d, by simpa using q⟩
theorem RX.nodup : ∀ {kvs : List (D × D)} {xs : List (NestedKey × Addr × Value)}, RX K H kvs xs → (kvs.map (·.1)).Nodup → (xs.map (·.1)).Nodup
  | [], _, h, _ => by cases h; exact .nil
  | (j, d) :: r, _, ⟨nk', b, u', s, e0, ⟨e1, e2, r1, r2⟩, h⟩, nd => by
    subst e0
    obtain ⟨n1, n2⟩ := List.nodup_cons.mp nd
    refine List.nodup_cons.mpr ⟨fun z => n1 ?_, RX.nodup h n2⟩
    obtain ⟨y, hy, ey⟩ := List.mem_map.mp z
    obtain ⟨i, hi⟩ := List.getElem?_of_mem hy
    obtain ⟨k, d', q1, q2, _⟩ := RX.get (k := .non) (d := .non) (i := 0) h hi
    have : k = j := nkey_inj k j nk' (by rw [q2]; exact congrArg _ ey) e1
    exact List.mem_map.mpr ⟨(k, d'), List.mem_of_getElem? q1, this⟩
end
theorem pt_nodup {kvs : List (D × D)} (k d : D) (h : (kvs.map (·.1)).Nodup) : ((pt kvs k d).map (·.1)).Nodup := by
  unfold pt
  have lkm : ∀ l : List (D × D), (lk l k).isSome = true ∨ k ∉ l.map (·.1) := fun l => by
    induction l with
    | nil => exact .inr (by simp)
    | cons q l ih =>
      obtain ⟨j, v⟩ := q
      by_cases z : j = k
      · exact .inl (by simp [lk, z])
      · rcases ih with ih | ih
        · exact .inl (by simpa [lk, z] using ih)
        · exact .inr (by simp [fun y => z (Eq.symm y)]; exact ⟨fun y => z y.symm, by simpa using ih⟩)
  split
  · have : (kvs.map fun q => if q.1 = k then (q.1, d) else q).map (·.1) = kvs.map (·.1) := by
      rw [List.map_map]
      refine List.map_congr_left fun q _ => ?_
      show (if q.1 = k then (q.1, d) else q).1 = q.1
      split <;> rfl
    rw [this]
    exact h
  · rename_i hn
    rw [List.map_append]
    refine List.nodup_append.mpr ⟨h, by simp, fun a ha b hb => ?_⟩
    simp at hb
    subst hb
    rcases lkm kvs with z | z
    · exact absurd z hn
    · exact fun y => z (y ▸ ha)
theorem pt_len {κ α : Type} [DecidableEq κ] (kvs : List (κ × α)) (k : κ) (d : α) : (pt kvs k d).length ≤ kvs.length + 1 := by
  unfold pt
  split <;> simp
section
variable {X : Cx} {pins : List (Addr × Obj)} {σ : L2.St} {H : Hp} {s : Shared} {a : Addr} {kvs : List (D × D)}
/-- a dict is looked at -/
theorem dn_open (I : Inv X pins σ H s) (r : ROb X.w X.K H a (.dN kvs)) : ∃ xs, s.heap.DictOfH (nestedKind X.prog X.w) a xs ∧ RX X.K H kvs xs ∧ (a == sysModules) = false ∧ kvs.length ≤ sizeLine ∧ (kvs.map (·.1)).Nodup ∧ Mut (H a) := by
  obtain ⟨rows, e, hl, nd, rr⟩ := r
  have x : ObjOk X.prog X.w H s.heap a (.ext (RawRows X.w rows a)) := I.hok a _ e
  obtain ⟨⟨hs, o, es, ep, ho, hx, hd, pr⟩, _⟩ := x
  have go : ∀ {kvs : List (D × D)} {rows : List (NestedKey × Addr × V)} {es : List DictEntry}, RRows X.K H kvs rows → Paired (fun (r : NestedKey × Addr × V) (e : DictEntry) => e.hash = r.1.hash X.w ∧ e.key = .ref r.2.1 ∧ RelV r.2.2 e.val) rows es →
      ∃ xs, RX X.K H kvs xs ∧ es = xs.map (entryOfKey (nestedKind X.prog X.w)) ∧ ∀ x ∈ xs, (nestedKind X.prog X.w).is s.heap x.1 x.2.1 := by
    intro kvs
    induction kvs with
    | nil =>
      intro rows es h p
      cases h
      cases p
      exact ⟨[], rfl, rfl, fun _ z => nomatch z⟩
    | cons q kvs ih =>
      obtain ⟨k, d⟩ := q
      rintro rows es ⟨nk, b, v, s', e, e1, e2, r1, r2, h⟩ p
      subst e
      cases p with
      | @cons _ en _ es' p1 p2 =>
        obtain ⟨xs, h1, h2, h3⟩ := ih h p2
        obtain ⟨hsh, ky, vl⟩ := en
        obtain ⟨q1, q2, q3⟩ := p1
        refine ⟨(nk, b, vl) :: xs, ⟨nk, b, vl, xs, rfl, ⟨e1, e2, r1, v, q3, r2⟩, h1⟩, ?_, fun x hx => ?_⟩
        · rw [List.map_cons, ← h2]
          simp only at q1 q2
          rw [q1, q2]
          rfl
        · rcases List.mem_cons.mp hx with rfl | hx
          · exact ⟨rd_nested I k nk (.ref b) (.ref b) e1 r1 rfl, e2⟩
          · exact h3 x hx
  obtain ⟨xs, h1, h2, h3⟩ := go rr pr
  exact ⟨xs, ⟨o, es, ep, ho, hx, hd, h2, h3, h1.nodup nd⟩, h1, hs, hl, nd, by rw [e]; trivial⟩
theorem rows_of {K : PySem.W.Frag} {w : World} {P : Program} {H : Hp} : ∀ {kvs : List (D × D)} {xs : List (NestedKey × Addr × Value)}, RX K H kvs xs →
    ∃ rows, RRows K H kvs rows ∧ Paired (fun (r : NestedKey × Addr × V) (e : DictEntry) => e.hash = r.1.hash w ∧ e.key = .ref r.2.1 ∧ RelV r.2.2 e.val) rows (xs.map (entryOfKey (nestedKind P w)))
  | [], _, h => by cases h; exact ⟨[], rfl, .nil⟩
  | (k, d) :: r, _, ⟨nk, b, u, s, e, ⟨e1, e2, r1, v, r2, r3⟩, h⟩ => by
    subst e
    obtain ⟨rows, h1, h2⟩ := rows_of (P := P) h
    exact ⟨(nk, b, v) :: rows, ⟨nk, b, v, rows, rfl, e1, e2, r1, r3, h1⟩, .cons ⟨rfl, rfl, r2⟩ h2⟩
/-- a dict was written -/
theorem dn_close {h' : Heap} {t : Nat} {xs : List (NestedKey × Addr × Value)} (I : Inv X pins σ H s) (mu : Mut (H a)) (hs : (a == sysModules) = false) (r : RX X.K H kvs xs) (hl : kvs.length ≤ sizeLine) (nd : (kvs.map (·.1)).Nodup) (hd : h'.DictOfH (nestedKind X.prog X.w) a xs) (sb : Heap.SameBut a s.heap h') :
    ∃ rows, Inv X pins σ (upd H a (dnHO X.w rows a)) { s with heap := h', toks := t } ∧ LeH H (upd H a (dnHO X.w rows a)) ∧ ROb X.w X.K (upd H a (dnHO X.w rows a)) a (.dN kvs) := by
  obtain ⟨rows, r1, r2⟩ := rows_of (P := X.prog) (w := X.w) r
  obtain ⟨o, es, ep, ho, hx, hdd, he, _, _⟩ := hd
  obtain ⟨u, eu⟩ : ∃ u, H a = some u := by
    cases q : H a with
    | none => rw [q] at mu; exact mu.elim
    | some u => exact ⟨u, rfl⟩
  have le : LeH H (upd H a (dnHO X.w rows a)) := LeH.put eu (by rw [← eu]; exact mu)
  refine ⟨rows, I.write (x := a) (e := a) mu (.inl rfl) (fun b u hb q => (sb.2 b hb).trans q) ⟨o, ho⟩ ⟨⟨hs, o, es, ep, ho, hx, hdd, by rw [he]; exact r2⟩, ⟨o, ho⟩, fun h1 h2 z k => ?_⟩, le, ⟨rows, upd_same, hl, nd, r1.le le⟩⟩
  obtain ⟨z1, o', es', ep', q1, q2⟩ := z
  exact ⟨z1, o', es', ep', k _ q1, q2⟩
/-- the key of a dict -/
theorem okT_key (I : Inv X pins σ H s) {k : D} {v : V} {u : Value} (h : okT k = true) (rd : RD X.K H k v) (ru : RelV v u) : ∃ nk b, nkey k = some nk ∧ nk.depth ≤ 8 ∧ v = .ref b ∧ u = .ref b ∧ (nestedKind X.prog X.w).is s.heap nk b := by
  obtain ⟨nk, e, hd, ds, rfl⟩ := okT_ex h
  obtain ⟨p, xs, rfl, _⟩ : ∃ p xs, v = V.ref p ∧ SqTn X.K H p xs ∧ RDs X.K H ds xs := id rd
  cases (show u = .ref p from ru)
  exact ⟨nk, p, e, hd, rfl, rfl, rd_nested I _ nk _ _ e rd rfl, hd⟩
end
section
variable {X : Cx} {pos : Pos}
/-- {} whose keys will be tuples -/
@[simp] def dDnN : DTE := fun _ _ S Q => newO S (.dN []) fun p S' => Q (.ref p) S'
end
end Dt
set_option maxRecDepth 100000
set_option maxHeartbeats 4000000
/-! DatTo: rules that make tuples, the new object known. -/
namespace Dt
open PySem PySem.Spec L2 PyProof.Rows
section
variable {X : Cx} {pins : List (Addr × Obj)} {σ : L2.St} {H : Hp} {s : Shared}
theorem newT {its : List Value} {xs : List V} {Q : VK} (I : Inv X pins σ H s) (z : xs.length ≤ sizeLine) (r : Vals xs its) (q : ∀ p i n, H p = none → Q (.ref p) (upd H p (tupO i n xs))) :
    EP X pins σ Q (.ref s.heap.objs.size) { s with heap := s.heap.push { cls := .type "tuple", data := .seq its.toArray } } :=
  ⟨.ref s.heap.objs.size, _, I.laid (t' := s.toks) (o := tupO its.toArray 0 xs) (fun _ _ e => Heap.get?_push_of_some _ e) (Nat.le_refl _) ⟨Heap.get?_push_size _ rfl, z, its, r, IsTup.new _ _⟩, rfl, q _ _ _ (I.hok.fresh (Nat.le_refl _))⟩
end
section
variable {X : Cx} {es : List Expr} {t : TA} {pos : Pos}
def tTupN (t : TA) : TE := fun σ H Q => t σ H fun xs H1 => xs.length ≤ sizeLine ∧ ∀ p i n, H1 p = none → Q (.ref p) (upd H1 p (tupO i n xs))
theorem pe_tupN {x1} (h : PA X es t) : PE X (.Tuple es x1 pos) (tTupN t) :=
  ⟨fun pins s σ H _ I hq => wpAny_Tuple_spliced (thn (h.run pos pins s σ H _ I hq) fun _ _ ⟨_, _, I1, r, z, q⟩ => ⟨by rw [← r.length]; exact z, newT I1 z r q⟩)⟩
theorem call_tupleN : CallR X (.type "tuple") (fun xs H Q => ∃ p ys, xs = [.ref p] ∧ SqL X.K H p ys ∧ ∀ l i n, H l = none → Q (.ref l) (upd H l (tupO i n ys))) := by
  intro pins s σ H xs us Q I r ⟨p, ys, e, hq, q⟩
  subst e
  obtain ⟨u, rfl, rx⟩ := vals1 r
  obtain rfl : u = Value.ref p := rx
  obtain ⟨its, r', pl, hz⟩ := I.list hq
  have hn := r'.length
  exact call_tuple_list pl.isList (fun h' kp => newT (s := { s with heap := h' }) (I.kept (t' := s.toks) kp) hz r' q) (by rw [List.size_toArray]; omega)
def rCatN (K : PySem.W.Frag) : R2 := fun x y H Q => ∃ a b xs ys, x = .ref a ∧ y = .ref b ∧ SqT K H a xs ∧ SqT K H b ys ∧ xs.length + ys.length ≤ sizeLine ∧
  (xs = [] → Q (.ref b) H) ∧ (xs ≠ [] → ys = [] → Q (.ref a) H) ∧ (xs ≠ [] → ys ≠ [] → ∀ p i n, H p = none → Q (.ref p) (upd H p (tupO i n (xs ++ ys))))
theorem op_catN : OpR X (binaryOp .Add) (rCatN X.K) := by
  intro pins s σ H x y v u Q I rx ry ⟨a, b, xs, ys, ex, ey, ha, hb, hz, q0, q1, q2⟩
  subst ex ey
  by_cases hx : xs = []
  · exact op_catA pins s σ H _ _ v u Q I rx ry ⟨a, b, xs, ys, rfl, rfl, ha, hb, hz, q0, q1, fun z => absurd hx z⟩
  by_cases hy : ys = []
  · exact op_catA pins s σ H _ _ v u Q I rx ry ⟨a, b, xs, ys, rfl, rfl, ha, hb, hz, q0, q1, fun _ z => absurd hy z⟩
  obtain rfl : v = Value.ref a := rx
  obtain rfl : u = Value.ref b := ry
  obtain ⟨i1, r1, p1, _⟩ := I.tuple ha
  obtain ⟨i2, r2, p2, _⟩ := I.tuple hb
  exact HT.cat_tup p1 p2 (fun z => hx (r1.nil_iff.mp z)) (fun z => absurd (r2.nil_iff.mp z) hy) (fun _ => newT I (by rw [List.length_append]; exact hz) (r1.append r2) (q2 hx hy)) (by rw [← r1.length, ← r2.length]; exact hz)
def rSlN (K : PySem.W.Frag) : V → Option Int → Option Int → Hp → VK → Prop := fun x lo hi H Q => ∃ a xs, x = .ref a ∧ SqT K H a xs ∧
  (HT.sIx xs.length 0 lo = 0 ∧ HT.sIx xs.length xs.length hi = xs.length → Q (.ref a) H) ∧ (¬ (HT.sIx xs.length 0 lo = 0 ∧ HT.sIx xs.length xs.length hi = xs.length) → ∀ p i n, H p = none → Q (.ref p) (upd H p (tupO i n (cutV xs lo hi))))
theorem sl_tupN : SlR X (rSlN X.K) := by
  intro pins s σ H x v vl vu lo hi sl Q I rx hs pl pu ⟨a, xs, ex, hx, q1, q2⟩
  subst ex
  by_cases hw : HT.sIx xs.length 0 lo = 0 ∧ HT.sIx xs.length xs.length hi = xs.length
  · exact sl_tupA pins s σ H _ v vl vu lo hi sl Q I rx hs pl pu ⟨a, xs, rfl, hx, q1, fun z => absurd hw z⟩
  obtain rfl : v = Value.ref a := rx
  obtain ⟨its, r, ht, hz⟩ := I.tuple hx
  have hl : its.toArray.size = xs.length := by rw [List.size_toArray, r.length]
  refine ⟨"tuple", _, PyProof.Rows.slot_tuple_getitem.lookup, ht.typeIs, HT.getItem_tuple_cut ht hs pl pu (by rw [hl]; exact hw) ?_ (by rw [hl]; exact hz)⟩
  rw [hl]
  exact newT I (Nat.le_trans (cutV_length xs lo hi) hz) ((r.drop (HT.sIx xs.length 0 lo)).take (HT.sIx xs.length xs.length hi - HT.sIx xs.length 0 lo)) (q2 hw)
/-- tuple(reversed(a list)) -/
def tTupRevN (K : PySem.W.Frag) (te : TE) : TE := fun σ H Q => te σ H fun v H1 => ∃ (a : Addr) (xs : List V), v = .ref a ∧ SqL K H1 a xs ∧ ∀ q i n, H1 q = none → Q (.ref q) (upd H1 q (tupO i n xs.reverse))
/-- tuple(range(..)) -/
def tTupRgN (te : L2.St → Hp → (Int → Int → Hp → Prop) → Prop) : TE := fun σ H Q => te σ H fun a b H1 => RgOk a b ∧ ∀ q i n, H1 q = none → Q (.ref q) (upd H1 q (tupO i n (rgV a b)))
end
end Dt
set_option maxRecDepth 100000
set_option maxHeartbeats 4000000
/-! Dat4: operators, comparisons, repr. -/
namespace Dt
open PySem PySem.Spec L2

/-! ### the library's trees -/
mutual
inductive Pd (S : DH) : D → PyData → Prop
  | non : Pd S .non .none
  | bl (b : Bool) : Pd S (.bl b) (.bool b)
  | int (i : Int) : Pd S (.int i) (.int i)
  | str (x : Str) : Pd S (.str x) (.str x)
  | tup {ds : List D} {ps : List PyData} : PdA S ds ps → Pd S (.tup ds) (.tuple ps)
  | rol {ds : List D} {ps : List PyData} : PdA S ds ps → Pd S (.rol ds) (.list ps)
  | lst {a : Addr} {ds : List D} {ps : List PyData} : S a = some (.lst ds) → PdA S ds ps → Pd S (.ref a) (.list ps)
inductive PdA (S : DH) : List D → List PyData → Prop
  | nil : PdA S [] []
  | cons {d : D} {ds : List D} {p : PyData} {ps : List PyData} : Pd S d p → PdA S ds ps → PdA S (d :: ds) (p :: ps)
end
section
variable {w : World} {K : PySem.W.Frag} {S : DH} {H : Hp}
mutual
theorem Pd.dp (rep : Rep w K S H) : ∀ (p : PyData) (d : D) (v : V), Pd S d p → RD K H d v → Dp K H v p
  | .none, _, _, h, r => by cases h; cases r; exact .non
  | .bool b, _, _, h, r => by cases h; cases r; exact .bl b
  | .int i, _, _, h, r => by cases h; cases r; exact .int i
  | .str x, _, _, h, r => by cases h; cases r; exact .str x
  | .tuple ps, _, v, h, r => by
    cases h with
    | tup hs =>
      obtain ⟨p, xs, rfl, sq, rs⟩ : ∃ p xs, v = V.ref p ∧ SqTn K H p xs ∧ RDs K H _ xs := r
      exact .tup sq (PdA.dp rep ps _ _ hs rs)
  | .list ps, _, v, h, r => by
    cases h with
    | rol hs =>
      obtain ⟨p, xs, rfl, sq, rs⟩ : ∃ p xs, v = V.ref p ∧ SqR K H p xs ∧ RDs K H _ xs := r
      exact .lst sq.l (PdA.dp rep ps _ _ hs rs)
    | lst e hs =>
      cases r
      obtain ⟨xs, q, rs⟩ := rep _ _ e
      exact .lst (.of q) (PdA.dp rep ps _ _ hs rs)
  | .dict _, _, _, h, _ => by cases h
theorem PdA.dp (rep : Rep w K S H) : ∀ (ps : List PyData) (ds : List D) (vs : List V), PdA S ds ps → RDs K H ds vs → DpAll K H vs ps
  | [], _, _, h, r => by
    cases h
    cases r
    exact .nil
  | p :: ps, _, _, h, r => by
    cases h with
    | cons h1 h2 =>
      obtain ⟨v, vs, rfl, r1, r2⟩ := r
      exact .cons (Pd.dp rep p _ v h1 r1) (PdA.dp rep ps _ vs h2 r2)
end
end
/-! without addresses -/
mutual
def toP : D → PyData
  | .non => .none
  | .bl b => .bool b
  | .int i => .int i
  | .str x => .str x
  | .tup ds => .tuple (toPs ds)
  | .rol ds => .list (toPs ds)
  | .ref _ => .none
def toPs : List D → List PyData
  | [] => []
  | d :: ds => toP d :: toPs ds
end
mutual
def imm : D → Bool
  | .tup ds => imms ds
  | .rol ds => imms ds
  | .ref _ => false
  | _ => true
def imms : List D → Bool
  | [] => true
  | d :: ds => imm d && imms ds
end
mutual
theorem imm_pd (S : DH) : ∀ d : D, imm d = true → Pd S d (toP d)
  | .non, _ => .non
  | .bl b, _ => .bl b
  | .int i, _ => .int i
  | .str x, _ => .str x
  | .tup ds, h => .tup (imms_pd S ds h)
  | .rol ds, h => .rol (imms_pd S ds h)
theorem imms_pd (S : DH) : ∀ ds : List D, imms ds = true → PdA S ds (toPs ds)
  | [], _ => .nil
  | d :: ds, h => by
    have h' : (imm d && imms ds) = true := h
    rw [Bool.and_eq_true] at h'
    exact .cons (imm_pd S d h'.1) (imms_pd S ds h'.2)
end

/-! ### + - * // % ** -/
@[simp] def dAdd : R2D := fun d e S Q => match d, e with
  | .int i, .int j => Q (.int (i + j)) S
  | .str x, .str y => x.length + y.length ≤ sizeLine ∧ Q (.str (x ++ y)) S
  | .tup xs, .tup ys => xs.length + ys.length ≤ sizeLine ∧ Q (.tup (xs ++ ys)) S
  | d, e => catD S d e fun zs => newO S (.lst zs) fun p S' => Q (.ref p) S'
/-- the same, a list is written no more -/
@[simp] def dAddF : R2D := fun d e S Q => match d, e with
  | .int i, .int j => Q (.int (i + j)) S
  | .str x, .str y => x.length + y.length ≤ sizeLine ∧ Q (.str (x ++ y)) S
  | .tup xs, .tup ys => xs.length + ys.length ≤ sizeLine ∧ Q (.tup (xs ++ ys)) S
  | d, e => catD S d e fun zs => Q (.rol zs) S
theorem OpD.sub {X : Cx} {f : Value → Value → Sem Value} {r r' : R2D} (h : OpD X f r) (m : Mono2 r') (k : ∀ x y S Q, r' x y S Q → r x y S Q) : OpD X f r' :=
  ⟨m, opR_imp h.run fun x y H Q ⟨d, e, S, rep, rd, re, q⟩ => ⟨d, e, S, rep, rd, re, k _ _ _ _ q⟩⟩
section
variable {X : Cx}
theorem rep_new {w : World} {K : PySem.W.Frag} {S : DH} {H : Hp} {Q0 : DK} {Q : VK} {ds : List D} {xs : List V} {q : Addr} (rep : Rep w K S H) (hq : H q = none) (rs : RDs K H ds xs) (h : lQ w K H Q (.ref q) (upo S q (.lst ds))) : Q (.ref q) (upd H q (.lst xs)) :=
  h (.ref q) _ (LeH.new hq) (rep.new hq (o := .lst ds) ⟨xs, upd_same, rs.le (LeH.new hq)⟩) rfl
theorem rep_tup {w : World} {K : PySem.W.Frag} {S : DH} {H : Hp} {Q : VK} {ds : List D} {xs : List V} {q : Addr} (rep : Rep w K S H) (hq : H q = none) (rs : RDs K H ds xs) {i : Array Value} {n : Nat} (h : lQ w K H Q (.tup ds) S) : Q (.ref q) (upd H q (tupO i n xs)) :=
  h (.ref q) _ (LeH.new hq) (rep.garb hq) ⟨q, xs, rfl, .inl ⟨_, _, upd_same⟩, rs.le (LeH.new hq)⟩
/-- lists, one behind the other -/
def rCatX (K : PySem.W.Frag) : R2 := fun x y H Q => ∃ l b xs zs, x = .ref l ∧ y = .ref b ∧ SqX K H l xs ∧ SqX K H b zs ∧ xs.length + zs.length ≤ sizeLine ∧ ∀ p, H p = none → Q (.ref p) (upd H p (.lst (xs ++ zs)))
theorem op_catX : OpR X (binaryOp .Add) (rCatX X.K) := by
  intro pins s σ H x y v u Q I rx ry h
  obtain ⟨l, b, xs, zs, rfl, rfl, hH, hB, hz, q⟩ := h
  cases rx
  cases ry
  obtain ⟨its, n, r, z, hl, e⟩ := sqX_get I hH
  obtain ⟨its2, n2, r2, z2, hl2, e2⟩ := sqX_get I hB
  refine PySem.P.add_list e e2 ?_ (by rw [List.size_toArray, List.size_toArray]; omega)
  have ea : its.toArray ++ its2.toArray = (its ++ its2).toArray := by simp
  rw [ea]
  exact ⟨.ref _, _, I.lnew (t' := s.toks) (r.append r2) (by rw [List.length_append]; omega), rfl, q _ I.fresh⟩
theorem catD_mono {S : DH} {d e : D} {k k' : List D → Prop} (h : ∀ z, k z → k' z) (q : catD S d e k) : catD S d e k' := opt_mono (fun _ q => opt_mono (fun _ q => ⟨q.1, h _ q.2⟩) q) q
theorem od_add : OpD X (binaryOp .Add) dAdd := by
  refine ⟨fun x y S Q Q' k h => ?_, fun pins s σ H x y v u Q I rx ry ⟨d, e, S, rep, rd, re, h⟩ => ?_⟩
  · unfold dAdd at h ⊢
    split at h
    · exact k _ _ h
    · exact ⟨h.1, k _ _ h.2⟩
    · exact ⟨h.1, k _ _ h.2⟩
    · exact catD_mono (fun z q p hp => k _ _ (q p hp)) h
  · unfold dAdd at h
    split at h
    · cases rd; cases re
      exact op_add pins s σ H _ _ v u Q I rx ry ⟨_, _, rfl, rfl, h _ H (LeH.refl H) rep rfl⟩
    · cases rd; cases re
      exact op_add_str pins s σ H _ _ v u Q I rx ry ⟨_, _, rfl, rfl, h.1, h.2 _ H (LeH.refl H) rep rfl⟩
    · rename_i ds es
      obtain ⟨p, xs, rfl, sq, rs⟩ : ∃ p xs, x = V.ref p ∧ SqTn X.K H p xs ∧ RDs X.K H ds xs := rd
      obtain ⟨q, ys, rfl, sq2, rs2⟩ : ∃ p xs, y = V.ref p ∧ SqTn X.K H p xs ∧ RDs X.K H es xs := re
      refine op_catN pins s σ H _ _ v u Q I rx ry ⟨p, q, xs, ys, rfl, rfl, sq, sq2, by rw [← rs.length, ← rs2.length]; exact h.1, fun e => ?_, fun _ e => ?_, fun _ _ p2 _ _ hp => rep_tup rep hp (rs.append rs2) h.2⟩
      · subst e
        have := rs.length
        have e2 : ds = [] := List.length_eq_zero_iff.mp (by simpa using this)
        subst e2
        exact h.2 _ H (LeH.refl H) rep ⟨q, ys, rfl, sq2, rs2⟩
      · subst e
        have := rs2.length
        have e2 : es = [] := List.length_eq_zero_iff.mp (by simpa using this)
        subst e2
        exact h.2 _ H (LeH.refl H) rep ⟨p, xs, rfl, sq, by rw [List.append_nil]; exact rs⟩
    · obtain ⟨xs, ea, h⟩ := opt_ex h
      obtain ⟨ys, eb, hz, h⟩ := opt_ex h
      obtain ⟨a, us, rfl, sa, r1⟩ := seqD_rd rep rd ea
      obtain ⟨b, ws, rfl, sb, r2⟩ := seqD_rd rep re eb
      exact op_catX pins s σ H _ _ v u Q I rx ry ⟨a, b, us, ws, rfl, rfl, sa, sb, by rw [← r1.length, ← r2.length]; exact hz, fun p hp => rep_new (Q0 := fun _ _ => True) rep hp (r1.append r2) (h p (rep.free hp))⟩
theorem od_addF : OpD X (binaryOp .Add) dAddF := (od_fz od_add).sub (fun x y S Q Q' k h => by
    unfold dAddF at h ⊢
    split at h
    · exact k _ _ h
    · exact ⟨h.1, k _ _ h.2⟩
    · exact ⟨h.1, k _ _ h.2⟩
    · exact catD_mono (fun z q => k _ _ q) h) fun x y S Q h => by
    unfold dAddF at h
    unfold rFz dAdd
    split at h
    · exact h
    · exact h
    · exact h
    · exact catD_mono (fun z q p hp => fzK_new hp q) h
/-- two ints -/
@[simp] def dII (C : Int → Int → Prop) (g : Int → Int → D) : R2D := fun d e S Q => match d, e with | .int i, .int j => C i j ∧ Q (g i j) S | _, _ => False
theorem dII_mono {C : Int → Int → Prop} {g : Int → Int → D} : Mono2 (dII C g) := fun x y S Q Q' k h => by
  cases x <;> cases y <;> first | exact h.elim | exact ⟨h.1, k _ _ h.2⟩
theorem od_II {f : Value → Value → Sem Value} {C : Int → Int → Prop} {g : Int → Int → D} {g' : Int → Int → V} (h : OpR X f (rI C g')) (hg : ∀ H i j, RD X.K H (g i j) (g' i j)) : OpD X f (dII C g) := by
  refine ⟨dII_mono, fun pins s σ H x y v u Q I rx ry ⟨d, e, S, rep, rd, re, q⟩ => ?_⟩
  cases d <;> cases e <;> first | exact q.elim | skip
  cases rd; cases re
  exact h pins s σ H _ _ v u Q I rx ry ⟨_, _, rfl, rfl, q.1, q.2 _ H (LeH.refl H) rep (hg _ _ _)⟩
theorem od_II0 {f : Value → Value → Sem Value} {g : Int → Int → D} {g' : Int → Int → V} (h : OpR X f (rI0 g')) (hg : ∀ H i j, RD X.K H (g i j) (g' i j)) : OpD X f (dII (fun _ _ => True) g) := by
  refine ⟨dII_mono, fun pins s σ H x y v u Q I rx ry ⟨d, e, S, rep, rd, re, q⟩ => ?_⟩
  cases d <;> cases e <;> first | exact q.elim | skip
  cases rd; cases re
  exact h pins s σ H _ _ v u Q I rx ry ⟨_, _, rfl, rfl, q.2 _ H (LeH.refl H) rep (hg _ _ _)⟩
theorem od_sub : OpD X (binaryOp .Sub) (dII (fun _ _ => True) fun i j => .int (i - j)) := od_II0 op_sub fun _ _ _ => rfl
theorem od_mod : OpD X (binaryOp .Mod) (dII (fun _ j => 0 < j) fun i j => .int (i % j)) := od_II op_mod fun _ _ _ => rfl
theorem od_fdiv : OpD X (binaryOp .FloorDiv) (dII CDivW fun i j => .int (i / j)) := od_II op_fdivW fun _ _ _ => rfl
theorem od_pow : OpD X (binaryOp .Pow) (dII CPow fun i j => .int (i ^ j.toNat)) := od_II op_pow fun _ _ _ => rfl
theorem od_lt : OpD X (compareOp .Lt) (dII (fun _ _ => True) fun i j => .bl (decide (i < j))) := od_II0 op_lt fun _ _ _ => rfl
theorem od_gt : OpD X (compareOp .Gt) (dII (fun _ _ => True) fun i j => .bl (decide (j < i))) := od_II0 op_gt fun _ _ _ => rfl
theorem od_ge : OpD X (compareOp .GtE) (dII (fun _ _ => True) fun i j => .bl (decide (j ≤ i))) := od_II0 op_ge fun _ _ _ => rfl

/-! ### == -/
def dEqG (neg : Bool) : R2D := fun d e S Q => ∃ p q, Pd S d p ∧ Pd S e q ∧ SeqAt.shaped p = true ∧ SeqAt.shaped q = true ∧ Q (.bl (if neg then !PyData.eqv p q else PyData.eqv p q)) S
def dEq (neg : Bool) : R2D := fun d e S Q => match d, e with
  | .int i, .int j => Q (.bl (if neg then !(i == j) else i == j)) S
  | .str i, .str j => Q (.bl (if neg then !(i == j) else i == j)) S
  | .bl i, .bl j => Q (.bl (if neg then !(i == j) else i == j)) S
  | .non, .str j => Q (.bl neg) S
  | .str j, .non => Q (.bl neg) S
  | .int _, .str j => Q (.bl neg) S
  | .str j, .int _ => Q (.bl neg) S
  | d, e => dEqG neg d e S Q
theorem dEq_mono (neg : Bool) : Mono2 (dEq neg) := fun x y S Q Q' k h => by
  unfold dEq at h ⊢
  split at h <;> first | exact k _ _ h | exact (fun ⟨p, q, h1, h2, h3, h4, h⟩ => ⟨p, q, h1, h2, h3, h4, k _ _ h⟩ : dEqG neg _ _ S Q → dEqG neg _ _ S Q') h
theorem od_eq (hu : X.A.units + 64 < cLine) : OpD X (compareOp .Eq) (dEq false) := by
  refine ⟨dEq_mono false, fun pins s σ H x y v u Q I rx ry ⟨d, e, S, rep, rd, re, h⟩ => ?_⟩
  unfold dEq at h
  split at h
  · cases rd; cases re
    exact op_eq pins s σ H _ _ v u Q I rx ry ⟨rfl, by rw [dec_int]; exact h _ H (LeH.refl H) rep rfl⟩
  · cases rd; cases re
    exact op_eq pins s σ H _ _ v u Q I rx ry ⟨rfl, by rw [dec_str]; exact h _ H (LeH.refl H) rep rfl⟩
  · cases rd; cases re
    exact op_eq pins s σ H _ _ v u Q I rx ry ⟨rfl, by rw [dec_bl]; exact h _ H (LeH.refl H) rep rfl⟩
  · cases rd; cases re
    exact op_eq pins s σ H _ _ v u Q I rx ry ⟨rfl, h _ H (LeH.refl H) rep rfl⟩
  · cases rd; cases re
    exact op_eq pins s σ H _ _ v u Q I rx ry ⟨rfl, h _ H (LeH.refl H) rep rfl⟩
  · cases rd; cases re
    exact op_eq pins s σ H _ _ v u Q I rx ry ⟨rfl, h _ H (LeH.refl H) rep rfl⟩
  · cases rd; cases re
    exact op_eq pins s σ H _ _ v u Q I rx ry ⟨rfl, h _ H (LeH.refl H) rep rfl⟩
  · obtain ⟨p, q, h1, h2, h3, h4, h⟩ := h
    exact op_eqD hu pins s σ H _ _ v u Q I rx ry ⟨p, q, h1.dp rep p _ x rd, h2.dp rep q _ y re, h3, h4, h _ H (LeH.refl H) rep rfl⟩
theorem od_ne (hu : X.A.units + 64 < cLine) : OpD X (compareOp .NotEq) (dEq true) := by
  refine ⟨dEq_mono true, fun pins s σ H x y v u Q I rx ry ⟨d, e, S, rep, rd, re, h⟩ => ?_⟩
  unfold dEq at h
  split at h
  · cases rd; cases re
    exact op_ne pins s σ H _ _ v u Q I rx ry ⟨rfl, by rw [dec_int]; exact h _ H (LeH.refl H) rep rfl⟩
  · cases rd; cases re
    exact op_ne pins s σ H _ _ v u Q I rx ry ⟨rfl, by rw [dec_str]; exact h _ H (LeH.refl H) rep rfl⟩
  · cases rd; cases re
    exact op_ne pins s σ H _ _ v u Q I rx ry ⟨rfl, by rw [dec_bl]; exact h _ H (LeH.refl H) rep rfl⟩
  · cases rd; cases re
    exact op_ne pins s σ H _ _ v u Q I rx ry ⟨rfl, h _ H (LeH.refl H) rep rfl⟩
  · cases rd; cases re
    exact op_ne pins s σ H _ _ v u Q I rx ry ⟨rfl, h _ H (LeH.refl H) rep rfl⟩
  · cases rd; cases re
    exact op_ne pins s σ H _ _ v u Q I rx ry ⟨rfl, h _ H (LeH.refl H) rep rfl⟩
  · cases rd; cases re
    exact op_ne pins s σ H _ _ v u Q I rx ry ⟨rfl, h _ H (LeH.refl H) rep rfl⟩
  · obtain ⟨p, q, h1, h2, h3, h4, h⟩ := h
    exact op_neD hu pins s σ H _ _ v u Q I rx ry ⟨p, q, h1.dp rep p _ x rd, h2.dp rep q _ y re, h3, h4, h _ H (LeH.refl H) rep rfl⟩
/-- is None, is not None -/
@[simp] def isNon : D → Bool
  | .non => true
  | _ => false
@[simp] def dIsN (neg : Bool) : R2D := fun d e S Q => match e with | .non => Q (.bl (if neg then !isNon d else isNon d)) S | _ => False
theorem rd_non {K : PySem.W.Frag} {H : Hp} {d : D} {v : V} (r : RD K H d v) : decide (v = .non) = isNon d := by
  cases d with
  | non => cases r; rfl
  | tup ds => obtain ⟨p, xs, rfl, _⟩ : ∃ p xs, v = V.ref p ∧ SqTn K H p xs ∧ RDs K H ds xs := r; rfl
  | rol ds => obtain ⟨p, xs, rfl, _⟩ : ∃ p xs, v = V.ref p ∧ SqR K H p xs ∧ RDs K H ds xs := r; rfl
  | _ => cases r; rfl
theorem od_is : OpD X (compareOp .Is) (dIsN false) := by
  refine ⟨fun x y S Q Q' k h => ?_, fun pins s σ H x y v u Q I rx ry ⟨d, e, S, rep, rd, re, h⟩ => ?_⟩
  · cases y <;> first | exact h.elim | exact k _ _ h
  · cases e <;> first | exact h.elim | skip
    cases re
    exact op_isN pins s σ H _ _ v u Q I rx ry ⟨rfl, by rw [rd_non rd]; exact h _ H (LeH.refl H) rep rfl⟩
/-- in, not in: signs in a text; data in a list or tuple of data -/
def inP (p : PyData) (ps : List PyData) : Bool := ps.any fun z => PyData.eqv z p
@[simp] def dInS (neg : Bool) : R2D := fun d e S Q => match d, e with | .str x, .str y => Q (.bl (if neg then !(!(Builtin.Str.occurrences y x 0 y.length 1).isEmpty) else !(Builtin.Str.occurrences y x 0 y.length 1).isEmpty)) S | _, _ => False
theorem od_inS : OpD X (compareOp .In) (dInS false) := by
  refine ⟨fun x y S Q Q' k h => ?_, fun pins s σ H x y v u Q I rx ry ⟨d, e, S, rep, rd, re, h⟩ => ?_⟩
  · cases x <;> cases y <;> first | exact h.elim | exact k _ _ h
  · cases d <;> cases e <;> first | exact h.elim | skip
    cases rd; cases re
    exact op_in_str pins s σ H _ _ v u Q I rx ry ⟨_, _, rfl, rfl, h _ H (LeH.refl H) rep rfl⟩
def dInL (neg : Bool) : R2D := fun d e S Q => ∃ p ps, Pd S d p ∧ Pd S e (.list ps) ∧ SeqAt.shaped p = true ∧ SeqAt.shaped (.list ps) = true ∧ Q (.bl (if neg then !inP p ps else inP p ps)) S
theorem od_inL (hu : X.A.units + 65 < cLine) : OpD X (compareOp .In) (dInL false) := by
  refine ⟨fun x y S Q Q' k ⟨p, q, h1, h2, h3, h4, h⟩ => ⟨p, q, h1, h2, h3, h4, k _ _ h⟩, fun pins s σ H x y v u Q I rx ry ⟨d, e, S, rep, rd, re, p, q, h1, h2, h3, h4, h⟩ => ?_⟩
  exact op_inD hu pins s σ H _ _ v u Q I rx ry ⟨p, q, h1.dp rep p d x rd, h2.dp rep _ e y re, h3, h4, h _ H (LeH.refl H) rep rfl⟩
theorem od_ninL (hu : X.A.units + 65 < cLine) : OpD X (compareOp .NotIn) (dInL true) := by
  refine ⟨fun x y S Q Q' k ⟨p, q, h1, h2, h3, h4, h⟩ => ⟨p, q, h1, h2, h3, h4, k _ _ h⟩, fun pins s σ H x y v u Q I rx ry ⟨d, e, S, rep, rd, re, p, q, h1, h2, h3, h4, h⟩ => ?_⟩
  exact op_notInD hu pins s σ H _ _ v u Q I rx ry ⟨p, q, h1.dp rep p d x rd, h2.dp rep _ e y re, h3, h4, h _ H (LeH.refl H) rep rfl⟩

/-! ### calls of built-ins -/
abbrev RCD := List D → DH → DK → Prop
def MonoC (r : RCD) : Prop := ∀ ds S (Q Q' : DK), (∀ d S', Q d S' → Q' d S') → r ds S Q → r ds S Q'
def upC (w : World) (K : PySem.W.Frag) (r : RCD) : List V → Hp → VK → Prop := fun vs H Q => ∃ ds S, Rep w K S H ∧ RDs K H ds vs ∧ r ds S (lQ w K H Q)
structure CallD (X : Cx) (f : Value) (r : RCD) : Prop where
  mono : MonoC r
  run : CallR X f (upC X.w X.K r)
@[simp] def dCB (r : RCD) (t : DTA) : DTE := fun E τ S Q => t E τ S fun ds S1 => r ds S1 Q
variable {x : Str} {p pos : Pos} {e : Expr} {es : List Expr} {t : DTA} {id T : String} {r : RCD}
theorem dCB_up (hr : MonoC r) (ha : DA X es t) {σ : L2.St} {H : Hp} {Q : VK} (h : upE X (dCB r t) σ H Q) : tCB (upC X.w X.K r) (upA X t) σ H Q := by
  obtain ⟨E, τ, S, w, rl, q⟩ := h
  exact ha.to w rl q fun ds S1 vs H1 le w1 r1 rd h => ⟨ds, S1, r1.rep, rd, hr _ _ _ _ (fun d S' z v H' le2 rp rv => z v H' (le.trans le2) rp rv) h⟩
theorem de_callB (hc : CallD X (.builtin id) r) (hg : Gl X x) (hm : X.mg x = none) (hv : bootBuiltins x = some (.builtin id)) (ha : DA X (e :: es) t) (hn : x ≠ "__name__" := by decide) (hdb : (x == ("__debug__" : Str)) = false := by decide)
    (he : starEach (e :: es) X.env = (false, eval e X.env) :: starEach es X.env := by rfl) (hpl : (backTo pos (starEach es X.env)).any (·.1) = false := by rfl) : DE X (.Call (.Name x p) (e :: es) [] pos) (dCB r t) :=
  ⟨fun _ _ _ _ _ _ hE k q => ha.mono _ _ _ _ _ _ hE (fun _ _ z => hc.mono _ _ _ _ k z) q, pE_imp (pe_callB hc.run hg hm hv ha.run hn hdb he hpl) fun _ _ _ h => dCB_up hc.mono ha h⟩
theorem de_callTy (hc : CallD X (.type T) r) (hg : Gl X x) (hm : X.mg x = none) (hv : bootBuiltins x = some (.type T)) (ha : DA X (e :: es) t) (hn : x ≠ "__name__" := by decide) (hdb : (x == ("__debug__" : Str)) = false := by decide)
    (he : starEach (e :: es) X.env = (false, eval e X.env) :: starEach es X.env := by rfl) (hpl : (backTo pos (starEach es X.env)).any (·.1) = false := by rfl) : DE X (.Call (.Name x p) (e :: es) [] pos) (dCB r t) :=
  ⟨fun _ _ _ _ _ _ hE k q => ha.mono _ _ _ _ _ _ hE (fun _ _ z => hc.mono _ _ _ _ k z) q, pE_imp (pe_callTy hc.run hg hm hv ha.run hn hdb he hpl) fun _ _ _ h => dCB_up hc.mono ha h⟩
theorem rds1 {K : PySem.W.Frag} {H : Hp} {d : D} {vs : List V} (r : RDs K H [d] vs) : ∃ v, vs = [v] ∧ RD K H d v := by
  obtain ⟨v, _, rfl, h, rfl⟩ := r
  exact ⟨v, rfl, h⟩
/-- repr -/
def cRepr : RCD := fun ds S Q => match ds with | [d] => ∃ p, Pd S d p ∧ p.showable = true ∧ p.depth ≤ 100 ∧ p.shown.length ≤ sizeLine ∧ Q (.str p.shown) S | _ => False
theorem noDict_pd {S : DH} : ∀ (p : PyData) (d : D), Pd S d p → p.hasDict = false
  | .none, _, h | .bool _, _, h | .int _, _, h | .str _, _, h => rfl
  | .tuple ps, _, h => by cases h with | tup hs => exact go ps _ hs
  | .list ps, _, h => by cases h with | rol hs => exact go ps _ hs | lst _ hs => exact go ps _ hs
  | .dict _, _, h => by cases h
where go : ∀ (ps : List PyData) (ds : List D), PdA S ds ps → PyData.hasDictAll ps = false
  | [], _, _ => rfl
  | p :: ps, _, h => by
    cases h with
    | cons h1 h2 =>
      show (PyData.hasDict p || PyData.hasDictAll ps) = false
      rw [noDict_pd p _ h1, go ps _ h2]
      rfl
theorem cd_repr (hu : X.A.units + 120 < cLine) (hg : X.A.guards = some []) : CallD X (.builtin "repr") cRepr := by
  refine ⟨fun ds S Q Q' k h => ?_, fun pins s σ H vs us Q I rv ⟨ds, S, rep, rd, h⟩ => ?_⟩
  · match ds, h with
    | [d], ⟨p, h1, h2, h3, h4, q⟩ => exact ⟨p, h1, h2, h3, h4, k _ _ q⟩
  · match ds, h with
    | [d], ⟨p, h1, h2, h3, h4, q⟩ =>
      obtain ⟨v, rfl, rd1⟩ := rds1 rd
      obtain ⟨u, rfl, ru⟩ := Vals.one rv
      have dp := h1.dp rep p d v rd1
      have q1 := q (.str p.shown) H (LeH.refl H) rep rfl
      obtain ⟨as, rr⟩ := Dp.reads I p v u dp ru
      cases h1 with
      | non => cases rd1; cases ru; exact PySem.P.repr_of_none ⟨.str _, H, I.tok _, ⟨_, rfl⟩, q1⟩
      | bl b => cases rd1; cases ru; exact PySem.P.repr_of_bool ⟨.str _, H, I.tok _, ⟨_, rfl⟩, by cases b <;> exact q1⟩
      | int i =>
        cases rd1
        obtain ⟨t, rfl⟩ := ru
        have hz : i.natAbs.log2 < 1920 := by simpa [PyData.showable] using h2
        exact PySem.P.repr_of_int hz ⟨.str _, H, I.tok _, ⟨_, rfl⟩, q1⟩
      | str z =>
        cases rd1
        obtain ⟨t, rfl⟩ := ru
        exact PySem.P.repr_of_str ⟨.str _, H, I.tok _, ⟨_, rfl⟩, q1⟩ h4
      | tup hs =>
        obtain ⟨a, xs, rfl, _⟩ : ∃ p xs, v = V.ref p ∧ SqTn X.K H p xs ∧ RDs X.K H _ xs := rd1
        cases ru
        exact PySem.repr_of_reads' rr h2 (fun z => by rw [noDict_pd _ _ (.tup hs)] at z; cases z) hg (by omega) (fun _ _ e => e) (fun h' u tk hk => ⟨.str _, H, I.kept hk, ⟨_, rfl⟩, q1⟩) h4
      | rol hs =>
        obtain ⟨a, xs, rfl, _⟩ : ∃ p xs, v = V.ref p ∧ SqR X.K H p xs ∧ RDs X.K H _ xs := rd1
        cases ru
        exact PySem.repr_of_reads' rr h2 (fun z => by rw [noDict_pd _ _ (.rol hs)] at z; cases z) hg (by omega) (fun _ _ e => e) (fun h' u tk hk => ⟨.str _, H, I.kept hk, ⟨_, rfl⟩, q1⟩) h4
      | lst e hs =>
        cases rd1
        cases ru
        exact PySem.repr_of_reads' rr h2 (fun z => by rw [noDict_pd _ _ (.lst e hs)] at z; cases z) hg (by omega) (fun _ _ e => e) (fun h' u tk hk => ⟨.str _, H, I.kept hk, ⟨_, rfl⟩, q1⟩) h4
end
end Dt
set_option maxRecDepth 100000
set_option maxHeartbeats 4000000
/-! Dat5: subscripts, slices, dicts, built-ins, methods, what is walked. -/
namespace Dt
open PySem PySem.Spec L2

/-! ### keys -/
@[simp] def dkey : D → Option Key
  | .int i => some (.inl i)
  | .str x => some (.inr x)
  | _ => none
def dkeys : List D → Option (List Key)
  | [] => some []
  | d :: ds => match dkey d, dkeys ds with | some k, some ks => some (k :: ks) | _, _ => none
def tkey : D → Option (List Key)
  | .tup ds => dkeys ds
  | _ => none
section
variable {w : World} {K : PySem.W.Frag} {S : DH} {H : Hp}
theorem dkey_rd {d : D} {k : Key} {v : V} (e : dkey d = some k) (r : RD K H d v) : v = kV k := by
  cases d <;> cases e <;> exact r
/-- a key tuple of the heap: not one of the written part -/
def TrkT (K : PySem.W.Frag) (H : Hp) (d : D) (v : V) : Prop := ∃ p ks, v = .ref p ∧ tkey d = some ks ∧ H p = some (.tup (ks.map kV))
end
/-- the tuple that a value stands for is tracked itself -/
theorem sqT_split {K : PySem.W.Frag} {H : Hp} {p : Addr} {xs : List V} (h : SqT K H p xs) : H p = some (.tup xs) ∨ (∃ o, H p = some (.frz o (.tup xs))) ∨ ∃ (o : Obj) (its : Array Value) (n : Nat), K.lookup p = some o ∧ o.cls = .type "tuple" ∧ o.data = .seq its n ∧ its.size ≤ sizeLine ∧ Vals xs its.toList := by
  rcases h with (h | h) | h
  · exact .inl h
  · exact .inr (.inl h)
  · exact .inr (.inr h)

/-! ### o[i] -/
@[simp] def dIxS : R2D := fun d e S Q => match d, e with
  | .tup ds, .int i => opt (atI ds i) fun x => Q x S
  | .rol ds, .int i => opt (atI ds i) fun x => Q x S
  | .str z, .int i => z.length ≤ sizeLine ∧ opt (atI z.cps.toList i) fun c => Q (.str ⟨#[c]⟩) S
  | .ref a, e => (match S a with
    | some (.lst ds) => (match e with | .int i => opt (atI ds i) fun x => Q x S | _ => False)
    | some (.dK kvs) => opt (dkey e) fun k => opt (lk kvs k) fun x => Q x S
    | some (.dN kvs) => okT e = true ∧ opt (lk kvs e) fun x => Q x S
    | _ => False)
  | _, _ => False
def IxD (X : Cx) (r : R2D) : Prop := Mono2 r ∧ IxR X (upO X.w X.K r)
theorem atI_of {K : PySem.W.Frag} {H : Hp} {ds : List D} {xs : List V} {i : Int} {d : D} (r : RDs K H ds xs) (e : atI ds i = some d) : ∃ v, atI xs i = some v ∧ RD K H d v := by
  unfold atI at e ⊢
  rw [← r.length]
  cases q : ixN ds.length i with
  | none => rw [q] at e; cases e
  | some j =>
    rw [q] at e
    exact r.get e
section
variable {X : Cx} {a b : Expr} {ta tb : DTE} {pos : Pos}
theorem ixD_any (hu : X.A.units + 120 < cLine) : IxD X dIxS := by
  refine ⟨fun x y S Q Q' k h => ?_, fun value slice pins s σ H x y v u Q I rx ry ⟨d, e, S, rep, rd, re, h⟩ hs => ?_⟩
  · cases x with
    | tup ds => cases y <;> first | exact h.elim | exact opt_mono (fun _ z => k _ _ z) h
    | rol ds => cases y <;> first | exact h.elim | exact opt_mono (fun _ z => k _ _ z) h
    | str z => cases y <;> first | exact h.elim | exact ⟨h.1, opt_mono (fun _ z => k _ _ z) h.2⟩
    | ref a =>
      revert h
      show (match S a with | some (.lst ds) => _ | some (.dK kvs) => _ | some (.dN kvs) => _ | _ => False) → (match S a with | some (.lst ds) => _ | some (.dK kvs) => _ | some (.dN kvs) => _ | _ => False)
      split
      · intro h
        cases y <;> first | exact h.elim | exact opt_mono (fun _ z => k _ _ z) h
      · exact fun h => opt_mono (fun _ z => opt_mono (fun _ z => k _ _ z) z) h
      · exact fun h => ⟨h.1, opt_mono (fun _ z => k _ _ z) h.2⟩
      · exact fun h => h
    | _ => exact h.elim
  · cases d with
    | tup ds =>
      cases e <;> first | exact h.elim | skip
      rename_i i
      cases re
      obtain ⟨p, xs, rfl, sq, rs⟩ : ∃ p xs, x = V.ref p ∧ SqTn X.K H p xs ∧ RDs X.K H ds xs := rd
      obtain ⟨z, e1, q⟩ := opt_ex h
      obtain ⟨w, e2, rw2⟩ := atI_of rs e1
      exact ix_tup value slice pins s σ H _ _ v u Q I rx ry ⟨p, xs, i, w, rfl, rfl, sq, e2, q w H (LeH.refl H) rep rw2⟩ hs
    | rol ds =>
      cases e <;> first | exact h.elim | skip
      rename_i i
      cases re
      obtain ⟨p, xs, rfl, sq, rs⟩ : ∃ p xs, x = V.ref p ∧ SqR X.K H p xs ∧ RDs X.K H ds xs := rd
      obtain ⟨z, e1, q⟩ := opt_ex h
      obtain ⟨w, e2, rw2⟩ := atI_of rs e1
      exact ix_list value slice pins s σ H _ _ v u Q I rx ry ⟨p, xs, i, w, rfl, rfl, sq.l, e2, q w H (LeH.refl H) rep rw2⟩ hs
    | str z =>
      cases e <;> first | exact h.elim | skip
      rename_i i
      cases re
      cases rd
      obtain ⟨c, e1, q⟩ := opt_ex h.2
      exact ix_str value slice pins s σ H _ _ v u Q I rx ry ⟨z, i, c, rfl, rfl, h.1, e1, q _ H (LeH.refl H) rep rfl⟩ hs
    | ref a =>
      cases rd
      revert h
      show (match S a with | some (.lst ds) => _ | some (.dK kvs) => _ | some (.dN kvs) => _ | _ => False) → _
      split
      · rename_i ds ea
        intro h
        cases e <;> first | exact h.elim | skip
        rename_i i
        cases re
        obtain ⟨xs, e0, rs⟩ : ∃ xs, H a = some (.lst xs) ∧ RDs X.K H ds xs := rep a _ ea
        obtain ⟨z, e1, q⟩ := opt_ex h
        obtain ⟨w, e2, rw2⟩ := atI_of rs e1
        exact ix_list value slice pins s σ H _ _ v u Q I rx ry ⟨a, xs, i, w, rfl, rfl, .of e0, e2, q w H (LeH.refl H) rep rw2⟩ hs
      · rename_i kvs ea
        intro h
        obtain ⟨ws, e0, rk⟩ : ∃ ws, H a = some (.dK ws) ∧ RKs X.K H kvs ws := rep a _ ea
        obtain ⟨k, ek, h⟩ := opt_ex h
        obtain ⟨z, el, q⟩ := opt_ex h
        obtain ⟨w, ew, rw2⟩ := rk.ss el
        have ey := dkey_rd ek re
        subst ey
        cases rx
        have g : DGet H a (kV k) (some w) := ew ▸ DGet.k e0
        exact PyProof.Rows.tail_any (dict_typeIs I g) PySem.F.slot_dict_getitem.lookup (d_getItem (by omega) I g ry fun w' s3 I3 r3 => ⟨w, H, I3, r3, q w H (LeH.refl H) rep rw2⟩) hs
      · rename_i kvs ea
        rintro ⟨hk, h⟩
        obtain ⟨z, el, q⟩ := opt_ex h
        obtain ⟨xs, dd, rx', hsys, hl, nd, mu⟩ := dn_open I (rep a _ ea)
        obtain ⟨nk, b, ek, _, rfl, rfl, his⟩ := okT_key I hk re ry
        obtain ⟨p, hp, w, rw1, rw2⟩ := rx'.ss ek el
        cases rx
        exact PyProof.Rows.tail_any dd.typeIs PySem.F.slot_dict_getitem.lookup (wpAny_getItem_heap (show X.A.units + 1 + 8 < cLine by omega) his dd hp ⟨w, H, I.tok _, rw1, q w H (LeH.refl H) rep rw2⟩) hs
      · exact fun h => h.elim
    | _ => exact h.elim
theorem de_ix {r : R2D} (hr : IxD X r) (ha : DE X a ta) (hb : DE X b tb) (hs : PlainIx b := by exact fun _ _ => rfl) : DE X (.Subscript a b pos) (dOp r ta tb) :=
  ⟨fun _ _ _ _ _ _ he k q => dOp_mono ha hb hr.1 he k q, pE_imp (pe_ix hr.2 ha.run hb.run hs) fun _ _ _ h => dOp_up ha hb hr.1 h⟩
end

/-! ### o[i:j] -/
abbrev DTO := DW → DSt → DH → (Option Int → DH → Prop) → Prop
def upP (X : Cx) (t : DTO) : TO := fun σ H Q => ∃ E τ S, Wish X E H ∧ Rel X.w X.K τ S σ H ∧ t E τ S fun o S' => ∀ H', LeH H H' → Rep X.w X.K S' H' → Q o H'
structure DO (X : Cx) (e : Option Expr) (t : DTO) : Prop where
  mono : ∀ (E E' : DW) τ S (Q Q' : Option Int → DH → Prop), (∀ C fs τ S, E C fs τ S → E' C fs τ S) → (∀ d S', Q d S' → Q' d S') → t E τ S Q → t E' τ S Q'
  run : PO X e (upP X t)
@[simp] def dNoP : DTO := fun _ _ S Q => Q none S
@[simp] def dSoP (te : DTE) : DTO := fun E τ S Q => te E τ S fun d S' => match d with | .int i => Q (some i) S' | _ => False
section
variable {X : Cx} {e o : Expr} {lo hi : Option Expr} {te to : DTE} {tl th : DTO} {pos p2 : Pos}
theorem pP_imp {e : Option Expr} {t t' : TO} (h : PO X e t) (k : ∀ σ H Q, t' σ H Q → t σ H Q) : PO X e t' := ⟨fun pins s σ H Q I q => h.run pins s σ H Q I (k σ H Q q)⟩
theorem do_none : DO X none dNoP := ⟨fun _ _ _ _ _ _ _ k q => k _ _ q, pP_imp po_none fun σ H Q ⟨E, τ, S, w, r, q⟩ => q H (LeH.refl H) r.rep⟩
theorem do_some (h : DE X e te) : DO X (some e) (dSoP te) := by
  refine ⟨fun E E' τ S Q Q' he k q => h.mono _ _ _ _ _ _ he (fun d S' z => ?_) q, pP_imp (po_some h.run) fun σ H Q ⟨E, τ, S, w, r, q⟩ => ?_⟩
  · cases d <;> first | exact z.elim | exact k _ _ z
  · refine h.to w r q fun d S' v H' le w' r' rd z => ?_
    cases d <;> first | exact z.elim | skip
    exact ⟨_, rd, z H' le r'.rep⟩
theorem DO.lead {t : DTO} (h : DO X lo t) {E : DW} {τ : DSt} {S : DH} {σ : L2.St} {H : Hp} {Q0 : Option Int → DH → Prop} {Q : Option Int → Hp → Prop} (w : Wish X E H) (r : Rel X.w X.K τ S σ H) (q : t E τ S Q0)
    (k : ∀ b S' H', LeH H H' → Wish X E H' → Rel X.w X.K τ S' σ H' → Q0 b S' → Q b H') : upP X t σ H Q :=
  ⟨E, τ, S, w, r, h.mono _ _ _ _ _ _ (fun _ _ _ _ z => z) (fun d S' z H' le rp => k d S' H' le (w.le le) (r.le le rp) z) q⟩
def cutD (ds : List D) (lo hi : Option Int) : List D := (ds.drop (HT.sIx ds.length 0 lo)).take (HT.sIx ds.length ds.length hi - HT.sIx ds.length 0 lo)
theorem cut_rd {K : PySem.W.Frag} {H : Hp} {ds : List D} {xs : List V} (r : RDs K H ds xs) (lo hi : Option Int) : RDs K H (cutD ds lo hi) (cutV xs lo hi) := by
  unfold cutD cutV
  rw [r.length]
  exact (r.drop _).take _
@[simp] def dSl (to : DTE) (tl th : DTO) : DTE := fun E τ S Q => to E τ S fun d S1 => tl E τ S1 fun l S2 => th E τ S2 fun h S3 => match d with
  | .str z => z.length ≤ sizeLine ∧ Q (.str (cutS z l h)) S3
  | .tup ds => Q (.tup (cutD ds l h)) S3
  | .ref a => (match S3 a with | some (.lst ds) => newO S3 (.lst (cutD ds l h)) fun p S' => Q (.ref p) S' | _ => False)
  | .rol ds => newO S3 (.lst (cutD ds l h)) fun p S' => Q (.ref p) S'
  | _ => False
theorem de_sl (ho : DE X o to) (hl : DO X lo tl) (hh : DO X hi th) : DE X (.Subscript o (.Slice lo hi none p2) pos) (dSl to tl th) := by
  refine ⟨fun E E' τ S Q Q' he k q => ho.mono _ _ _ _ _ _ he (fun d S1 z => hl.mono _ _ _ _ _ _ he (fun l S2 z => hh.mono _ _ _ _ _ _ he (fun h S3 z => ?_) z) z) q,
    pE_imp (pe_slice (sl_list.or (sl_tupN.or sl_str)) ho.run hl.run hh.run) fun σ H Q ⟨E, τ, S, w, r, q⟩ => ?_⟩
  · cases d with
    | str x => exact ⟨z.1, k _ _ z.2⟩
    | tup ds => exact k _ _ z
    | rol ds => exact fun p hp => k _ _ (z p hp)
    | ref a =>
      revert z
      show (match S3 a with | some (.lst ds) => _ | _ => False) → (match S3 a with | some (.lst ds) => _ | _ => False)
      split
      · exact fun z p hp => k _ _ (z p hp)
      · exact fun z => z
    | _ => exact z
  · refine ho.to w r q fun d S1 x H1 le1 w1 r1 rd z => hl.lead w1 r1 z fun l S2 H2 le2 w2 r2 z => hh.lead w2 r2 z fun h S3 H3 le3 w3 r3 z => ?_
    have rd3 := rd.le (le2.trans le3)
    have le := le1.trans (le2.trans le3)
    cases d with
    | str x =>
      cases rd
      exact .inr (.inr ⟨_, rfl, z.1, z.2 _ H3 le r3.rep rfl⟩)
    | tup ds =>
      obtain ⟨p, xs, rfl, sq, rs⟩ : ∃ p xs, x = V.ref p ∧ SqTn X.K H3 p xs ∧ RDs X.K H3 ds xs := rd3
      refine .inr (.inl ⟨p, xs, rfl, sq, fun ⟨h1, h2⟩ => z _ H3 le r3.rep ⟨p, xs, rfl, sq, ?_⟩, fun _ q _ _ hq => ?_⟩)
      · have : cutD ds l h = ds := by
          unfold cutD
          rw [rs.length, h1, h2, List.drop_zero, Nat.sub_zero, ← rs.length, List.take_length]
        rw [this]
        exact rs
      · exact z _ _ (le.trans (LeH.new hq)) (r3.rep.garb hq) ⟨q, _, rfl, .inl ⟨_, _, upd_same⟩, (cut_rd rs l h).le (LeH.new hq)⟩
    | rol ds =>
      obtain ⟨p, xs, rfl, sq, rs⟩ : ∃ p xs, x = V.ref p ∧ SqR X.K H3 p xs ∧ RDs X.K H3 ds xs := rd3
      refine .inl ⟨p, xs, rfl, sq.l, fun q hq => ?_⟩
      exact z q (r3.rep.free hq) _ _ (le.trans (LeH.new hq)) (r3.rep.new hq (o := .lst (cutD ds l h)) ⟨_, upd_same, (cut_rd rs l h).le (LeH.new hq)⟩) rfl
    | ref a =>
      cases rd
      revert z
      show (match S3 a with | some (.lst ds) => _ | _ => False) → _
      split
      · rename_i ds ea
        intro z
        obtain ⟨xs, e0, rs⟩ : ∃ xs, H3 a = some (.lst xs) ∧ RDs X.K H3 ds xs := r3.rep a _ ea
        refine .inl ⟨a, xs, rfl, .of e0, fun q hq => ?_⟩
        exact z q (r3.rep.free hq) _ _ (le.trans (LeH.new hq)) (r3.rep.new hq (o := .lst (cutD ds l h)) ⟨_, upd_same, (cut_rd rs l h).le (LeH.new hq)⟩) rfl
      · exact fun z => z.elim
    | _ => exact z.elim
@[simp] def dSlF (to : DTE) (tl th : DTO) : DTE := fun E τ S Q => to E τ S fun d S1 => tl E τ S1 fun l S2 => th E τ S2 fun h S3 => match d with
  | .str z => z.length ≤ sizeLine ∧ Q (.str (cutS z l h)) S3
  | .tup ds => Q (.tup (cutD ds l h)) S3
  | d => opt (seqD S3 d) fun ds => Q (.rol (cutD ds l h)) S3
theorem de_slF (ho : DE X o to) (hl : DO X lo tl) (hh : DO X hi th) : DE X (.Subscript o (.Slice lo hi none p2) pos) (dSlF to tl th) :=
  (de_fz (de_sl ho hl hh)).sub (fun E E' τ S Q Q' he k q => ho.mono _ _ _ _ _ _ he (fun d S1 z => hl.mono _ _ _ _ _ _ he (fun l S2 z => hh.mono _ _ _ _ _ _ he (fun h S3 z => by
      cases d with
      | str x => exact ⟨z.1, k _ _ z.2⟩
      | tup ds => exact k _ _ z
      | _ => exact opt_mono (fun _ q => k _ _ q) z) z) z) q)
    fun E τ S Q q => ho.mono _ _ _ _ _ _ (fun _ _ _ _ z => z) (fun d S1 z => hl.mono _ _ _ _ _ _ (fun _ _ _ _ z => z) (fun l S2 z => hh.mono _ _ _ _ _ _ (fun _ _ _ _ z => z) (fun h S3 z => by
      cases d with
      | str x => exact ⟨z.1, z.2⟩
      | tup ds => exact z
      | rol ds => exact fun p hp => fzK_new hp z
      | ref a =>
        obtain ⟨ds, e, z⟩ := opt_ex z
        simp only [seqD_ref] at e
        split at e
        · rename_i xs ea
          cases e
          simp only [ea]
          exact fun p hp => fzK_new hp z
        · cases e
      | _ => cases z) z) z) q
end

/-! ### displays -/
section
variable {X : Cx} {es : List Expr} {t : DTA} {pos : Pos}
@[simp] def dTup (t : DTA) : DTE := fun E τ S Q => t E τ S fun ds S1 => ds.length ≤ sizeLine ∧ Q (.tup ds) S1
@[simp] def dLst (t : DTA) : DTE := fun E τ S Q => t E τ S fun ds S1 => ds.length ≤ sizeLine ∧ newO S1 (.lst ds) fun p S' => Q (.ref p) S'
theorem de_tup {x1} (h : DA X es t) : DE X (.Tuple es x1 pos) (dTup t) := by
  refine ⟨fun E E' τ S Q Q' he k q => h.mono _ _ _ _ _ _ he (fun ds S1 z => ⟨z.1, k _ _ z.2⟩) q, pE_imp (pe_tupN h.run) fun σ H Q ⟨E, τ, S, w, r, q⟩ => ?_⟩
  refine h.to w r q fun ds S1 vs H1 le w1 r1 rd z => ⟨by rw [← rd.length]; exact z.1, fun p _ _ hp => ?_⟩
  exact z.2 _ _ (le.trans (LeH.new hp)) (r1.rep.garb hp) ⟨p, vs, rfl, .inl ⟨_, _, upd_same⟩, rd.le (LeH.new hp)⟩
theorem de_lst (h : DA X es t) : DE X (.List es pos) (dLst t) := by
  refine ⟨fun E E' τ S Q Q' he k q => h.mono _ _ _ _ _ _ he (fun ds S1 z => ⟨z.1, fun p hp => k _ _ (z.2 p hp)⟩) q, pE_imp (pe_lst h.run) fun σ H Q ⟨E, τ, S, w, r, q⟩ => ?_⟩
  refine h.to w r q fun ds S1 vs H1 le w1 r1 rd z => ⟨by rw [← rd.length]; exact z.1, fun p hp => ?_⟩
  exact z.2 p (r1.rep.free hp) _ _ (le.trans (LeH.new hp)) (r1.rep.new hp (o := .lst ds) ⟨vs, upd_same, rd.le (LeH.new hp)⟩) rfl
@[simp] def dLstF (t : DTA) : DTE := fun E τ S Q => t E τ S fun ds S1 => ds.length ≤ sizeLine ∧ Q (.rol ds) S1
theorem de_lstF (h : DA X es t) : DE X (.List es pos) (dLstF t) := (de_fz (de_lst h)).sub (fun E E' τ S Q Q' he k q => h.mono _ _ _ _ _ _ he (fun ds S1 z => ⟨z.1, k _ _ z.2⟩) q) fun E τ S Q q => h.mono _ _ _ _ _ _ (fun _ _ _ _ z => z) (fun ds S1 z => ⟨z.1, fun p hp => fzK_new hp z.2⟩) q
/-- {} with int and text keys; with keys that are tuples of such -/
@[simp] def dDnK : DTE := fun _ _ S Q => newO S (.dK []) fun p S' => Q (.ref p) S'
theorem de_dnK : DE X (.Dict [] [] pos) dDnK := ⟨fun _ _ _ _ _ _ _ k q p hp => k _ _ (q p hp), pE_imp pe_dnewK fun σ H Q ⟨E, τ, S, w, r, q⟩ p hp => q p (r.rep.free hp) _ _ (LeH.new hp) (r.rep.new hp (o := .dK []) ⟨[], upd_same, rfl⟩) rfl⟩
/-- {k: v, ..}, the keys written texts -/
@[simp] def dPairs : List (Str × DTE) → DW → DSt → DH → (List (Key × D) → DH → Prop) → Prop
  | [], _, _, S, Q => Q [] S
  | (k, tv) :: r, E, τ, S, Q => tv E τ S fun d S1 => dPairs r E τ S1 fun kvs S2 => Q ((Sum.inr k, d) :: kvs) S2
def mergeD (kvs more : List (Key × D)) : List (Key × D) := more.foldl (fun acc kv => pt acc kv.1 kv.2) kvs
theorem merge_rk {K : PySem.W.Frag} {H : Hp} : ∀ {more kvs : List (Key × D)} {ms ws : List (Key × V)}, RKs K H more ms → RKs K H kvs ws → RKs K H (mergeD kvs more) (mergeK ws ms)
  | [], _, _, _, h, k => by cases h; exact k
  | (j, d) :: r, _, _, _, h, k => by
    obtain ⟨v, s, rfl, h1, h2⟩ := h
    show RKs K H (mergeD (pt _ j d) r) (mergeK (putK _ j v) s)
    exact merge_rk h2 (k.pt h1)
@[simp] def dDisp (prs : List (Str × DTE)) : DTE := fun E τ S Q => newO S (.dK []) fun p S1 => dPairs prs E τ S1 fun kvs S2 => S2 p = some (.dK []) ∧ Q (.ref p) (upo S2 p (.dK (mergeD [] kvs)))
inductive DPs (X : Cx) (pos : Pos) : List (Option Expr) → List Expr → List (Str × DTE) → Prop where
  | nil : DPs X pos [] [] []
  | cons {k : Str} {j : Nat} {kp : Pos} {v : Expr} {ks : List (Option Expr)} {vs : List Expr} {tv : DTE} {prs : List (Str × DTE)} : DE X v tv → DPs X pos ks vs prs → DPs X pos (some (.Constant (.str k) j kp) :: ks) (v :: vs) ((k, tv) :: prs)
def trsOf (X : Cx) (prs : List (Str × DTE)) : List (TE × TE) := prs.map fun q => (tC (.str q.1), upE X q.2)
theorem DPs.pps {ks : List (Option Expr)} {vs : List Expr} {prs : List (Str × DTE)} (h : DPs X pos ks vs prs) : PPs X pos ks vs (trsOf X prs) := by
  induction h with
  | nil => exact pps_nil
  | cons hv _ ih => exact pps_cons pe_str hv.run ih
theorem DPs.mono {ks : List (Option Expr)} {vs : List Expr} {prs : List (Str × DTE)} (h : DPs X pos ks vs prs) : ∀ (E E' : DW) τ S (Q Q' : List (Key × D) → DH → Prop), (∀ C fs τ S, E C fs τ S → E' C fs τ S) → (∀ d S', Q d S' → Q' d S') → dPairs prs E τ S Q → dPairs prs E' τ S Q' := by
  induction h with
  | nil => exact fun _ _ _ _ _ _ _ k q => k _ _ q
  | cons hv _ ih => exact fun _ _ _ _ _ _ he k q => hv.mono _ _ _ _ _ _ he (fun d S1 z => ih _ _ _ _ _ _ he (fun _ _ z => k _ _ z) z) q
theorem DPs.to {ks : List (Option Expr)} {vs : List Expr} {prs : List (Str × DTE)} (h : DPs X pos ks vs prs) : ∀ {E : DW} {τ : DSt} {S : DH} {σ : L2.St} {H : Hp} {Q0 : List (Key × D) → DH → Prop} {Q : List (V × V) → Hp → Prop}, Wish X E H → Rel X.w X.K τ S σ H → dPairs prs E τ S Q0 →
    (∀ kvs S' (ws : List (Key × V)) H', LeH H H' → Wish X E H' → Rel X.w X.K τ S' σ H' → RKs X.K H' kvs ws → kvs.length = prs.length → Q0 kvs S' → Q (ws.map fun kv => (kV kv.1, kv.2)) H') → tPairs (trsOf X prs) σ H Q := by
  induction h with
  | nil => exact fun w r q k => k [] _ [] _ (LeH.refl _) w r rfl rfl q
  | @cons kk j kp v ks vs tv prs hv _ ih =>
    intro E τ S σ H Q0 Q w r q k
    refine hv.to w r q fun d S1 x H1 le1 w1 r1 rd z => ih w1 r1 z fun kvs S2 ws H2 le2 w2 r2 rk hl z => ?_
    exact k ((Sum.inr kk, d) :: kvs) S2 ((Sum.inr kk, x) :: ws) H2 (le1.trans le2) w2 r2 ⟨x, ws, rfl, rd.le le2, rk⟩ (by simp [hl]) z
theorem de_disp {ks : List (Option Expr)} {vs : List Expr} {prs : List (Str × DTE)} (h : DPs X pos ks vs prs) (hall : ks.all (·.isSome) = true := by rfl) (hl : ks.length = vs.length := by rfl) (h0 : ks ≠ [] := by exact fun z => nomatch z) (h15 : ks.length ≤ 15 := by decide) (h16 : prs.length ≤ 15 := by decide) : DE X (.Dict ks vs pos) (dDisp prs) := by
  refine ⟨fun E E' τ S Q Q' he k q p hp => h.mono _ _ _ _ _ _ he (fun kvs S2 z => ⟨z.1, k _ _ z.2⟩) (q p hp), pE_imp (pe_disp h.pps hall hl h0 h15) fun σ H Q ⟨E, τ, S, w, r, q⟩ p hp => ?_⟩
  have le0 : LeH H (upd H p (.dK [])) := LeH.new hp
  have r0 : Rel X.w X.K τ (upo S p (.dK [])) σ (upd H p (.dK [])) := r.le le0 (r.rep.new hp (o := .dK []) ⟨[], upd_same, rfl⟩)
  refine h.to (w.le le0) r0 (q p (r.rep.free hp)) fun kvs S2 ws H2 le2 w2 r2 rk hlen z => ?_
  obtain ⟨ws0, e0, rk0⟩ : ∃ ws, H2 p = some (.dK ws) ∧ RKs X.K H2 [] ws := r2.rep p _ z.1
  cases rk0
  have le3 : LeH H2 (upd H2 p (.dK (mergeK [] ws))) := LeH.put e0 trivial
  exact ⟨e0, ws, rfl, by rw [← rk.length, hlen]; exact h16, z.2 _ _ (le0.trans (le2.trans le3)) (r2.rep.put e0 trivial (o := .dK (mergeD [] kvs)) ⟨_, upd_same, (merge_rk rk (show RKs X.K H2 ([] : List (Key × D)) [] from rfl)).le le3⟩) rfl⟩
end

/-! ### o[i] = e -/
section
variable {X : Cx} {o i value : Expr} {to ti tv : DTE} {pos pos' : Pos}
/-- what the place's object becomes -/
@[simp] def putO (ob : Ob) (k v : D) : Option Ob := match ob, k with
  | .lst ds, .int i => (ixN ds.length i).map fun j => .lst (ds.set j v)
  | .dK kvs, k => (dkey k).bind fun kk => if kvs.length < sizeLine then some (.dK (pt kvs kk v)) else none
  | .dN kvs, k => if okT k = true ∧ kvs.length < sizeLine then some (.dN (pt kvs k v)) else none
  | _, _ => none
@[simp] def dPut (to ti tv : DTE) : DTS := fun A τ S => tv A.xe τ S fun v S1 => to A.xe τ S1 fun d S2 => ti A.xe τ S2 fun k S3 => match d with
  | .ref a => opt (S3 a) fun ob => opt (putO ob k v) fun ob' => A.nx τ (upo S3 a ob')
  | _ => False
/-- what a store asks, told of data -/
def rPutD (K : PySem.W.Frag) (w : World) : TSet := fun o i v H Q => rSetL o i v H Q ∨ (∃ a H4, o = .ref a ∧ DPut H a i v H4 ∧ Q H4) ∨
  ∃ a kvs k d, o = .ref a ∧ ROb w K H a (.dN kvs) ∧ okT k = true ∧ RD K H k i ∧ RD K H d v ∧ kvs.length < sizeLine ∧ ∀ rows, LeH H (upd H a (dnHO w rows a)) → ROb w K (upd H a (dnHO w rows a)) a (.dN (pt kvs k d)) → Q (upd H a (dnHO w rows a))
theorem set_both (hu : X.A.units + 120 < cLine) : PSet X (rPutD X.K X.w) := by
  intro pins s σ H o i v ov iv u Q I ro ri rv h
  rcases h with h | ⟨a, H4, rfl, g, q⟩ | ⟨a, kvs, k, d, rfl, rb, hk, rk, rd, hl, q⟩
  · exact set_list pins s σ H o i v ov iv u Q I ro ri rv h
  · cases ro
    exact d_setItem (by omega) I g ri rv fun s4 I4 => ⟨H4, I4, q⟩
  · cases ro
    obtain ⟨xs, dd, rx', hsys, _, nd, mu⟩ := dn_open I rb
    obtain ⟨nk, b, ek, hd8, rfl, rfl, his⟩ := okT_key I hk rk ri
    refine wpAny_setItem_heap (show X.A.units + 1 + 8 < cLine by omega) his dd (fun h' dd' sb => ?_) (by rw [← rx'.length]; omega)
    obtain ⟨rows, I2, le, rb2⟩ := dn_close (t := s.toks + (nestedKind X.prog X.w).draws nk) I mu hsys (rx'.pt ek hd8 rk rv rd) (by have := pt_len kvs k d; omega) (pt_nodup k d nd) dd' sb
    exact ⟨_, I2, q rows le rb2⟩
theorem ds_put (hu : X.A.units + 120 < cLine) (ho : DE X o to) (hi : DE X i ti) (hv : DE X value tv) (hs : swapsWithSole [.Subscript o i pos'] value pos.line X.env = pure false := by rfl) (hw : swappedStores [.Subscript o i pos'] value X.env = pure none := by rfl)
    (h1 : (assignEach [.Subscript o i pos'] X.env).map (·.2) = [assign (.Subscript o i pos') X.env] := by rfl)
    (ha : ∀ v, assign (.Subscript o i pos') X.env v = (do let ov ← holding [v] (eval o X.env); let iv ← holding [v, ov] (eval i X.env); standAt pos'; holding [v, ov, iv] (setItem ov iv v); release [v, ov, iv] []) := by intro _; rfl) :
    DS X (.Assign [.Subscript o i pos'] value pos) (dPut to ti tv) := by
  refine ⟨fun A B τ S le q => hv.mono _ _ _ _ _ _ le.xe (fun v S1 z => ho.mono _ _ _ _ _ _ le.xe (fun d S2 z => hi.mono _ _ _ _ _ _ le.xe (fun k S3 z => ?_) z) z) q,
    pS_imp (ps_asg hv.run (pg_sub ho.run hi.run (set_both hu) ha) hs hw h1) fun D σ H ⟨E, τ, S, w, r, q⟩ => ?_⟩
  · cases d <;> first | exact z | exact opt_mono (fun _ z => opt_mono (fun _ z => le.nx _ _ z) z) z
  · refine hv.to w r q fun v S1 x H1 le1 w1 r1 rv z => ho.to w1 r1 z fun d S2 y H2 le2 w2 r2 rd z => hi.to w2 r2 z fun k S3 u H3 le3 w3 r3 rk z => ?_
    cases d with
    | ref a =>
      cases rd
      obtain ⟨ob, ea, z⟩ := opt_ex z
      obtain ⟨ob', eo, z⟩ := opt_ex z
      have rv3 := rv.le (le2.trans le3)
      have le := le1.trans (le2.trans le3)
      cases ob with
      | lst ds =>
        cases k with
        | int n =>
          cases rk
          obtain ⟨xs, e0, rs⟩ : ∃ xs, H3 a = some (.lst xs) ∧ RDs X.K H3 ds xs := r3.rep a _ ea
          have eo' : (ixN ds.length n).map (fun j => Ob.lst (ds.set j v)) = some ob' := eo
          cases ej : ixN ds.length n with
          | none =>
            rw [ej] at eo'
            cases eo'
          | some j =>
            rw [ej] at eo'
            cases eo'
            have le4 : LeH H3 (upd H3 a (.lst (xs.set j x))) := LeH.put e0 trivial
            exact .inl ⟨a, xs, n, j, rfl, rfl, e0, by rw [← rs.length]; exact ej, z _ _ (le.trans le4) (r3.le le4 (r3.rep.put e0 trivial (o := .lst (ds.set j v)) ⟨_, upd_same, (rs.set j rv3).le le4⟩))⟩
        | _ => cases eo
      | dK kvs =>
        obtain ⟨ws, e0, rk0⟩ : ∃ ws, H3 a = some (.dK ws) ∧ RKs X.K H3 kvs ws := r3.rep a _ ea
        have eo' : ((dkey k).bind fun kk => if kvs.length < sizeLine then some (Ob.dK (pt kvs kk v)) else none) = some ob' := by
          cases k <;> exact eo
        cases ek : dkey k with
        | none =>
          rw [ek] at eo'
          cases eo'
        | some kk =>
          rw [ek, Option.bind_some] at eo'
          split at eo'
          · rename_i hl
            cases eo'
            have eu := dkey_rd ek rk
            subst eu
            have le4 : LeH H3 (upd H3 a (.dK (putK ws kk x))) := LeH.put e0 trivial
            exact .inr (.inl ⟨a, _, rfl, DPut.k e0 (by rw [← rk0.length]; exact hl), z _ _ (le.trans le4) (r3.le le4 (r3.rep.put e0 trivial (o := .dK (pt kvs kk v)) ⟨_, upd_same, (rk0.pt rv3).le le4⟩))⟩)
          · cases eo'
      | dN kvs =>
        have eo' : (if okT k = true ∧ kvs.length < sizeLine then some (Ob.dN (pt kvs k v)) else none) = some ob' := by
          cases k <;> exact eo
        split at eo'
        · rename_i hk
          cases eo'
          have rb := r3.rep a _ ea
          refine .inr (.inr ⟨a, kvs, k, v, rfl, rb, hk.1, rk, rv3, hk.2, fun rows le4 rb2 => z _ _ (le.trans le4) (r3.le le4 ?_)⟩)
          obtain ⟨rows0, e0, _⟩ := rb
          exact r3.rep.put e0 trivial rb2
        · cases eo'
      | ins C fs => cases k <;> cases eo
      | exc _ _ => cases k <;> cases eo
      | xd _ => cases k <;> cases eo
      | ex0 _ => cases k <;> cases eo
      | ex1 _ _ => cases k <;> cases eo
      | xm _ => cases k <;> cases eo
      | fK _ => cases k <;> cases eo
      | fN _ => cases k <;> cases eo
    | _ => exact z.elim
end
end Dt
set_option maxRecDepth 100000
set_option maxHeartbeats 4000000
/-! Dat6: built-ins by name, methods, what is walked, isinstance, names of the module. -/
namespace Dt
open PySem PySem.Spec L2

section
variable {X : Cx}
/-! ### calls -/
@[simp] def cLen : RCD := fun ds S Q => match ds with
  | [.str z] => z.length ≤ sizeLine ∧ Q (.int z.length) S
  | [.tup xs] => Q (.int xs.length) S
  | [.rol xs] => Q (.int xs.length) S
  | [.ref a] => (match S a with | some (.lst xs) => Q (.int xs.length) S | some (.dK kvs) => Q (.int kvs.length) S | some (.dN kvs) => Q (.int kvs.length) S | _ => False)
  | _ => False
theorem cd_len : CallD X (.builtin "len") cLen := by
  refine ⟨fun ds S Q Q' k h => ?_, fun pins s σ H vs us Q I rv ⟨ds, S, rep, rd, h⟩ => ?_⟩
  · match ds, h with
    | [.str z], h => exact ⟨h.1, k _ _ h.2⟩
    | [.tup xs], h => exact k _ _ h
    | [.rol xs], h => exact k _ _ h
    | [.ref a], h =>
      revert h
      show (match S a with | some (.lst xs) => _ | some (.dK kvs) => _ | some (.dN kvs) => _ | _ => False) → (match S a with | some (.lst xs) => _ | some (.dK kvs) => _ | some (.dN kvs) => _ | _ => False)
      split
      · exact k _ _
      · exact k _ _
      · exact k _ _
      · exact fun h => h
  · match ds, h with
    | [.str z], h =>
      obtain ⟨v, rfl, r⟩ := rds1 rd
      cases r
      exact call_len_str pins s σ H _ us Q I rv ⟨z, rfl, h.1, h.2 _ H (LeH.refl H) rep rfl⟩
    | [.tup xs], h =>
      obtain ⟨v, rfl, r⟩ := rds1 rd
      obtain ⟨p, ys, rfl, sq, rs⟩ : ∃ p ys, v = V.ref p ∧ SqTn X.K H p ys ∧ RDs X.K H xs ys := r
      exact call_len_seq pins s σ H _ us Q I rv ⟨p, ys, rfl, .inr sq, by rw [← rs.length]; exact h _ H (LeH.refl H) rep rfl⟩
    | [.rol xs], h =>
      obtain ⟨v, rfl, r⟩ := rds1 rd
      obtain ⟨p, ys, rfl, sq, rs⟩ : ∃ p ys, v = V.ref p ∧ SqR X.K H p ys ∧ RDs X.K H xs ys := r
      exact call_len_seq pins s σ H _ us Q I rv ⟨p, ys, rfl, .inl sq.l, by rw [← rs.length]; exact h _ H (LeH.refl H) rep rfl⟩
    | [.ref a], h =>
      obtain ⟨v, rfl, r⟩ := rds1 rd
      cases r
      revert h
      show (match S a with | some (.lst xs) => _ | some (.dK kvs) => _ | some (.dN kvs) => _ | _ => False) → _
      split
      · rename_i xs ea
        intro h
        obtain ⟨ys, e0, rs⟩ : ∃ ys, H a = some (.lst ys) ∧ RDs X.K H xs ys := rep a _ ea
        exact call_len_seq pins s σ H _ us Q I rv ⟨a, ys, rfl, .inl (.of e0), by rw [← rs.length]; exact h _ H (LeH.refl H) rep rfl⟩
      · rename_i kvs ea
        intro h
        obtain ⟨ws, e0, rk⟩ : ∃ ws, H a = some (.dK ws) ∧ RKs X.K H kvs ws := rep a _ ea
        exact call_lenD pins s σ H _ us Q I rv ⟨a, ws, rfl, e0, by rw [← rk.length]; exact h _ H (LeH.refl H) rep rfl⟩
      · rename_i kvs ea
        intro h
        obtain ⟨xs, dd, rx', hsys, hl, nd, mu⟩ := dn_open I (rep a _ ea)
        rw [Vals.ref1 rv]
        refine call_len_dictH hsys dd (by rw [← rx'.length]; rw [sizeLine_eq] at hl; omega) ?_
        rw [← rx'.length]
        exact ⟨.int ((kvs.length : Nat) : Int), H, I.tok _, ⟨_, rfl⟩, h _ H (LeH.refl H) rep rfl⟩
      · exact fun h => h.elim
@[simp] def cMax2 : RCD := fun ds S Q => match ds with | [.int i, .int j] => Q (.int (if j > i then j else i)) S | _ => False
@[simp] def cMin2 : RCD := fun ds S Q => match ds with | [.int i, .int j] => Q (.int (if j < i then j else i)) S | _ => False
def cMinL : RCD := fun ds S Q => ∃ (d : D) (ns : List Int), ds = [d] ∧ seqD S d = some (ns.map D.int) ∧ 0 < ns.length ∧ ∀ m, m ∈ ns → (∀ y, y ∈ ns → m ≤ y) → Q (.int m) S
def cMaxL : RCD := fun ds S Q => ∃ (d : D) (ns : List Int), ds = [d] ∧ seqD S d = some (ns.map D.int) ∧ 0 < ns.length ∧ ∀ m, m ∈ ns → (∀ y, y ∈ ns → y ≤ m) → Q (.int m) S
def cAll : RCD := fun ds S Q => ∃ (d : D) (bs : List Bool), ds = [d] ∧ seqD S d = some (bs.map D.bl) ∧ Q (.bl (bs.all id)) S
def cAny : RCD := fun ds S Q => ∃ (d : D) (bs : List Bool), ds = [d] ∧ seqD S d = some (bs.map D.bl) ∧ Q (.bl (bs.any id)) S
theorem cd_all (hc : X.calm = true) : CallD X (.builtin "all") cAll := by
  refine ⟨fun ds S Q Q' k ⟨a, ns, e, h1, h⟩ => ⟨a, ns, e, h1, k _ _ h⟩, fun pins s σ H vs us Q I rv ⟨ds, S, rep, rd, d, ns, e, h1, h⟩ => ?_⟩
  subst e
  obtain ⟨v, rfl, r⟩ := rds1 rd
  obtain ⟨a, ys, rfl, sq, rs⟩ := seqD_rd rep r h1
  rw [RDs.bls.mp rs] at sq
  exact cr_all hc pins s σ H _ us Q I rv ⟨a, ns, rfl, sq.l, h _ H (LeH.refl H) rep rfl⟩
@[simp] def cList : RCD := fun ds S Q => match ds with
  | [.tup xs] => newO S (.lst xs) fun p S' => Q (.ref p) S'
  | [.rol xs] => newO S (.lst xs) fun p S' => Q (.ref p) S'
  | [.ref a] => (match S a with | some (.lst xs) => newO S (.lst xs) fun p S' => Q (.ref p) S' | _ => False)
  | _ => False
theorem cd_list : CallD X (.type "list") cList := by
  refine ⟨fun ds S Q Q' k h => ?_, fun pins s σ H vs us Q I rv ⟨ds, S, rep, rd, h⟩ => ?_⟩
  · match ds, h with
    | [.tup xs], h => exact fun p hp => k _ _ (h p hp)
    | [.rol xs], h => exact fun p hp => k _ _ (h p hp)
    | [.ref a], h =>
      revert h
      show (match S a with | some (.lst xs) => _ | _ => False) → (match S a with | some (.lst xs) => _ | _ => False)
      split
      · exact fun h p hp => k _ _ (h p hp)
      · exact fun h => h
  · match ds, h with
    | [.tup xs], h =>
      obtain ⟨v, rfl, r⟩ := rds1 rd
      obtain ⟨p, ys, rfl, sq, rs⟩ : ∃ p ys, v = V.ref p ∧ SqTn X.K H p ys ∧ RDs X.K H xs ys := r
      exact call_list_of pins s σ H _ us Q I rv ⟨p, ys, rfl, .inr sq, fun l hl => rep_new (Q0 := fun _ _ => True) rep hl rs (h l (rep.free hl))⟩
    | [.rol xs], h =>
      obtain ⟨v, rfl, r⟩ := rds1 rd
      obtain ⟨p, ys, rfl, sq, rs⟩ : ∃ p ys, v = V.ref p ∧ SqR X.K H p ys ∧ RDs X.K H xs ys := r
      exact call_list_of pins s σ H _ us Q I rv ⟨p, ys, rfl, .inl sq.l, fun l hl => rep_new (Q0 := fun _ _ => True) rep hl rs (h l (rep.free hl))⟩
    | [.ref a], h =>
      obtain ⟨v, rfl, r⟩ := rds1 rd
      cases r
      revert h
      show (match S a with | some (.lst xs) => _ | _ => False) → _
      split
      · rename_i xs ea
        intro h
        obtain ⟨ys, e0, rs⟩ : ∃ ys, H a = some (.lst ys) ∧ RDs X.K H xs ys := rep a _ ea
        exact call_list_of pins s σ H _ us Q I rv ⟨a, ys, rfl, .inl (.of e0), fun l hl => rep_new (Q0 := fun _ _ => True) rep hl rs (h l (rep.free hl))⟩
      · exact fun h => h.elim
theorem CallD.sub {f : Value} {r r' : RCD} (h : CallD X f r) (m : MonoC r') (k : ∀ ds S Q, r' ds S Q → r ds S Q) : CallD X f r' :=
  ⟨m, fun pins s σ H vs us Q I rv ⟨ds, S, rep, rd, q⟩ => h.run pins s σ H vs us Q I rv ⟨ds, S, rep, rd, k _ _ _ q⟩⟩
@[simp] def cFz (r : RCD) : RCD := fun ds S Q => r ds S (fzK Q)
theorem cd_fz {f : Value} {r : RCD} (h : CallD X f r) : CallD X f (cFz r) := by
  refine ⟨fun ds S Q Q' k q => h.mono _ _ _ _ (fzK_mono k) q, fun pins s σ H vs us Q I rv ⟨ds, S, rep, rd, q⟩ => ?_⟩
  refine thn (h.run pins s σ H vs us (fun v H1 => ∃ d S1, LeH H H1 ∧ Rep X.w X.K S1 H1 ∧ RD X.K H1 d v ∧ fzK (fun d S' => ∀ v H', LeH H H' → Rep X.w X.K S' H' → RD X.K H' d v → Q v H') d S1) I rv ⟨ds, S, rep, rd, h.mono _ _ _ _ (fun z S' y v H' le rp rz => ⟨z, S', le, rp, rz, y⟩) q⟩) fun u s' ⟨v, H1, I1, ru, d, S1, le, rp, rd, z⟩ => ?_
  exact fzK_to I1 rp rd ru z fun d S' v H' le' rp' rd' y => y v H' (le.trans le') rp' rd'
@[simp] def cListF : RCD := fun ds S Q => match ds with
  | [.tup xs] => Q (.rol xs) S
  | [d] => opt (seqD S d) fun xs => Q (.rol xs) S
  | _ => False
theorem cd_listF : CallD X (.type "list") cListF := (cd_fz cd_list).sub (fun ds S Q Q' k h => by
    unfold cListF at h ⊢
    split at h
    · exact k _ _ h
    · exact opt_mono (fun _ q => k _ _ q) h
    · exact h) fun ds S Q h => by
    unfold cListF at h
    unfold cFz cList
    split at h
    · exact fun p hp => fzK_new hp h
    · rename_i d _
      obtain ⟨xs, e, q⟩ := opt_ex h
      clear h
      cases d with
      | rol ys => cases e; exact fun p hp => fzK_new hp q
      | ref a =>
        simp only [seqD_ref] at e
        split at e
        · rename_i ys ea
          cases e
          simp only [ea]
          exact fun p hp => fzK_new hp q
        · cases e
      | _ => simp at e
    · exact h.elim
@[simp] def cTuple : RCD := fun ds S Q => match ds with
  | [.tup xs] => Q (.tup xs) S
  | [.rol xs] => Q (.tup xs) S
  | [.ref a] => (match S a with | some (.lst xs) => Q (.tup xs) S | _ => False)
  | _ => False
theorem cd_tuple : CallD X (.type "tuple") cTuple := by
  refine ⟨fun ds S Q Q' k h => ?_, fun pins s σ H vs us Q I rv ⟨ds, S, rep, rd, h⟩ => ?_⟩
  · match ds, h with
    | [.tup xs], h => exact k _ _ h
    | [.rol xs], h => exact k _ _ h
    | [.ref a], h =>
      revert h
      show (match S a with | some (.lst xs) => _ | _ => False) → (match S a with | some (.lst xs) => _ | _ => False)
      split
      · exact k _ _
      · exact fun h => h
  · match ds, h with
    | [.tup xs], h =>
      obtain ⟨v, rfl, r⟩ := rds1 rd
      obtain ⟨p, ys, rfl, sq, rs⟩ : ∃ p ys, v = V.ref p ∧ SqTn X.K H p ys ∧ RDs X.K H xs ys := r
      exact call_tupleT pins s σ H _ us Q I rv ⟨p, ys, rfl, sq, h _ H (LeH.refl H) rep ⟨p, ys, rfl, sq, rs⟩⟩
    | [.rol xs], h =>
      obtain ⟨v, rfl, r⟩ := rds1 rd
      obtain ⟨p, ys, rfl, sq, rs⟩ : ∃ p ys, v = V.ref p ∧ SqR X.K H p ys ∧ RDs X.K H xs ys := r
      exact call_tupleN pins s σ H _ us Q I rv ⟨p, ys, rfl, sq.l, fun l _ _ hl => rep_tup rep hl rs h⟩
    | [.ref a], h =>
      obtain ⟨v, rfl, r⟩ := rds1 rd
      cases r
      revert h
      show (match S a with | some (.lst xs) => _ | _ => False) → _
      split
      · rename_i xs ea
        intro h
        obtain ⟨ys, e0, rs⟩ : ∃ ys, H a = some (.lst ys) ∧ RDs X.K H xs ys := rep a _ ea
        exact call_tupleN pins s σ H _ us Q I rv ⟨a, ys, rfl, .of e0, fun l _ _ hl => rep_tup rep hl rs h⟩
      · exact fun h => h.elim
@[simp] def cInt : RCD := fun ds S Q => match ds with | [.int i] => Q (.int i) S | [.bl b] => Q (.int (if b then 1 else 0)) S | _ => False
theorem cd_int : CallD X (.type "int") cInt := by
  refine ⟨fun ds S Q Q' k h => ?_, fun pins s σ H vs us Q I rv ⟨ds, S, rep, rd, h⟩ => ?_⟩
  · match ds, h with
    | [.int i], h => exact k _ _ h
    | [.bl i], h => exact k _ _ h
  · match ds, h with
    | [.int i], h =>
      obtain ⟨v, rfl, r⟩ := rds1 rd
      cases r
      exact call_int1 pins s σ H _ us Q I rv (.inl ⟨i, rfl, h _ H (LeH.refl H) rep rfl⟩)
    | [.bl i], h =>
      obtain ⟨v, rfl, r⟩ := rds1 rd
      cases r
      exact call_int1 pins s σ H _ us Q I rv (.inr ⟨i, rfl, h _ H (LeH.refl H) rep rfl⟩)

/-! ### methods -/
abbrev RMD := D → List D → DH → DK → Prop
def MonoM (r : RMD) : Prop := ∀ d ds S (Q Q' : DK), (∀ d S', Q d S' → Q' d S') → r d ds S Q → r d ds S Q'
def upM (w : World) (K : PySem.W.Frag) (r : RMD) : V → List V → Hp → VK → Prop := fun x vs H Q => ∃ d ds S, Rep w K S H ∧ RD K H d x ∧ RDs K H ds vs ∧ r d ds S (lQ w K H Q)
structure MtD (X : Cx) (id : String) (r : RMD) : Prop where
  mono : MonoM r
  run : MtR X id (upM X.w X.K r)
@[simp] def tyD (T : String) (d : D) (S : DH) : Prop := match d with
  | .str _ => T = "str"
  | .rol _ => T = "list"
  | .tup _ => T = "tuple"
  | .ref a => (match S a with | some (.lst _) => T = "list" | some (.dK _) => T = "dict" | some (.dN _) => T = "dict" | _ => False)
  | _ => False
theorem tyD_is {pins : List (Addr × Obj)} {σ : L2.St} {s : Shared} {T : String} {d : D} {S : DH} {x : V} {v : Value} {H : Hp} (I : Inv X pins σ H s) (rep : Rep X.w X.K S H) (r : RD X.K H d x) (rv : RelV x v) (h : tyD T d S) :
    s.TypeIs v T ∧ ∀ a, v = .ref a → ∃ ob, s.heap.get? a = some ob ∧ ob.dict = none := by
  have via : tyV X.K T x H → s.TypeIs v T ∧ ∀ a, v = .ref a → ∃ ob, s.heap.get? a = some ob ∧ ob.dict = none := tyV_is I rv
  cases d with
  | str z => cases r; exact via h
  | rol ds =>
    obtain ⟨p, ys, rfl, sq, rs⟩ : ∃ p ys, x = V.ref p ∧ SqR X.K H p ys ∧ RDs X.K H ds ys := r
    exact via (.inl ⟨h, ys, sq.l⟩)
  | tup ds =>
    obtain ⟨p, ys, rfl, sq, rs⟩ : ∃ p ys, x = V.ref p ∧ SqTn X.K H p ys ∧ RDs X.K H ds ys := r
    have hT : T = "tuple" := h
    subst hT
    obtain rfl : v = Value.ref p := rv
    rcases sq with ⟨its, n, e⟩ | ⟨its, n, e, hz, rv⟩
    · obtain ⟨e1, _⟩ := (show ObjOk X.prog X.w H s.heap p (tupO its n ys) from I.hok p _ e)
      exact ⟨⟨_, e1, rfl⟩, fun b eb => by cases eb; exact ⟨_, e1, rfl⟩⟩
    · exact ⟨⟨_, I.kIn p _ e, rfl⟩, fun b eb => by cases eb; exact ⟨_, I.kIn p _ e, rfl⟩⟩
  | ref a =>
    cases r
    revert h
    show (match S a with | some (.lst _) => T = "list" | some (.dK _) => T = "dict" | some (.dN _) => T = "dict" | _ => False) → _
    split
    · rename_i xs ea
      obtain ⟨ys, e0, _⟩ : ∃ ys, H a = some (.lst ys) ∧ RDs X.K H xs ys := rep a _ ea
      exact fun h => via (.inl ⟨h, ys, .of e0⟩)
    · rename_i xs ea
      obtain ⟨ys, e0, _⟩ : ∃ ys, H a = some (.dK ys) ∧ RKs X.K H xs ys := rep a _ ea
      exact fun h => via (.inr (.inr (.inl ⟨h, .inl ⟨ys, e0⟩⟩)))
    · rename_i xs ea
      rintro rfl
      obtain ⟨xs, dd, _⟩ := dn_open I (rep a _ ea)
      cases (show v = .ref a from rv)
      refine ⟨dd.typeIs, fun b e => ?_⟩
      cases e
      obtain ⟨o, es, ep, ho, hx, _⟩ := dd
      exact ⟨o, ho, hx.2.1⟩
    · exact fun h => h.elim
  | _ => exact h.elim
@[simp] def dBM (T : String) (r : RMD) (to : DTE) (t : DTA) : DTE := fun E τ S Q => to E τ S fun d S1 => tyD T d S1 ∧ t E τ S1 fun ds S2 => r d ds S2 Q
variable {o e : Expr} {es : List Expr} {to te : DTE} {t : DTA} {name : Str} {apos cpos pos p : Pos} {T id : String} {r : RMD}
theorem de_bm0 (pa : PlainAttrs T) (slot : Slot T name id) (hty : typeOf (.builtin id) = pure (.type "method_descriptor")) (hm : MtD X id r) (ho : DE X o to)
    (hbase : attributeBase o name X.env (eval o X.env) = eval o X.env := by rfl) (hline : (apos.endLine == cpos.line) = true := by rfl) : DE X (.Call (.Attribute o name apos) [] [] cpos) (dBM T r to dNil) := by
  refine ⟨fun E E' τ S Q Q' he k q => ho.mono _ _ _ _ _ _ he (fun d S1 z => ⟨z.1, hm.mono _ _ _ _ _ k z.2⟩) q, ⟨fun pins s σ H Q I ⟨E, τ, S, w, rl, q⟩ => ?_⟩⟩
  refine wpAny_Call_method_late hbase (by rfl) hline rfl (thn (ho.run.run pins s σ H _ I (ho.to w rl q fun d S1 x H1 le1 w1 r1 rd z => (⟨d, S1, le1, r1, rd, z⟩ : ∃ d S1, LeH H H1 ∧ Rel X.w X.K τ S1 σ H1 ∧ RD X.K H1 d x ∧ tyD T d S1 ∧
    r d [] S1 fun d S' => ∀ v H', LeH H H' → Rep X.w X.K S' H' → RD X.K H' d v → Q v H'))) fun v s1 ⟨x, H1, I1, rx, d, S1, le1, r1, rd, ht, z⟩ => ?_)
  obtain ⟨h1, h2⟩ := tyD_is I1 r1.rep rd rx ht
  exact ⟨T, id, pa, slot, hty, h1, h2, Calls.callWith_builtin rfl (PySem.evalArgs_none (hm.run pins s1 σ H1 x [] v [] Q I1 rx .nil ⟨d, [], S1, r1.rep, rd, .nil, hm.mono _ _ _ _ _ (fun z S' y v H' le rp rz => y v H' (le1.trans le) rp rz) z⟩))⟩
theorem de_bm (pa : PlainAttrs T) (slot : Slot T name id) (hty : typeOf (.builtin id) = pure (.type "method_descriptor")) (hm : MtD X id r) (ho : DE X o to) (ha : DA X (e :: es) t)
    (hbase : attributeBase o name X.env (eval o X.env) = eval o X.env := by rfl)
    (hfew : ((backTo cpos (starEach (e :: es) X.env)).all (fun x => !x.1) && (backToKw cpos (keywordEach [] X.env)).all (fun x => x.1.isSome) && decide ((e :: es).length + ([] : List Keyword).length + (if ([] : List Keyword).isEmpty then 0 else 1) < 30)) = true := by rfl)
    (hline : (apos.endLine == cpos.line) = true := by rfl) (hs : starEach (e :: es) X.env = (false, eval e X.env) :: starEach es X.env := by rfl) (hplain : (backTo cpos (starEach es X.env)).any (·.1) = false := by rfl) :
    DE X (.Call (.Attribute o name apos) (e :: es) [] cpos) (dBM T r to t) := by
  refine ⟨fun E E' τ S Q Q' he k q => ho.mono _ _ _ _ _ _ he (fun d S1 z => ⟨z.1, ha.mono _ _ _ _ _ _ he (fun ds S2 z => hm.mono _ _ _ _ _ k z) z.2⟩) q, ⟨fun pins s σ H Q I ⟨E, τ, S, w, rl, q⟩ => ?_⟩⟩
  refine wpAny_Call_method_late hbase hfew hline rfl (thn (ho.run.run pins s σ H _ I (ho.to w rl q fun d S1 x H1 le1 w1 r1 rd z => (⟨d, S1, le1, w1, r1, rd, z⟩ : ∃ d S1, LeH H H1 ∧ Wish X E H1 ∧ Rel X.w X.K τ S1 σ H1 ∧ RD X.K H1 d x ∧ tyD T d S1 ∧
    t E τ S1 fun ds S2 => r d ds S2 fun d S' => ∀ v H', LeH H H' → Rep X.w X.K S' H' → RD X.K H' d v → Q v H'))) fun v s1 ⟨x, H1, I1, rx, d, S1, le1, w1, r1, rd, ht, z⟩ => ?_)
  obtain ⟨h1, h2⟩ := tyD_is I1 r1.rep rd rx ht
  refine ⟨T, id, pa, slot, hty, h1, h2, ?_⟩
  have hA := ha.run.run cpos pins s1 σ H1 _ I1 (ha.to w1 r1 z fun ds S2 vs H2 le2 w2 r2 rds z => (⟨ds, S2, le2, r2, rds, z⟩ : ∃ ds S2, LeH H1 H2 ∧ Rel X.w X.K τ S2 σ H2 ∧ RDs X.K H2 ds vs ∧
    r d ds S2 fun d S' => ∀ v H', LeH H H' → Rep X.w X.K S' H' → RD X.K H' d v → Q v H'))
  rw [hs] at hA ⊢
  refine Calls.callWith_builtin (by show (false || (backTo cpos (starEach es X.env)).any (·.1)) = false; rw [hplain] <;> rfl) (Calls.evalArgs_plain ?_)
  exact thn hA fun us s2 ⟨vs, H2, I2, rv2, ds, S2, le2, r2, rds, z⟩ => hm.run pins s2 σ H2 x vs v us Q I2 rx rv2 ⟨d, ds, S2, r2.rep, rd.le le2, rds, hm.mono _ _ _ _ _ (fun z S' y v H' le rp rz => y v H' (le1.trans (le2.trans le)) rp rz) z⟩
/-- a method that changes the list at a -/
@[simp] def mLst (ds : List D) (d : D) (S : DH) (Q : List D → (List D → DH) → Prop) : Prop := match d with | .ref a => (match S a with | some (.lst xs) => Q xs fun ys => upo S a (.lst ys) | _ => False) | _ => False
@[simp] def mAppend : RMD := fun d ds S Q => mLst ds d S fun xs up => match ds with | [y] => xs.length < sizeLine ∧ Q .non (up (xs ++ [y])) | _ => False
theorem mLst_mono {ds : List D} {d : D} {S : DH} {Q Q' : List D → (List D → DH) → Prop} (k : ∀ a xs, d = .ref a → S a = some (.lst xs) → Q xs (fun ys => upo S a (.lst ys)) → Q' xs (fun ys => upo S a (.lst ys))) (h : mLst ds d S Q) : mLst ds d S Q' := by
  cases d with
  | ref a =>
    revert h
    show (match S a with | some (.lst xs) => _ | _ => False) → (match S a with | some (.lst xs) => _ | _ => False)
    split
    · rename_i xs ea
      exact k a xs rfl ea
    · exact fun h => h
  | _ => exact h
theorem mLst_ex {ds : List D} {d : D} {S : DH} {Q : List D → (List D → DH) → Prop} (h : mLst ds d S Q) : ∃ a xs, d = .ref a ∧ S a = some (.lst xs) ∧ Q xs fun ys => upo S a (.lst ys) := by
  cases d with
  | ref a =>
    revert h
    show (match S a with | some (.lst xs) => _ | _ => False) → _
    split
    · rename_i xs ea
      exact fun h => ⟨a, xs, rfl, ea, h⟩
    · exact fun h => h.elim
  | _ => exact h.elim
theorem md_append : MtD X "list.append" mAppend := by
  refine ⟨fun d ds S Q Q' k h => mLst_mono (fun a xs e1 e2 z => ?_) h, fun pins s σ H x vs v us Q I rx rv ⟨d, ds, S, rep, rd, rds, h⟩ => ?_⟩
  · match ds, z with | [y], z => exact ⟨z.1, k _ _ z.2⟩
  · obtain ⟨a, xs, rfl, ea, z⟩ := mLst_ex h
    match ds, z with
    | [y], z =>
      cases rd
      obtain ⟨u, rfl, ru⟩ := rds1 rds
      obtain ⟨ys, e0, rs⟩ : ∃ ys, H a = some (.lst ys) ∧ RDs X.K H xs ys := rep a _ ea
      have le : LeH H (upd H a (.lst (ys ++ [u]))) := LeH.put e0 trivial
      exact mt_append pins s σ H _ _ v us Q I rx rv ⟨a, ys, u, rfl, rfl, e0, by rw [← rs.length]; exact z.1, z.2 _ _ le (rep.put e0 trivial (o := .lst (xs ++ [y])) ⟨_, upd_same, (rs.snoc ru).le le⟩) rfl⟩
@[simp] def mExtend : RMD := fun d ds S Q => mLst ds d S fun xs up => match ds with | [e] => opt (seqD S e) fun zs => xs.length + zs.length ≤ sizeLine ∧ Q .non (up (xs ++ zs)) | _ => False
def rExtendX (K : PySem.W.Frag) : V → List V → Hp → VK → Prop := fun x vs H Q => ∃ l b xs zs, x = .ref l ∧ vs = [.ref b] ∧ H l = some (.lst xs) ∧ SqX K H b zs ∧ xs.length + zs.length ≤ sizeLine ∧ Q .non (upd H l (.lst (xs ++ zs)))
theorem mt_extendX : MtM X "list.extend" (rExtendX X.K) := by
  intro pins s σ H x vs v us Q I rx rv h
  obtain ⟨l, b, xs, zs, rfl, rfl, hH, hB, hz, q⟩ := h
  cases rx
  obtain ⟨u, rfl, ru⟩ := rv.one
  cases ru
  obtain ⟨z, its, n, r, hl, e⟩ := I.lstM hH
  obtain ⟨its2, n2, r2, z2, hl2, e2⟩ := sqX_get I hB
  have hsz : its.toArray.size + its2.toArray.size ≤ sizeLine := by rw [List.size_toArray, List.size_toArray]; omega
  have hlong : ¬ (!its.toArray.isEmpty && Builtin.List.listTooLong (its.toArray.size + its2.toArray.size)) = true := by
    rw [notLongL hsz, Bool.and_false]
    exact Bool.false_ne_true
  refine call_meets F.slot_list_extend ⟨_, e, rfl⟩ F.entry_list_extend (F.args_list_extend_2 _ _)
    (AutoSeq1.list_extend_list_list_0 l its.toArray n b its2.toArray n2 hlong (by rw [List.size_toArray]; omega) (by omega)) ⟨e, e2, ?_⟩
  refine ⟨.non, _, I.lset (its' := its ++ its2) hH e (by simp) (r.append r2) ?_, rfl, q⟩
  rw [List.length_append]
  omega
theorem md_extend : MtD X "list.extend" mExtend := by
  refine ⟨fun d ds S Q Q' k h => mLst_mono (fun a xs e1 e2 z => ?_) h, fun pins s σ H x vs v us Q I rx rv ⟨d, ds, S, rep, rd, rds, h⟩ => ?_⟩
  · match ds, z with
    | [e], z => exact opt_mono (fun _ z => ⟨z.1, k _ _ z.2⟩) z
  · obtain ⟨a, xs, rfl, ea, z⟩ := mLst_ex h
    match ds, z with
    | [e], z =>
      cases rd
      obtain ⟨u, rfl, ru⟩ := rds1 rds
      obtain ⟨zs, eb, z⟩ := opt_ex z
      obtain ⟨b, ws, rfl, sb, rs1⟩ := seqD_rd rep ru eb
      obtain ⟨ys, e0, rs⟩ : ∃ ys, H a = some (.lst ys) ∧ RDs X.K H xs ys := rep a _ ea
      have le : LeH H (upd H a (.lst (ys ++ ws))) := LeH.put e0 trivial
      exact mt_extendX pins s σ H _ _ v us Q I rx rv ⟨a, b, ys, ws, rfl, rfl, e0, sb, by rw [← rs.length, ← rs1.length]; exact z.1, z.2 _ _ le (rep.put e0 trivial (o := .lst (xs ++ zs)) ⟨_, upd_same, (rs.append rs1).le le⟩) rfl⟩
@[simp] def mPop : RMD := fun d ds S Q => mLst ds d S fun xs up => match ds with | [] => opt xs[xs.length - 1]? fun y => Q y (up xs.dropLast) | _ => False
theorem md_pop : MtD X "list.pop" mPop := by
  refine ⟨fun d ds S Q Q' k h => mLst_mono (fun a xs e1 e2 z => ?_) h, fun pins s σ H x vs v us Q I rx rv ⟨d, ds, S, rep, rd, rds, h⟩ => ?_⟩
  · match ds, z with | [], z => exact opt_mono (fun _ z => k _ _ z) z
  · obtain ⟨a, xs, rfl, ea, z⟩ := mLst_ex h
    match ds, z with
    | [], z =>
      cases rd
      cases rds
      obtain ⟨y, ey, z⟩ := opt_ex z
      obtain ⟨ys, e0, rs⟩ : ∃ ys, H a = some (.lst ys) ∧ RDs X.K H xs ys := rep a _ ea
      obtain ⟨u, eu, ru⟩ := rs.get ey
      have le : LeH H (upd H a (.lst ys.dropLast)) := LeH.put e0 trivial
      exact mt_pop pins s σ H _ _ v us Q I rx rv ⟨a, ys, u, rfl, rfl, e0, by rw [← rs.length]; exact eu, z _ _ le (rep.put e0 trivial (o := .lst xs.dropLast) ⟨_, upd_same, rs.dropLast.le le⟩) (ru.le le)⟩
@[simp] def mReverse : RMD := fun d ds S Q => mLst ds d S fun xs up => match ds with | [] => Q .non (up xs.reverse) | _ => False
def mJoin : RMD := fun d ds S Q => ∃ (a : Str) (e : D) (ys : List Str), d = .str a ∧ ds = [e] ∧ (seqD S e = some (ys.map D.str) ∨ e = .tup (ys.map D.str)) ∧ (ys.map (·.length)).sum + ys.length * a.length ≤ 16777216 ∧ Q (.str (Txt.join a ys)) S
@[simp] def mFind : RMD := fun d ds S Q => match d, ds with | .str a, [.str b] => Q (.int (Txt.find a b)) S | _, _ => False
end

/-! ### what is walked -/
section
variable {X : Cx} {tg l : Expr} {tl : DTE} {ta : DTA} {p pos : Pos}
def iAny (K : PySem.W.Frag) (tl : TE) : TI := fun σ H R => tl σ H fun x H1 => (∃ a, x = .ref a ∧ (∃ xs, SqL K H1 a xs) ∧ R (Itl K a) H1) ∨ (∃ a, x = .ref a ∧ (∃ xs, SqT K H1 a xs) ∧ R (Itt K a) H1) ∨ ∃ z, x = .str z ∧ R (Its z) H1
theorem pi_any {tl : TE} (hl : PE X l tl) : PI X tg l (iAny X.K tl) := by
  refine ⟨fun pins s σ H R I h => thn (hl.run pins s σ H _ I h) fun v s1 ⟨x, H1, I1, r1, q1⟩ => ?_⟩
  rcases q1 with ⟨a, rfl, ⟨xs, hq⟩, q⟩ | ⟨a, rfl, ⟨xs, hq⟩, q⟩ | ⟨z, rfl, q⟩
  · cases r1
    obtain ⟨its, rv, pl, hz⟩ := I1.list hq
    exact PySem.wpAny_pyIter_list pl.isList (pi_one (tk := s1.toks) I1 _ (turn_list a _) ⟨_, Heap.get?_push_size _ rfl, rfl, rfl⟩ q)
  · cases r1
    obtain ⟨its, rv, pl, hz⟩ := I1.tuple hq
    exact PySem.wpAny_pyIter_tuple (show s1.heap.IsTuple a its.toArray from pl) (pi_one (tk := s1.toks) I1 _ (turn_tuple a _) ⟨_, Heap.get?_push_size _ rfl, rfl, rfl⟩ q)
  · obtain ⟨t, rfl⟩ := r1
    cases ha : z.cps.all (· < 128)
    · exact PySem.wpAny_pyIter_wide ha (pi_one (tk := s1.toks) I1 _ (turn_str _ z t "str_iterator" (.inr rfl)) ⟨_, Heap.get?_push_size _ rfl, rfl, rfl⟩ q)
    · exact PySem.wpAny_pyIter_ascii ha (pi_one (tk := s1.toks) I1 _ (turn_str _ z t "str_ascii_iterator" (.inl rfl)) ⟨_, Heap.get?_push_size _ rfl, rfl, rfl⟩ q)
def signD (c : Nat) : D := .str ⟨#[c]⟩
@[simp] def dSeqI (tl : DTE) : DTI := fun E τ S R => tl E τ S fun d S1 => match d with
  | .tup ds => R (fun _ => True) ds S1
  | .rol ds => R (fun _ => True) ds S1
  | .str z => R (fun _ => True) (z.cps.toList.map signD) S1
  | .ref a => (match S1 a with | some (.lst ds) => R (fun S => S a = some (.lst ds)) ds S1 | _ => False)
  | _ => False
theorem feeds_seqL {w : World} {K : PySem.W.Frag} {H0 : Hp} {a : Addr} {ds : List D} {G : DH → Prop} (h : ∀ S H, LeH H0 H → Rep w K S H → G S → ∃ xs, SqL K H a xs ∧ RDs K H ds xs) : Feeds w K H0 (Itl K a) G ds where
  go := fun i S H le rp g hi => by
    obtain ⟨xs, sq, rs⟩ := h S H le rp g
    exact ⟨xs, xs[i]'(by rw [← rs.length]; exact hi), sq, by simp⟩
  yld := fun i S H x H' le rp g hi ⟨e, y⟩ => by
    subst e
    obtain ⟨xs, sq, rs⟩ := h S _ le rp g
    obtain ⟨d, e, r⟩ := rs.got (y xs sq)
    exact ⟨LeH.refl _, rp, d, e, r⟩
  stop := fun S H le rp g => by
    obtain ⟨xs, sq, rs⟩ := h S H le rp g
    exact ⟨xs, sq, by rw [rs.length]; exact Nat.le_refl _⟩
theorem feeds_seqT {w : World} {K : PySem.W.Frag} {H0 : Hp} {a : Addr} {ds : List D} {G : DH → Prop} (h : ∀ S H, LeH H0 H → Rep w K S H → G S → ∃ xs, SqTn K H a xs ∧ RDs K H ds xs) : Feeds w K H0 (Itt K a) G ds where
  go := fun i S H le rp g hi => by
    obtain ⟨xs, sq, rs⟩ := h S H le rp g
    exact ⟨xs, xs[i]'(by rw [← rs.length]; exact hi), sq, by simp⟩
  yld := fun i S H x H' le rp g hi ⟨e, y⟩ => by
    subst e
    obtain ⟨xs, sq, rs⟩ := h S _ le rp g
    obtain ⟨d, e, r⟩ := rs.got (y xs sq)
    exact ⟨LeH.refl _, rp, d, e, r⟩
  stop := fun S H le rp g => by
    obtain ⟨xs, sq, rs⟩ := h S H le rp g
    exact ⟨xs, sq, by rw [rs.length]; exact Nat.le_refl _⟩
theorem feeds_str {w : World} {K : PySem.W.Frag} {H0 : Hp} {z : Str} {G : DH → Prop} : Feeds w K H0 (Its z) G (z.cps.toList.map signD) where
  go := fun i S H le rp g hi => by
    show i < z.cps.size
    simpa using hi
  yld := fun i S H x H' le rp g hi ⟨e, c, ec, ex⟩ => by
    subst e ex
    refine ⟨LeH.refl _, rp, signD c, ?_, rfl⟩
    rw [List.getElem?_map, Array.getElem?_toList, ec]
    rfl
  stop := fun S H le rp g => by
    show z.cps.size ≤ (z.cps.toList.map signD).length
    simp
theorem di_seq (hl : DE X l tl) : DI X tg l (dSeqI tl) := by
  refine ⟨fun E E' τ S Q Q' he k q => hl.mono _ _ _ _ _ _ he (fun d S1 z => ?_) q, pI_imp (pi_any hl.run) fun σ H R ⟨E, τ, S, w, r, q⟩ => ?_⟩
  · cases d with
    | tup ds => exact k _ _ _ z
    | rol ds => exact k _ _ _ z
    | str ds => exact k _ _ _ z
    | ref a =>
      revert z
      show (match S1 a with | some (.lst ds) => _ | _ => False) → (match S1 a with | some (.lst ds) => _ | _ => False)
      split
      · exact k _ _ _
      · exact fun z => z
    | _ => exact z
  · refine hl.to w r q fun d S1 x H1 le w1 r1 rd z => ?_
    cases d with
    | tup ds =>
      obtain ⟨p, ys, rfl, sq, rs⟩ : ∃ p ys, x = V.ref p ∧ SqTn X.K H1 p ys ∧ RDs X.K H1 ds ys := rd
      exact .inr (.inl ⟨p, rfl, ⟨ys, sq⟩, z _ H1 le r1.rep (feeds_seqT fun S H le rp g => ⟨ys, sq.le le, rs.le le⟩)⟩)
    | rol ds =>
      obtain ⟨p, ys, rfl, sq, rs⟩ : ∃ p ys, x = V.ref p ∧ SqR X.K H1 p ys ∧ RDs X.K H1 ds ys := rd
      exact .inl ⟨p, rfl, ⟨ys, sq.l⟩, z _ H1 le r1.rep (feeds_seqL fun S H le rp g => ⟨ys, (sq.le le).l, rs.le le⟩)⟩
    | str y =>
      cases rd
      exact .inr (.inr ⟨y, rfl, z _ H1 le r1.rep feeds_str⟩)
    | ref a =>
      cases rd
      revert z
      show (match S1 a with | some (.lst ds) => _ | _ => False) → _
      split
      · rename_i ds ea
        intro z
        obtain ⟨ys, e0, rs⟩ : ∃ ys, H1 a = some (.lst ys) ∧ RDs X.K H1 ds ys := r1.rep a _ ea
        exact .inl ⟨a, rfl, ⟨ys, .of e0⟩, z _ H1 le r1.rep (feeds_seqL fun S H le rp g => by
          obtain ⟨zs, e1, rz⟩ : ∃ ys, H a = some (.lst ys) ∧ RDs X.K H ds ys := rp a _ g
          exact ⟨zs, .of e1, rz⟩)⟩
      · exact fun z => z.elim
    | _ => exact z.elim
theorem feeds_rng {w : World} {K : PySem.W.Frag} {H0 : Hp} {lo : Int} {n : Nat} {G : DH → Prop} : Feeds w K H0 (Itr lo n) G ((List.range n).map fun i : Nat => D.int (lo + (i : Nat))) where
  go := fun i S H le rp g hi => by
    show i < n
    simpa using hi
  yld := fun i S H x H' le rp g hi ⟨e, ex⟩ => by
    subst e ex
    refine ⟨LeH.refl _, rp, .int (lo + (i : Nat)), ?_, rfl⟩
    have hi' : i < n := by simpa using hi
    rw [List.getElem?_map, List.getElem?_range hi']
    rfl
  stop := fun S H le rp g => by
    show n ≤ ((List.range n).map fun i : Nat => D.int (lo + (i : Nat))).length
    simp
def rngD (lo : Int) (n : Nat) : List D := (List.range n).map fun i : Nat => D.int (lo + (i : Nat))
@[simp] def dRng1 (ta : DTA) : DTI := fun E τ S R => ta E τ S fun ds S1 => match ds with | [.int j] => (-(2 ^ 62) ≤ j ∧ j < 2 ^ 62) ∧ R (fun _ => True) (rngD 0 j.toNat) S1 | _ => False
@[simp] def dRng2 (ta : DTA) : DTI := fun E τ S R => ta E τ S fun ds S1 => match ds with | [.int i, .int j] => (-(2 ^ 62) ≤ i ∧ i < 2 ^ 62 ∧ -(2 ^ 62) ≤ j ∧ j < 2 ^ 62) ∧ R (fun _ => True) (rngD i (j - i).toNat) S1 | _ => False
theorem di_rng1 {a : Expr} (hg : Gl X "range") (hm : X.mg "range" = none) (ha : DA X [a] ta) (hs : starEach [a] X.env = [(false, eval a X.env)] := by rfl) : DI X tg (.Call (.Name "range" p) [a] [] pos) (dRng1 ta) := by
  refine ⟨fun E E' τ S Q Q' he k q => ha.mono _ _ _ _ _ _ he (fun ds S1 z => ?_) q, pI_imp (pi_range1 hg hm ha.run hs) fun σ H R ⟨E, τ, S, w, r, q⟩ => ?_⟩
  · match ds, z with | [.int j], z => exact ⟨z.1, k _ _ _ z.2⟩
  · refine ha.to w r q fun ds S1 vs H1 le w1 r1 rd z => ?_
    match ds, z with
    | [.int j], z =>
      obtain ⟨v, rfl, rv⟩ := rds1 rd
      cases rv
      exact ⟨j, rfl, z.1.1, z.1.2, z.2 _ H1 le r1.rep feeds_rng⟩
end

/-! ### isinstance by a built-in class; names of the module; chains; * -/
section
variable {X : Cx} {e : Expr} {te : DTE} {p p2 pos : Pos} {T : String}
def tyName (d : D) (S : DH) : Option String := match d with
  | .non => some "NoneType" | .bl _ => some "bool" | .int _ => some "int" | .str _ => some "str" | .tup _ => some "tuple" | .rol _ => some "list"
  | .ref a => (match S a with | some (.lst _) => some "list" | some (.dK _) => some "dict" | _ => none)
section
variable (S : DH)
@[simp] theorem tyName_non : tyName .non S = some "NoneType" := rfl
@[simp] theorem tyName_bl (b : Bool) : tyName (.bl b) S = some "bool" := rfl
@[simp] theorem tyName_int (b : Int) : tyName (.int b) S = some "int" := rfl
@[simp] theorem tyName_str (b : Str) : tyName (.str b) S = some "str" := rfl
@[simp] theorem tyName_tup (b : List D) : tyName (.tup b) S = some "tuple" := rfl
@[simp] theorem tyName_rol (b : List D) : tyName (.rol b) S = some "list" := rfl
theorem tyName_ref (a : Addr) : tyName (.ref a) S = (match S a with | some (.lst _) => some "list" | some (.dK _) => some "dict" | _ => none) := rfl
theorem tyName_lst {a : Addr} {xs : List D} (h : S a = some (.lst xs)) : tyName (.ref a) S = some "list" := by rw [tyName_ref, h]
end
@[simp] def isiB (a b : String) : Bool := a == b || (a == "bool" && b == "int")
theorem tyName_x {w : World} {K : PySem.W.Frag} {d : D} {S : DH} {x : V} {H : Hp} {n : String} (rep : Rep w K S H) (r : RD K H d x) (h : tyName d S = some n) : TyX K H x (.type n) := by
  cases d with
  | non => cases r; cases h; exact .base .non
  | bl b => cases r; cases h; exact .base (.bl b)
  | int b => cases r; cases h; exact .base (.int b)
  | str b => cases r; cases h; exact .base (.str b)
  | tup ds =>
    cases h
    obtain ⟨p, ys, rfl, sq, rs⟩ : ∃ p ys, x = V.ref p ∧ SqTn K H p ys ∧ RDs K H ds ys := r
    rcases sqT_split sq.t with e | ⟨o, e⟩ | ⟨o, its, m, e, c, _⟩
    · exact .base (.tup e)
    · exact .fTuple e
    · exact .kTuple e c
  | rol ds =>
    cases h
    obtain ⟨p, ys, rfl, sq, rs⟩ : ∃ p ys, x = V.ref p ∧ SqR K H p ys ∧ RDs K H ds ys := r
    rcases sq with ⟨o, e⟩ | ⟨its, m, e, _⟩
    · exact .base (.frz e)
    · exact .kList e rfl
  | ref a =>
    cases r
    revert h
    show (match S a with | some (.lst _) => some "list" | some (.dK _) => some "dict" | _ => none) = some n → _
    split
    · rename_i xs ea
      obtain ⟨ys, e0, _⟩ : ∃ ys, H a = some (.lst ys) ∧ RDs K H xs ys := rep a _ ea
      intro h
      cases h
      exact .base (.lst e0)
    · rename_i xs ea
      obtain ⟨ys, e0, _⟩ : ∃ ys, H a = some (.dK ys) ∧ RKs K H xs ys := rep a _ ea
      intro h
      cases h
      exact .base (.dK e0)
    · intro h
      cases h
theorem kit_tab : (["NoneType", "bool", "int", "str", "tuple", "list", "dict"].all fun a => ["bool", "int", "str", "tuple", "list", "dict"].all fun b => decide (kitB a b = some (isiB a b))) = true := by decide +kernel
theorem tyName_mem {d : D} {S : DH} {n : String} (h : tyName d S = some n) : n ∈ ["NoneType", "bool", "int", "str", "tuple", "list", "dict"] := by
  cases d with
  | ref a =>
    revert h
    show (match S a with | some (.lst _) => some "list" | some (.dK _) => some "dict" | _ => none) = some n → _
    split <;> intro h <;> cases h <;> decide
  | _ => cases h; decide
@[simp] def dIsi (T : String) (te : DTE) : DTE := fun E τ S Q => te E τ S fun d S1 => opt (tyName d S1) fun n => Q (.bl (isiB n T)) S1
theorem de_isi {x : Str} (hT : T ∈ ["bool", "int", "str", "tuple", "list", "dict"]) (h : DE X e te) (hg : Gl X "isinstance") (hm : X.mg "isinstance" = none) (hgT : Gl X x) (hmT : X.mg x = none) (hvT : bootBuiltins x = some (.type T))
    (hn : x ≠ "__name__" := by decide) (hdb : (x == ("__debug__" : Str)) = false := by decide)
    (he : starEach (e :: [.Name x p2]) X.env = (false, eval e X.env) :: starEach [.Name x p2] X.env := by rfl) (he2 : starEach (.Name x p2 :: []) X.env = (false, eval (.Name x p2) X.env) :: starEach [] X.env := by rfl) (hpl : (backTo pos (starEach [.Name x p2] X.env)).any (·.1) = false := by rfl) :
    DE X (.Call (.Name "isinstance" p) [e, .Name x p2] [] pos) (dIsi T te) := by
  refine ⟨fun E E' τ S Q Q' hE k q => h.mono _ _ _ _ _ _ hE (fun d S1 z => opt_mono (fun _ z => k _ _ z) z) q,
    pE_imp (pe_callB call_isi hg hm PyProof.Rows.boot_isinstance (pa_cons h.run (pa_cons (pe_bltn (v := .ty T) hgT hmT hvT rfl hn hdb) pa_nil he2) he) (by decide) (by decide) he hpl) fun σ H Q ⟨E, τ, S, w, r, q⟩ => ?_⟩
  refine h.to w r q fun d S1 x H1 le w1 r1 rd z => ?_
  obtain ⟨n, en, z⟩ := opt_ex z
  have hk : kitB n T = some (isiB n T) := of_decide_eq_true (List.all_eq_true.mp (List.all_eq_true.mp kit_tab n (tyName_mem en)) T hT)
  exact ⟨x, .ty T, .type n, .type T, isiB n T, rfl, .ty T, tyName_x r1.rep rd en, kit_ty hk, z _ H1 le r1.rep rfl⟩
theorem de_gstr {x z : Str} {t : Tok} (hg : Gl X x) (hm : X.mg x = some (.str z t)) (hdb : (x == ("__debug__" : Str)) = false := by decide) : DE X (.Name x pos) (dC (.str z)) := de_c (pe_glob (v := .str z) hg hm ⟨t, rfl⟩ hdb) fun _ => rfl
theorem de_gint {x : Str} {z : Int} {t : Tok} (hg : Gl X x) (hm : X.mg x = some (.int z t)) (hdb : (x == ("__debug__" : Str)) = false := by decide) : DE X (.Name x pos) (dC (.int z)) := de_c (pe_glob (v := .int z) hg hm ⟨t, rfl⟩ hdb) fun _ => rfl
/-- a < b < c -/
@[simp] def dChain (r r' : R2D) (ta tb tc : DTE) : DTE := fun E τ S Q => ta E τ S fun x S1 => tb E τ S1 fun y S2 => r x y S2 fun z S3 => match z with
  | .bl k => if k = true then tc E τ S3 fun u S4 => r' y u S4 Q else Q (.bl false) S3
  | _ => False
end
end Dt
set_option maxRecDepth 100000
set_option maxHeartbeats 4000000
/-! Dat7: *, chains. -/
namespace Dt
open PySem PySem.Spec L2

@[simp] def dMul : R2D := fun d e S Q => match d, e with
  | .int i, .int j => CMulW i j ∧ Q (.int (i * j)) S
  | .str x, .int n => MulOk x n ∧ Q (.str (Txt.mul x n)) S
  | .ref a, .int n => (match S a with | some (.lst xs) => (-(2 ^ 63) ≤ n ∧ n < 2 ^ 63 ∧ xs.length * n.toNat ≤ sizeLine) ∧ newO S (.lst (List.replicate n.toNat xs).flatten) fun p S' => Q (.ref p) S' | _ => False)
  | _, _ => False
theorem RDs.rep {K : PySem.W.Frag} {H : Hp} {ds : List D} {vs : List V} (r : RDs K H ds vs) : ∀ n : Nat, RDs K H (List.replicate n ds).flatten (List.replicate n vs).flatten
  | 0 => by simp [RDs]
  | n + 1 => by
    rw [List.replicate_succ, List.replicate_succ, List.flatten_cons, List.flatten_cons]
    exact r.append (RDs.rep r n)
section
variable {X : Cx}
theorem od_mul : OpD X (binaryOp .Mult) dMul := by
  refine ⟨fun x y S Q Q' k h => ?_, fun pins s σ H x y v u Q I rx ry ⟨d, e, S, rep, rd, re, h⟩ => ?_⟩
  · cases x <;> cases y <;> first | exact h.elim | exact ⟨h.1, k _ _ h.2⟩ | skip
    rename_i a n
    revert h
    show (match S a with | some (.lst xs) => _ | _ => False) → (match S a with | some (.lst xs) => _ | _ => False)
    split
    · exact fun h => ⟨h.1, fun p hp => k _ _ (h.2 p hp)⟩
    · exact fun h => h
  · cases d <;> cases e <;> first | exact h.elim | skip
    · cases rd; cases re
      exact op_mulW pins s σ H _ _ v u Q I rx ry ⟨_, _, rfl, rfl, h.1, h.2 _ H (LeH.refl H) rep rfl⟩
    · cases rd; cases re
      obtain ⟨t, rfl⟩ := rx
      obtain ⟨t2, rfl⟩ := ry
      exact PySem.SB.mul h.1 fun t' k => ⟨.str _, H, I.tok _, ⟨_, rfl⟩, h.2 _ H (LeH.refl H) rep rfl⟩
    · rename_i a n
      cases rd; cases re
      revert h
      show (match S a with | some (.lst xs) => _ | _ => False) → _
      split
      · rename_i xs ea
        intro h
        obtain ⟨ys, e0, rs⟩ : ∃ ys, H a = some (.lst ys) ∧ RDs X.K H xs ys := rep a _ ea
        exact op_rep pins s σ H _ _ v u Q I rx ry ⟨a, n, ys, rfl, rfl, e0, h.1.1, h.1.2.1, by rw [← rs.length]; exact h.1.2.2, fun p hp => rep_new (Q0 := fun _ _ => True) rep hp (rs.rep _) (h.2 p (rep.free hp))⟩
      · exact fun h => h.elim
variable {a b c : Expr} {ta tb tc : DTE} {r r' : R2D} {pos : Pos}
end
abbrev rSub : R2D := dII (fun _ _ => True) fun i j => .int (i - j)
abbrev rMod : R2D := dII (fun _ j => 0 < j) fun i j => .int (i % j)
abbrev rFdiv : R2D := dII CDivW fun i j => .int (i / j)
abbrev rPow : R2D := dII CPow fun i j => .int (i ^ j.toNat)
abbrev rLt : R2D := dII (fun _ _ => True) fun i j => .bl (decide (i < j))
abbrev rLe : R2D := dII (fun _ _ => True) fun i j => .bl (decide (i ≤ j))
abbrev rGt : R2D := dII (fun _ _ => True) fun i j => .bl (decide (j < i))
abbrev rGe : R2D := dII (fun _ _ => True) fun i j => .bl (decide (j ≤ i))
theorem hu_big {A : Around} {k : Nat} (hr : Room k A) : A.units + 120 < cLine := by
  have := hr.un
  omega
def SpMono (sp : DSp) : Prop := ∀ ds S (Q Q' : DK) (E E' : DXK), (∀ d S', Q d S' → Q' d S') → (∀ C fs S', E C fs S' → E' C fs S') → sp ds S Q E → sp ds S Q' E'
@[simp] def dNeg (te : DTE) : DTE := fun E τ S Q => te E τ S fun d S' => match d with | .int i => Q (.int (-i)) S' | _ => False
theorem de_neg {X : Cx} {e : Expr} {te : DTE} {pos : Pos} (h : DE X e te) : DE X (.UnaryOp .USub e pos) (dNeg te) := by
  refine ⟨fun E E' τ S Q Q' he k q => h.mono _ _ _ _ _ _ he (fun d S1 z => ?_) q, pE_imp (pe_un un_neg h.run) fun σ H Q ⟨E, τ, S, w, r, q⟩ => ?_⟩
  · cases d <;> first | exact z.elim | exact k _ _ z
  · refine h.to w r q fun d S' v H' le w' r' rd z => ?_
    cases d <;> first | exact z.elim | skip
    exact ⟨_, rd, z _ H' le r'.rep rfl⟩
end Dt
set_option maxRecDepth 100000
set_option maxHeartbeats 4000000
/-! Feed: the draws that each law has. -/
namespace Dt
open PySem PySem.Spec L2
theorem char_inj : ∀ (a b : List Char), a.map Char.toNat = b.map Char.toNat → a = b
  | [], [], _ => rfl
  | [], _ :: _, h => by simp at h
  | _ :: _, [], h => by simp at h
  | x :: a, y :: b, h => by
    simp only [List.map_cons, List.cons.injEq] at h
    rw [char_inj a b h.2]
    have : x = y := Char.ext (UInt32.toNat_inj.mp h.1)
    rw [this]
@[simp] theorem ofs_inj (a b : String) : (PySem.Str.ofString a = PySem.Str.ofString b) = (a = b) := by
  refine propext ⟨fun h => ?_, fun h => by rw [h]⟩
  rw [PySem.Str.ofString_eq_toList, PySem.Str.ofString_eq_toList] at h
  have h1 := congrArg (fun z : Str => z.cps.toList) h
  simp only at h1
  exact String.toList_inj.mp (char_inj _ _ (by simpa using h1))
@[simp] theorem line_le (n : Nat) : (n ≤ sizeLine) = (n ≤ 16777216) := by rw [sizeLine_eq]
@[simp] theorem line_lt (n : Nat) : (n < sizeLine) = (n < 16777216) := by rw [sizeLine_eq]
def Bd (a : Nat) (i : Int) : Prop := i.natAbs < 2 ^ a
theorem Bd.mono {a b : Nat} {i : Int} (h : Bd a i) (l : a ≤ b) : Bd b i := Nat.lt_of_lt_of_le h (Nat.pow_le_pow_right (by decide) l)
theorem Bd.add {a : Nat} {i j : Int} (h : Bd a i) (k : Bd a j) : Bd (a + 1) (i + j) := by
  unfold Bd at *
  have := Int.natAbs_add_le i j
  rw [Nat.pow_succ]
  omega
theorem Bd.mul {a b : Nat} {i j : Int} (h : Bd a i) (k : Bd b j) : Bd (a + b) (i * j) := wide_lt h k
theorem Bd.mod {a : Nat} {i j : Int} (hj : 0 < j) (k : Bd a j) : Bd a (i % j) := by
  unfold Bd at *
  have h1 := Int.emod_nonneg i (show j ≠ 0 by omega)
  have h2 := Int.emod_lt_of_pos i hj
  omega
theorem Bd.cm {a b : Nat} {i j : Int} (h : Bd a i) (k : Bd b j) (ha : 0 < a := by decide) (hb : 0 < b := by decide) (l : a + b ≤ 1000000 := by decide) : CMulW i j := wide_mul h k ha hb l
theorem Bd.nat {a n : Nat} {i : Int} (h0 : 0 ≤ i) (h : i ≤ n) (hn : n < 2 ^ a) : Bd a i := by
  unfold Bd
  omega
def Ext (S S' : DH) : Prop := ∀ b o, S b = some o → S' b = some o
theorem Ext.refl (S : DH) : Ext S S := fun _ _ h => h
theorem Ext.trans {S S1 S2 : DH} (a : Ext S S1) (b : Ext S1 S2) : Ext S S2 := fun x o h => b x o (a x o h)
theorem Ext.new {S : DH} {p : Addr} {o : Ob} (h : S p = none) : Ext S (upo S p o) := fun b u e => by
  rw [upo_ne (fun z => by subst z; rw [h] at e; cases e)]
  exact e
theorem Ext.put {S S1 : DH} {p : Addr} {o : Ob} (e : Ext S S1) (h : S p = none) : Ext S (upo S1 p o) := fun b u z => by
  rw [upo_ne (fun y => by subst y; rw [h] at z; cases z)]
  exact e b u z
theorem Ext.free {S S' : DH} (e : Ext S S') {p : Addr} (h : S' p = none) : S p = none := by
  cases q : S p with
  | none => rfl
  | some o => rw [e p o q] at h; cases h
/-- a feed after at most n draws -/
def FeedOb (n : Nat) (o : Ob) : Prop := ∃ l s d : Int, o = .dK [(.inr "left", .int l), (.inr "seed", .int s), (.inr "drawn", .int d)] ∧ 0 ≤ l ∧ 0 ≤ s ∧ s < 1000003 ∧ 0 ≤ d ∧ d ≤ n
theorem FeedOb.more {n m : Nat} {o : Ob} (h : FeedOb n o) (l : n ≤ m) : FeedOb m o := by
  obtain ⟨a, s, d, e, h1, h2, h3, h4, h5⟩ := h
  exact ⟨a, s, d, e, h1, h2, h3, h4, by omega⟩
def sp_l_next : DSp := fun ds S Q _ => ∃ (p : Addr) (m : Int) (n : Nat) (o : Ob), ds = [.ref p, .int m] ∧ 0 < m ∧ m < 2 ^ 100 ∧ S p = some o ∧ FeedOb n o ∧ n < 2 ^ 100 ∧
  ∀ v o', 0 ≤ v → v < m → FeedOb (n + 1) o' → Q (.int v) (upo S p o')
def cellZ (ns : List Int) (k : Nat) : Int := if k < ns.length then ns.getD k 0 else (if 0 < ns.length then ns.getD (k % ns.length) 0 else 0) % 1000003 * 48271 + 7919 * k + 1
def sp_l_cell_at : DSp := fun ds S Q _ => ∃ (ns : List Int) (k : Nat), ds = [.rol (ns.map D.int), .int k] ∧ k < 2 ^ 100 ∧ Q (.int (cellZ ns k)) S
def sp_l_feed : DSp := fun ds S Q _ => ∃ c : Int, ds = [.int c] ∧ ∀ p o, S p = none → FeedOb 0 o → Q (.ref p) (upo S p o)
theorem sp_l_feed_mono : SpMono sp_l_feed := fun ds S Q Q' E E' k _ ⟨c, h1, h⟩ => ⟨c, h1, fun p o a b => k _ _ (h p o a b)⟩
end Dt
set_option maxRecDepth 100000
set_option maxHeartbeats 4000000
/-! Dat8: loops by invariants. -/
namespace Dt
open PySem PySem.Spec L2
theorem loop_go {g : DTG} {tb : DTS} {A : DEnds} {G : DH → Prop} (ds : List D) (I : Nat → DSt → DH → Prop) (hG : ∀ i τ S, i ≤ ds.length → I i τ S → G S)
    (hs : ∀ i d τ S (N : DSt → DH → Prop), ds[i]? = some d → I i τ S → (∀ τ' S', I (i + 1) τ' S' → N τ' S') → g d τ S fun τ1 S1 => tb { A with nx := N, ct := N, bk := A.nx } τ1 S1)
    (hd : ∀ τ S, I ds.length τ S → A.nx τ S) : ∀ (m i : Nat) (τ : DSt) (S : DH), i + m = ds.length → I i τ S → dLoop g tb A G (ds.drop i) τ S
  | 0, i, τ, S, e, h => by
    have e' : i = ds.length := by omega
    subst e'
    rw [List.drop_length]
    exact ⟨hG _ _ _ (Nat.le_refl _) h, hd _ _ h⟩
  | m + 1, i, τ, S, e, h => by
    have hi : i < ds.length := by omega
    have ed : ds[i]? = some ds[i] := List.getElem?_eq_getElem hi
    rw [drop_at ed]
    exact ⟨hG _ _ _ (by omega) h, hs i _ τ S _ ed h fun τ' S' h' => loop_go ds I hG hs hd m (i + 1) τ' S' (by omega) h'⟩
theorem loop_inv {g : DTG} {tb : DTS} {A : DEnds} {G : DH → Prop} {ds : List D} {τ : DSt} {S : DH} (I : Nat → DSt → DH → Prop) (h0 : I 0 τ S) (hG : ∀ i τ S, i ≤ ds.length → I i τ S → G S)
    (hs : ∀ i d τ S (N : DSt → DH → Prop), ds[i]? = some d → I i τ S → (∀ τ' S', I (i + 1) τ' S' → N τ' S') → g d τ S fun τ1 S1 => tb { A with nx := N, ct := N, bk := A.nx } τ1 S1)
    (hd : ∀ τ S, I ds.length τ S → A.nx τ S) : dLoop g tb A G ds τ S := by
  have := loop_go ds I hG hs hd ds.length 0 τ S (by omega) h0
  rwa [List.drop_zero] at this
/-- the elements' making changes nothing: [f d for d in ds if c d] -/
theorem lc_pure {g : DTG} {tt : DTT} {te : DTE} {E : DW} {τ : DSt} {G : DH → Prop} {p : Addr} {Q : DH → Prop} {S : DH} (c : D → Bool) (f : D → D) : ∀ (ds acc : List D), (∀ acc, G (upo S p (.lst acc))) →
    (∀ d ∈ ds, ∀ acc (N M : DH → Prop), (c d = true → N (upo S p (.lst (acc ++ [f d])))) → (c d = false → M (upo S p (.lst acc))) → acc.length < sizeLine →
      g d τ (upo S p (.lst acc)) fun τ1 S1 => tt E τ1 S1 fun b S2 => if b = true then te E τ1 S2 fun y S3 => (match S3 p with | some (.lst acc) => acc.length < sizeLine ∧ N (upo S3 p (.lst (acc ++ [y]))) | _ => False) else M S2) →
    acc.length + ds.length < sizeLine → Q (upo S p (.lst (acc ++ (ds.filter c).map f))) → dLcL g tt te E τ G p Q ds (upo S p (.lst acc))
  | [], acc, hG, hs, hl, hq => ⟨hG acc, by simpa using hq⟩
  | d :: ds, acc, hG, hs, hl, hq => by
    refine ⟨hG acc, hs d (List.mem_cons_self ..) acc _ _ (fun hc => ?_) (fun hc => ?_) (by rw [List.length_cons] at hl; omega)⟩
    · refine lc_pure c f ds (acc ++ [f d]) hG (fun d' hd' => hs d' (List.mem_cons_of_mem _ hd')) (by simp at hl ⊢; omega) ?_
      rw [List.filter_cons, if_pos hc, List.map_cons] at hq
      rw [List.append_assoc]
      exact hq
    · refine lc_pure c f ds acc hG (fun d' hd' => hs d' (List.mem_cons_of_mem _ hd')) (by simp at hl ⊢; omega) ?_
      rw [List.filter_cons, if_neg (by rw [hc]; decide)] at hq
      exact hq
theorem upo_id {S : DH} {p : Addr} {o : Ob} (h : S p = some o) : upo S p o = S := by
  funext b
  unfold upo
  split
  · rename_i e
    rw [e, h]
  · rfl
theorem opt_at {α : Type} {xs : List α} {i : Int} {k : α → Prop} (h0 : 0 ≤ i) (h1 : i < xs.length) (h : ∀ d ∈ xs, k d) : opt (atI xs i) k := by
  obtain ⟨j, rfl⟩ := Int.eq_ofNat_of_zero_le h0
  have hj : j < xs.length := by omega
  rw [atI_nat (List.getElem?_eq_getElem hj)]
  exact h _ (List.getElem_mem hj)
theorem lc_map {g : DTG} {te : DTE} {E : DW} {τ : DSt} {G : DH → Prop} {p : Addr} {Q : DH → Prop} {S : DH} (f : D → D) (ds : List D) (h0 : S p = some (.lst [])) (hG : ∀ acc, G (upo S p (.lst acc)))
    (hs : ∀ d ∈ ds, ∀ acc (N : DH → Prop), N (upo S p (.lst (acc ++ [f d]))) → acc.length < 16777216 →
      g d τ (upo S p (.lst acc)) fun τ1 S1 => te E τ1 S1 fun y S3 => (match S3 p with | some (.lst acc) => acc.length < 16777216 ∧ N (upo S3 p (.lst (acc ++ [y]))) | _ => False))
    (hl : ds.length < sizeLine) (hq : Q (upo S p (.lst (ds.map f)))) : dLcL g dYes te E τ G p Q ds S := by
  have hf : ds.filter (fun _ => true) = ds := List.filter_eq_self.mpr fun _ _ => rfl
  rw [← upo_id h0]
  refine lc_pure (fun _ => true) f ds [] hG (fun d hd acc N M hN hM hl => ?_) (by simpa using hl) (by rw [hf]; exact hq)
  have := hs d hd acc N (hN rfl) (by rw [line_lt] at hl; exact hl)
  simpa only [dYes, if_true, line_lt] using this
theorem wh_go {c : DTT} {tb : DTS} {A : DEnds} (I : DSt → DH → Prop) (μ : DSt → DH → Nat)
    (hs : ∀ τ S (N : DSt → DH → Prop), I τ S → (∀ τ' S', I τ' S' → μ τ' S' < μ τ S → N τ' S') → c A.xe τ S fun b S' => if b = true then tb { A with nx := N, ct := N, bk := A.nx } τ S' else A.nx τ S') :
    ∀ (n : Nat) (τ : DSt) (S : DH), μ τ S < n → I τ S → dWh c tb A n τ S
  | 0, τ, S, h, _ => absurd h (Nat.not_lt_zero _)
  | n + 1, τ, S, h, hi => hs τ S _ hi fun τ' S' h' hl => wh_go I μ hs n τ' S' (by omega) h'
theorem while_inv {c : DTT} {tb : DTS} {A : DEnds} {τ : DSt} {S : DH} (I : DSt → DH → Prop) (μ : DSt → DH → Nat) (h0 : I τ S)
    (hs : ∀ τ S (N : DSt → DH → Prop), I τ S → (∀ τ' S', I τ' S' → μ τ' S' < μ τ S → N τ' S') → c A.xe τ S fun b S' => if b = true then tb { A with nx := N, ct := N, bk := A.nx } τ S' else A.nx τ S') : dWhile c tb A τ S :=
  ⟨_, wh_go I μ hs (μ τ S + 1) τ S (Nat.lt_succ_self _) h0⟩
/-! == of scalars -/
section
variable {S : DH} {Q : DK}
@[simp] theorem dEq_bl (n a b : Bool) : dEq n (.bl a) (.bl b) S Q = Q (.bl (if n then !(a == b) else a == b)) S := rfl
@[simp] theorem dEq_int (n : Bool) (a b : Int) : dEq n (.int a) (.int b) S Q = Q (.bl (if n then !(a == b) else a == b)) S := rfl
@[simp] theorem dEq_str (n : Bool) (a b : Str) : dEq n (.str a) (.str b) S Q = Q (.bl (if n then !(a == b) else a == b)) S := rfl
end
mutual
theorem Pd.ext {S S' : DH} (e : Ext S S') : ∀ (p : PyData) (d : D), Pd S d p → Pd S' d p
  | .none, _, h => by cases h; exact .non
  | .bool b, _, h => by cases h; exact .bl b
  | .int i, _, h => by cases h; exact .int i
  | .str x, _, h => by cases h; exact .str x
  | .tuple ps, _, h => by cases h with | tup hs => exact .tup (PdA.ext e ps _ hs)
  | .list ps, _, h => by
    cases h with
    | rol hs => exact .rol (PdA.ext e ps _ hs)
    | lst ea hs => exact .lst (e _ _ ea) (PdA.ext e ps _ hs)
  | .dict _, _, h => by cases h
theorem PdA.ext {S S' : DH} (e : Ext S S') : ∀ (ps : List PyData) (ds : List D), PdA S ds ps → PdA S' ds ps
  | [], _, h => by cases h; exact .nil
  | p :: ps, _, h => by cases h with | cons h1 h2 => exact .cons (Pd.ext e p _ h1) (PdA.ext e ps _ h2)
end
/-- what repr takes -/
def Shows (S : DH) (d : D) (p : PyData) : Prop := Pd S d p ∧ p.showable = true ∧ p.depth ≤ 100 ∧ p.shown.length ≤ sizeLine
theorem Shows.ext {S S' : DH} {d : D} {p : PyData} (e : Ext S S') (h : Shows S d p) : Shows S' d p := ⟨h.1.ext e p d, h.2⟩
end Dt
set_option maxRecDepth 100000
set_option maxHeartbeats 4000000
/-! Dat9: the law's own head, from a def's promise over data. -/
namespace Dt
open PySem PySem.Spec L2 PySem.W PyProof.Rows
theorem rds_ints {K : PySem.W.Frag} {H : Hp} : ∀ ns : List Int, RDs K H (ns.map D.int) (ns.map V.int)
  | [] => .nil
  | i :: r => .cons rfl (rds_ints r)
section
variable {P : Program} {w : World} {K : PySem.W.Frag} {mg mb : Str → Option Value} {k : Nat} {fa a : Addr} {fd : FuncData} {x : Str} {sp : DSp} {s : Shared} {ns : List Int}
/-- what the ground of the law's call holds -/
structure Grd (K : PySem.W.Frag) (mg mb : Str → Option Value) (s : Shared) : Prop where
  kin : K.In s.heap
  glob : s.heap.Ns mainGlobals mg
  blt : s.heap.Ns builtinsNs mb
  bbs : ∀ x : Str, x ≠ "__name__" → mb x = bootBuiltins x
  lim : s.heap.NoLimit
  gens : s.gens = #[]
theorem head_run (G : Grd K mg mb s) (hr : Room k callerA) (F : ∀ base : Heap, K.In base → base.Ns mainGlobals mg → DFn P w K mg base k fa fd [x] sp) (hb : ∀ (s : Shared) (u : Value), BindsTo s fd ⟨[u], []⟩ [(x, u)])
    (hsp : ∀ S, sp [.rol (ns.map D.int)] S (fun d _ => d = .bl true) fun _ _ _ => False) {H : Hp} (hH : ∀ b u, H b = some u → K.lookup b = none ∧ (∃ o, u = .frz o (.lst (ns.map V.int))) ∧ ∃ o its n, s.heap.get? b = some o ∧ o.data = .seq its n) (hok : HOk P w H s.heap) (hS : SqR K H a (ns.map V.int)) :
    codeAny (model P w) callerA (.call (.ref fa) ⟨[.ref a], []⟩) (fun r s' => r = .ok (.ret (.bool true)) ∧ OldK s.heap s'.heap ∧ s'.os = s.os ∧ AllBare s'.gens) s := by
  have up : ∀ {b : Addr} {o : Obj}, s.heap.get? b = some o → (∀ its n, o.data ≠ .seq its n) → (hidT s.heap H).get? b = some o := fun {b o} e nd => hidT_get e (by
    cases q : H b with
    | none => rfl
    | some u =>
      obtain ⟨_, _, o', its, n, e', d'⟩ := hH b u q
      cases e.symm.trans e'
      exact absurd d' (nd its n))
  have upNs : ∀ {b : Addr} {m : Str → Option Value}, s.heap.Ns b m → (hidT s.heap H).Ns b m := fun {b m} ⟨o, es, ep, e, d, r⟩ => ⟨o, es, ep, up e (fun its n z => by cases d.symm.trans z), d, r⟩
  have kin : K.In (hidT s.heap H) := fun b o e => hidT_get (G.kin b o e) (by
    cases q : H b with
    | none => rfl
    | some u => cases (hH b u q).1.symm.trans e)
  obtain ⟨mc, c1, c2⟩ := G.lim
  have env : Env0 P w K mg (hidT s.heap H) callerA [] s H :=
    ⟨rfl, ⟨kin, upNs G.glob, ⟨mb, upNs G.blt, G.bbs⟩, ⟨mc, upNs c1, c2⟩⟩, fun _ _ e => of_hidT e, by rw [hidT_size]; exact Nat.le_refl _, trivial, fun _ z => (nomatch z), hok, .of_eq G.gens⟩
  refine codeAny_mono ((F _ kin (upNs G.glob)).run callerA [] s H ⟨[.ref a], []⟩ [.ref a] [.ref a] (fun v _ => v = .bl true) (fun _ _ _ => False) hr rfl env (hb s (.ref a)) (.cons rfl .nil)
    ⟨[.rol (ns.map D.int)], fun _ => none, (fun _ _ z => nomatch z), RDs.cons ⟨a, _, rfl, hS, rds_ints ns⟩ .nil, (F _ kin (upNs G.glob)).mono _ _ _ _ _ _ (fun d S' e v H' _ _ r => ?_) (fun _ _ _ z => z.elim) (hsp _)⟩) fun r s' h => ?_
  · subst e
    exact r
  · match r, h with
    | .error e, ⟨_, _, _, _, _, _, _, _, _, _, _, _, z⟩ => exact z.elim
    | .ok (.ret u), ⟨v, H', os, bare, un, hok', rv, e⟩ =>
      cases e
      cases (show u = Value.bool true from rv)
      refine ⟨rfl, OldK.of_keep fun b o e => ?_, os, bare⟩
      cases q : H b with
      | none => exact un.keep b o e q (fun z => nomatch z) (fun z => nomatch z)
      | some u =>
        obtain ⟨_, ⟨ob, rfl⟩, _⟩ := hH b u q
        have e1 := (hok b _ q).1
        have e2 := (hok' b _ (un.frzs b ob _ q)).1
        cases e.symm.trans e1
        exact e2
/-- the same for the script as it is handed in -/
theorem head_call {vs : List Value} (G : Grd K mg mb s) (hr : Room k callerA) (F : ∀ base : Heap, K.In base → base.Ns mainGlobals mg → DFn P w K mg base k fa fd [x] sp) (hb : ∀ (s : Shared) (u : Value), BindsTo s fd ⟨[u], []⟩ [(x, u)])
    (hsp : ∀ S, sp [.rol (ns.map D.int)] S (fun d _ => d = .bl true) fun _ _ _ => False) (ha : s.heap.get? a = some { cls := .type "list", data := .seq vs.toArray }) (hi : IntsAre vs ns) (hl : ns.length ≤ sizeLine) :
    codeAny (model P w) callerA (.call (.ref fa) ⟨[.ref a], []⟩) (fun r s' => r = .ok (.ret (.bool true)) ∧ OldK s.heap s'.heap ∧ s'.os = s.os ∧ AllBare s'.gens) s := by
  have rv := vals_ints hi
  cases hk : K.lookup a with
  | some o =>
    have e := G.kin a o hk
    cases ha.symm.trans e
    refine head_run (H := fun _ => none) G hr F hb hsp (fun _ _ z => nomatch z) (fun _ _ z => nomatch z) (.inr ⟨vs.toArray, _, hk, ?_, rv⟩)
    rw [List.size_toArray, hi.length]
    exact hl
  | none =>
    refine head_run (H := upd (fun _ => none) a (.frz { cls := .type "list", data := .seq vs.toArray } (.lst (ns.map V.int)))) G hr F hb hsp (fun b u z => ?_) (fun b u z => ?_) (.inl ⟨_, upd_same⟩)
    all_goals
      by_cases hba : b = a
      · subst hba
        rw [upd_same] at z
        cases z
        first
          | exact ⟨hk, ⟨_, rfl⟩, _, vs.toArray, _, ha, rfl⟩
          | exact ⟨ha, by rw [List.length_map]; exact hl, vs, _, rv, ha⟩
      · rw [upd_ne hba] at z
        cases z
end
/-- the goal that k_head leaves, from the promise of the law's def -/
theorem dwalk {l : OpenLaw} {n k : Nat} {q : Program} {loose : List Str} {XP : (Str → Option Value) → Heap → Prop} {YP : World → Heap → Prop} {d : DefRec} {K : Params → PySem.W.Frag} {sp : DSp} {x : Str} (hn : l.most = some n) (hn2 : n ≤ sizeLine) (hdf : d.params.defaults = []) (hr : Room k callerA) (hY : ∀ (w : World) (h : Heap), YP w h → (K w.params).In h)
    (F : ∀ (w : World) (mg : Str → Option Value) (fa : Addr) (h : Heap), (K w.params).In h → h.Ns mainGlobals mg → mg d.name = some (.ref fa) →
      ∃ fd : FuncData, (∀ (s : Shared) (u : Value), BindsTo s fd ⟨[u], []⟩ [(x, u)]) ∧ ∀ base : Heap, (K w.params).In base → base.Ns mainGlobals mg → DFn l.prog w (K w.params) mg base k fa fd [x] sp)
    (hsp : ∀ (ns : List Int) S, ns.length ≤ n → sp [.rol (ns.map D.int)] S (fun d _ => d = .bl true) fun _ _ _ => False) : WalkO q loose XP YP l.row.toRowW d [] (fun f vs => PySem.call f vs) := by
  refine Att.attach_call hn hdf fun w _ s₁ mg mb fa _ _ _ _ a vs ns G Y _ _ _ hmg hobj hints hlen hg => ?_
  have KX := hY w _ Y
  obtain ⟨fd, hb, hF⟩ := F w mg fa _ KX G.T.g hmg
  exact head_call (ns := ns) ⟨KX, G.T.g, G.T.b, G.T.builtins, G.T.nolimit, hg⟩ hr hF hb (fun S => hsp ns S hlen) hobj hints (Nat.le_trans hlen hn2)
end Dt
set_option maxRecDepth 100000
set_option maxHeartbeats 4000000
/-! DatS: set(list) of ints and texts. -/
namespace Dt
open PySem PySem.Spec PySem.W L2 PyProof.Rows
/-- a set's row stands for a key -/
def RowK (w : World) (e : Int × Value) (k : Key) : Prop := keyIs k e.2 = true ∧ e.1 = keyH w k
theorem key_scans {k : Key} {v : Value} (h : keyIs k v = true) : v.scannable = true := by
  rcases keyIs_shape h with ⟨i, t, rfl, rfl⟩ | ⟨x, t, rfl, rfl⟩ <;> rfl
/-- the set at a: its keys, each once, in some order of the table's rows; the table may be walked -/
def SetKs (w : World) (h : Heap) (a : Addr) (ks : List Key) : Prop :=
  ∃ (o : Obj) (es : Array (Int × Value)) (ep : Nat) (t : SetTable) (l : List (Int × Value)), h.get? a = some o ∧ o.ExactSet ∧ o.data = .set es ep t ∧ es.toList.Perm l ∧ EachIs (RowK w) l ks ∧ ks.Nodup ∧
    es.size < scanBound ∧ t.fits es.size = true ∧ Ris t.place.toList ∧ (w.params.followText "set-order" = true ∨ t.led = true)
section
variable {P : Program} {w : World} {A : Around} {E : Value → Shared → Prop} {s : Shared} {a : Addr} {ks : List Key}
theorem each_right {α β : Type} {R : α → β → Prop} : ∀ {l : List α} {ks : List β}, EachIs R l ks → ∀ e ∈ l, ∃ k ∈ ks, R e k
  | _, _, .nil, _, h => nomatch h
  | _, _, .cons x t, e, h => by
    rcases List.mem_cons.mp h with rfl | z
    · exact ⟨_, List.mem_cons_self .., x⟩
    · obtain ⟨k, hk, r⟩ := each_right t e z
      exact ⟨k, List.mem_cons_of_mem _ hk, r⟩
theorem each_left {α β : Type} {R : α → β → Prop} : ∀ {l : List α} {ks : List β}, EachIs R l ks → ∀ k ∈ ks, ∃ e ∈ l, R e k
  | _, _, .nil, _, h => nomatch h
  | _, _, .cons x t, k, h => by
    rcases List.mem_cons.mp h with rfl | z
    · exact ⟨_, List.mem_cons_self .., x⟩
    · obtain ⟨e, he, r⟩ := each_left t k z
      exact ⟨e, List.mem_cons_of_mem _ he, r⟩
theorem each_get {α β : Type} {R : α → β → Prop} : ∀ {l : List α} {ks : List β} {i : Nat} {v : α}, EachIs R l ks → l[i]? = some v → ∃ k, ks[i]? = some k ∧ R v k
  | _, _, _, _, .nil, h => by cases h
  | _, _, 0, _, .cons x _, h => by cases h; exact ⟨_, rfl, x⟩
  | _, _, i + 1, _, .cons _ t, h => each_get (i := i) t h
theorem each_snoc {α β : Type} {R : α → β → Prop} {x : α} {y : β} (h : R x y) : ∀ {l : List α} {ks : List β}, EachIs R l ks → EachIs R (l ++ [x]) (ks ++ [y])
  | _, _, .nil => .cons h .nil
  | _, _, .cons a t => .cons a (each_snoc h t)
theorem rows_elems {es : Array (Int × Value)} {l : List (Int × Value)} (p : es.toList.Perm l) (r : EachIs (RowK w) l ks) : ElemsOf (mixKind P w) es.toList := fun e he => by
  obtain ⟨k, _, h1, h2⟩ := each_right r e (p.mem_iff.mp he)
  exact ⟨⟨k, h1, h2⟩, key_scans h1⟩
theorem SetKs.len {h : Heap} (R : SetKs w h a ks) : ks.length < scanBound := by
  obtain ⟨o, es, ep, t, l, _, _, _, p, r, _, hb, _⟩ := R
  rw [← r.length, ← p.length_eq, Array.length_toList]
  exact hb
theorem SetKs.at {h h' : Heap} (R : SetKs w h a ks) (k : ∀ o, h.get? a = some o → h'.get? a = some o) : SetKs w h' a ks := by
  obtain ⟨o, es, ep, t, l, ho, r⟩ := R
  exact ⟨o, es, ep, t, l, k o ho, r⟩
/-- the rows laid down, and the table laid anew where it is too full -/
theorem ks_lay {g : Bool → Sem Unit} (hg : ∀ (b : Bool) (s₁ : Shared) (Q' : Unit → Shared → Prop), Q' () s₁ → wpAny (model P w) A (g b) Q' E s₁) {o : Obj} {es es1 : Array (Int × Value)} {ep : Nat} {t t2 : SetTable} {l : List (Int × Value)} {wasDummy : Bool} {R : Option Bool → Shared → Prop}
    (ho : s.heap.get? a = some o) (hex : o.ExactSet) (hd : o.data = .set es ep t) (p : es1.toList.Perm l) (r : EachIs (RowK w) l ks) (nd : ks.Nodup) (hb : es1.size < scanBound) (hf : t2.fits es1.size = true) (hr : Ris t2.place.toList) (hl : w.params.followText "set-order" = true ∨ t2.led = true)
    (hR : ∀ h', Heap.SameBut a s.heap h' → SetKs w h' a ks → R (some true) { s with heap := h' }) :
    wpAny (model P w) A (do
        storeSet a es1 t2
        if (!wasDummy && t2.tooFull) = true then do
            g (relayAll t2 es1 (SetTable.grown es1.size)).2.2
            storeSet a (relayAll t2 es1 (SetTable.grown es1.size)).1 (relayAll t2 es1 (SetTable.grown es1.size)).2.1
            pure (some true)
          else pure (some true)) R E s := by
  refine wpAny_bind (wpAny_storeSet_of ho hd ?_ (fits_of_scanBound hb))
  have ho1 := store_at (es' := es1) (t' := t2) ho hd
  have sb := Heap.SameBut.update s.heap a (Obj.putSet es1 t2)
  split
  · have q1 := relayAll_perm t2 es1 (SetTable.grown es1.size)
    have q2 := relayAll_fits t2 es1 (SetTable.grown es1.size)
    have q3 := relayAll_ris t2 es1 (SetTable.grown es1.size)
    have q4 := relayAll_led t2 es1 (SetTable.grown es1.size)
    generalize relayAll t2 es1 (SetTable.grown es1.size) = Z at q1 q2 q3 q4 ⊢
    obtain ⟨es2, t3, gave⟩ := Z
    dsimp only at q1 q2 q3 q4 ⊢
    have hb2 : es2.size < scanBound := by
      rw [← Array.length_toList, q1.length_eq, Array.length_toList]
      exact hb
    refine wpAny_bind (hg _ _ _ ?_)
    refine wpAny_bind (wpAny_storeSet_of ho1 rfl ?_ (fits_of_scanBound hb2))
    refine wpAny_pure (hR _ (sb.trans (Heap.SameBut.update _ a _)) ⟨_, es2, _, t3, l, store_at (es' := es2) (t' := t3) ho1 rfl, hex, rfl, q1.trans p, r, nd, hb2, q2, q3, ?_⟩)
    rcases hl with z | z
    · exact .inl z
    · exact .inr (q4.trans z)
  · exact wpAny_pure (hR _ sb ⟨_, es1, _, t2, l, ho1, hex, rfl, p, r, nd, hb, hf, hr, hl⟩)
/-- a key more, where it is not there -/
def addK (ks : List Key) (k : Key) : List Key := if (ks.any fun j => decide (j = k)) = true then ks else ks ++ [k]
theorem any_key {ks : List Key} {k : Key} : (ks.any fun j => decide (j = k)) = true ↔ k ∈ ks := by
  rw [List.any_eq_true]
  exact ⟨fun ⟨j, hj, e⟩ => of_decide_eq_true e ▸ hj, fun h => ⟨k, h, decide_eq_true rfl⟩⟩
theorem ks_add {k : Key} {v : Value} {Q : Bool → Shared → Prop} (hv : keyIs k v = true) (R : SetKs w s.heap a ks) (room : ks.length + 1 < scanBound) (hQ : ∀ b h', Heap.SameBut a s.heap h' → SetKs w h' a (addK ks k) → Q b { s with heap := h' }) :
    wpAny (model P w) A (setAddHashed a v (keyH w k)) Q E s := by
  obtain ⟨o, es, ep, t, l, ho, hex, hd, p, r, nd, hb, hf, hr, hl⟩ := R
  have hsc := key_scans hv
  have hel : ElemsOf (mixKind P w) es.toList := rows_elems p r
  unfold setAddHashed setAddHashedIn
  refine wpAny_holding (wpAny_bind (wpAny_setState_of ho hd hf ?_))
  dsimp only
  rw [byScan_of hsc hb hel]
  simp only [↓reduceIte]
  unfold setAddByScan
  refine wpAny_bind (wpAny_bind (wpAny_rule (wpAny_bind (wpAny_setScan_of (knd := mixKind P w) (k := k) hv ho hd hf hel ?_))))
  cases hfi : List.findIdx? (fun e => (mixKind P w).is k e.2) es.toList with
  | some j =>
    dsimp only
    obtain ⟨hj, pj, _⟩ := List.findIdx?_eq_some_iff_getElem.mp hfi
    obtain ⟨k2, hk2, r1, _⟩ := each_right r _ (p.mem_iff.mp (List.getElem_mem hj))
    have ek : k = k2 := (mixKind P w).inj _ _ _ pj r1
    have e : addK ks k = ks := if_pos (any_key.mpr (ek ▸ hk2))
    exact wpAny_pure (wpAny_pure (hQ false s.heap (Heap.SameBut.refl a s.heap) (by rw [e]; exact ⟨o, es, ep, t, l, ho, hex, hd, p, r, nd, hb, hf, hr, hl⟩)))
  | none =>
    dsimp only
    have hnk : k ∉ ks := fun z => by
      obtain ⟨e, he, q, _⟩ := each_left r k z
      have c := List.findIdx?_eq_none_iff.mp hfi e (p.mem_iff.mpr he)
      have q' : (mixKind P w).is k e.2 = true := q
      rw [q'] at c
      cases c
    have e : addK ks k = ks ++ [k] := if_neg fun z => hnk (any_key.mp z)
    rw [e] at hQ
    have hgw : ∀ (b : Bool) {s₁ : Shared} {Q' : Unit → Shared → Prop}, Q' () s₁ → wpAny (model P w) A (match b with | true => rule "set.scan.the-table-gave-way" | false => pure ()) Q' E s₁ := fun b s₁ Q' q => by
      cases b
      · exact wpAny_pure q
      · exact wpAny_rule q
    have q1 := layNew_perm t es (keyH w k) v
    have q2 := layNew_fits t es (keyH w k) v
    have q3 := layNew_ris t es (keyH w k) v hr
    have q4 := layNew_led t es (keyH w k) v
    generalize layNew t es (keyH w k) v = Z at q1 q2 q3 q4 ⊢
    obtain ⟨es1, t1, wasDummy, gave⟩ := Z
    dsimp only at q1 q2 q3 q4 ⊢
    rw [Array.toList_push] at q1
    have p1 : es1.toList.Perm (l ++ [(keyH w k, v)]) := q1.trans (p.append_right _)
    have r1 : EachIs (RowK w) (l ++ [(keyH w k, v)]) (ks ++ [k]) := each_snoc ⟨hv, rfl⟩ r
    have nd1 : (ks ++ [k]).Nodup := List.nodup_append.mpr ⟨nd, List.nodup_cons.mpr ⟨List.not_mem_nil, List.nodup_nil⟩, fun x hx y hy z => hnk (by rw [← List.mem_singleton.mp hy, ← z]; exact hx)⟩
    have hb1 : es1.size < scanBound := by
      rw [← Array.length_toList, p1.length_eq, r1.length, List.length_append]
      exact room
    have hled : w.params.followText "set-order" = true ∨ t1.led = true := hl.imp id fun z => q4.trans z
    refine wpAny_bind (hgw _ ?_)
    split
    · refine wpAny_bind ?_
      rw [hashByValue_scannable 8 hsc]
      refine wpAny_pure (ks_lay ?_ ho hex hd p1 r1 nd1 hb1 ?_ ?_ ?_ fun h' sb z => wpAny_pure (hQ true h' sb z))
      · exact fun b s₁ Q' q => hgw b q
      · first | exact q2 | (split <;> first | exact q2 | exact SetTable.fits_plain_off q2)
      · first | exact q3 | (split <;> exact q3)
      · first | exact hled | (split <;> exact hled)
    · refine wpAny_bind (wpAny_pure ?_)
      simp only [↓reduceIte]
      exact ks_lay (fun b s₁ Q' q => hgw b q) ho hex hd p1 r1 nd1 hb1 q2 q3 hled fun h' sb z => wpAny_pure (hQ true h' sb z)
/-- the keys, each at its first place -/
def firstK (ks : List Key) : List Key := ks.foldl addK []
theorem firstK_snoc (ks : List Key) (k : Key) : firstK (ks ++ [k]) = addK (firstK ks) k := by
  unfold firstK
  rw [List.foldl_append]
  rfl
theorem firstK_take {ks : List Key} {i : Nat} {k : Key} (h : ks[i]? = some k) : firstK (ks.take (i + 1)) = addK (firstK (ks.take i)) k := by
  rw [List.take_succ, h, ← firstK_snoc]
  rfl
theorem addK_len (ks : List Key) (k : Key) : (addK ks k).length ≤ ks.length + 1 := by
  unfold addK
  split
  · omega
  · simp
theorem foldK_len : ∀ (ks acc : List Key), (ks.foldl addK acc).length ≤ acc.length + ks.length
  | [], _ => Nat.le_refl _
  | k :: ks, acc => by
    have h1 := foldK_len ks (addK acc k)
    have h2 := addK_len acc k
    simp only [List.foldl_cons, List.length_cons]
    omega
theorem firstK_len (ks : List Key) : (firstK ks).length ≤ ks.length := by
  have := foldK_len ks []
  unfold firstK
  simpa using this
/-- the loop that fills a set -/
theorem ks_loop {I : Addr} {fp wr : List Addr} {G : Array GenState → Array GenState → Prop} {n : Nat} {Pv : Nat → Value → Prop} {St : Nat → Shared → Prop} {R : Result → Shared → Prop} {B : Addr} {all : List Key}
    (W : WalksS P w A.in1 I fp wr G n Pv St) (hB : B ∉ fp) (hn : n = all.length) (hv : ∀ i v, Pv i v → ∃ k, all[i]? = some k ∧ keyIs k v = true) (hb : n + 1 < scanBound)
    (hR : ∀ s' s0, Moved (B :: wr) G s0 s' → SetKs w s'.heap B (firstK all) → s0 = s → R (.ok (.ret .none)) s') :
    ∀ (m i : Nat) (s1 : Shared), n - i = m → i ≤ n → St i s1 → SetKs w s1.heap B (firstK (all.take i)) → (∀ s', Moved (B :: wr) G s1 s' → Moved (B :: wr) G s s') → codeAny (model P w) A (.builtin "set.update.loop" ⟨[.ref B, .ref I], []⟩) R s1 := by
  have hBw : B ∉ wr := fun h => hB (W.sub _ h)
  have more : ∀ b ∈ wr, b ∈ B :: wr := fun b hb => List.mem_cons_of_mem _ hb
  intro m
  induction m with
  | zero =>
    intro i s1 hm hi hst hS mv
    have hin : i = n := by omega
    subst hin
    (refine codeAny_builtin F.entry_set_update_loop ?_; rw [Around.under_plainId F.plain_set_update_loop _])
    refine (show wpAny _ A.in1 (pyNext (.ref I) >>= _) _ _ s1 from wpAny_bind (W.done s1 _ _ hst fun s' hm => wpAny_pure (hR s' s (mv s' (hm.mono more)) ?_ rfl)))
    rw [show all.take i = all from List.take_of_length_le (by omega)] at hS
    exact hS.at fun o e => hm.heap B o hBw e
  | succ m ih =>
    intro i s1 hm hi hst hS mv
    have hlt : i < n := by omega
    (refine codeAny_builtin F.entry_set_update_loop ?_; rw [Around.under_plainId F.plain_set_update_loop _])
    refine (show wpAny _ A.in1 (pyNext (.ref I) >>= _) _ _ s1 from wpAny_bind (W.item i s1 _ _ hlt hst fun v s' hP hst' hm => ?_))
    obtain ⟨k, hk, hkv⟩ := hv i v hP
    have hS' : SetKs w s'.heap B (firstK (all.take i)) := hS.at fun o e => hm.heap B o hBw e
    refine (show wpAny _ A.in1 (holding [v] (setAdd B v) >>= _) _ _ s' from wpAny_bind (wpAny_holding ?_))
    unfold setAdd
    refine wpAny_holding (wpAny_bind ((mixKind P w).pyHash (k := k) hkv ?_))
    have room : (firstK (all.take i)).length + 1 < scanBound := by
      have := firstK_len (all.take i)
      rw [List.length_take] at this
      omega
    refine ks_add (s := { s' with toks := s'.toks + 1 }) hkv hS' room fun b h' sb hS2 => ?_
    rw [← firstK_take hk] at hS2
    refine wpAny_pure ⟨plainId_quiet F.plain_set_update_loop _, ih (i + 1) _ (by omega) hlt (W.frame _ s' _ _ hst' (Nat.le_succ _) fun c hc o e => ?_) hS2 fun s'' hm'' => mv s'' (Moved.trans W.gtrans ((hm.mono more).then_heap (Nat.le_succ _) fun c o hc e => ?_) hm'')⟩
    · exact (sb.2 c (fun z : c = B => hB (by rw [← z]; exact hc))).trans e
    · exact (sb.2 c (fun z : c = B => hc (by rw [z]; exact List.mem_cons_self))).trans e
theorem ks_none {h : Heap} {a : Addr} (ho : h.get? a = some { cls := .type "set", dict := none, data := .set #[] 0 (.fresh 0 0 (!w.params.followText "set-order")) }) : SetKs w h a [] := by
  refine ⟨_, #[], 0, _, [], ho, ⟨rfl, rfl, rfl⟩, rfl, List.Perm.nil, .nil, List.nodup_nil, by decide, rfl, List.Pairwise.nil, ?_⟩
  cases e : w.params.followText "set-order"
  · exact .inr rfl
  · exact .inl rfl
abbrev newSet (w : World) : Obj := { cls := .type "set", dict := none, data := .set #[] 0 (.fresh 0 0 (!w.params.followText "set-order")) }
set_option maxHeartbeats 8000000 in
/-- set(xs): ints and texts -/
theorem call_ks {l : Addr} {items : Array Value} {all : List Key} {Q : Value → Shared → Prop} (hh : A.handled = none) (hl : s.heap.IsList l items) (hit : EachIs (fun v k => keyIs k v = true) items.toList all) (hb : all.length + 1 < scanBound)
    (h : ∀ (h' : Heap) (tk : Nat), SetKs w h' s.heap.objs.size (firstK all) → (∀ b o, b < s.heap.objs.size → s.heap.get? b = some o → h'.get? b = some o) → Q (.ref s.heap.objs.size) { s with heap := h', toks := tk }) :
    wpAny (model P w) A (call (.type "set") [.ref l]) Q E s := by
  have hn : items.size = all.length := by rw [← Array.length_toList, hit.length]
  obtain ⟨c, tl, hmro⟩ := F.called_set.mro
  have hmade := F.called_set.made; have hsub := F.called_set.sub
  refine wpAny_call (codeAny_of_tree (show wpAny _ _ (callAny (.type "set") _) _ _ _ from wpAny_pure ⟨Code.quiet_builtin _ (by decide +kernel), codeAny_builtin F.entry_type_call ?_⟩))
  rw [Around.under_plain (weight_type_call_type "set" [.ref l] []) rfl]
  have h1 := F.called_set.notType; have h2 := F.called_set.canCreate; have hct := F.typeCall_set_1 (.ref l)
  repeat (any_goals (first | assumption | wp_step))
  refine codeAny_mono (code_set_led1 (.ref l) (E := E) (Q₁ := fun obj s₁ => obj = .ref s.heap.objs.size ∧ s₁ = { s with heap := s.heap.push (newSet w) }) ⟨rfl, rfl⟩) fun r s₁ hr => ?_
  match r, hr with
  | .error e, hr => exact hr
  | .ok .next, hr => exact hr.elim
  | .ok .brk, hr => exact hr.elim
  | .ok .cont, hr => exact hr.elim
  | .ok (.ret obj), ⟨e1, e2⟩ =>
    subst e1; subst e2
    have hS : (s.heap.push (newSet w)).get? s.heap.objs.size = some (newSet w) := Heap.get?_push_size _ rfl
    have hT : Shared.TypeIs { s with heap := s.heap.push (newSet w) } (.ref s.heap.objs.size) "set" := ⟨_, hS, rfl⟩
    have hli := F.called_set.init.lookup; have hbi := F.called_set.init.bind (.ref s.heap.objs.size)
    repeat (any_goals (first | assumption | wp_step))
    refine codeAny_mono (codeAny_call_builtin (R := wants (fun r s₂ => r = .none ∧ ∃ h' tk, s₂ = { s with heap := h', toks := tk } ∧ SetKs w h' s.heap.objs.size (firstK all) ∧ ∀ b o, b < s.heap.objs.size → s.heap.get? b = some o → h'.get? b = some o) E) F.called_set.init.plain F.entry_set_init (check_set_init_1 hT ?_)) fun r₂ s₂ hr₂ => ?_
    · obtain ⟨⟨ocls, odict, odata, oslots⟩, hol, hcl, nl, hdl⟩ := hl
      simp only at hcl hdl
      subst hcl; subst hdl
      have hol' : (s.heap.push (newSet w)).get? l = some { cls := .type "list", dict := odict, data := .seq items nl, slots := oslots } := Heap.get?_push_of_some _ hol
      have hsls := F.sub_list_set; have hslf := F.sub_list_frozenset; have hne : (Value.type "list" == Value.type "dict") = false := by decide
      have hl1 : (s.heap.push (newSet w)).IsList l items := ⟨_, hol', rfl, nl, rfl⟩
      unfold Builtin.«set.__init__» noKeywords Builtin.Frozenset.updateFrom
      (generalize hPI : pyIter = PI; wp_walk; subst hPI)
      refine wpAny_pyIter_list hl1 (wpAny_bind (wpAny_runValue ?_))
      have hlS : l < s.heap.objs.size := Heap.lt_size hol
      have hh3 : A.in1.in1.in1.handled = none := by simp [hh]
      have hz : (s.heap.push (newSet w)).objs.size = s.heap.objs.size + 1 := Heap.size_push ..
      have hneI : l ≠ (s.heap.push (newSet w)).objs.size := fun z => absurd hlS (by rw [z, Heap.size_push]; exact Nat.not_lt_of_le (Nat.le_succ _))
      have hSf : s.heap.objs.size ∉ [(s.heap.push (newSet w)).objs.size, l] := by
        rw [Heap.size_push]
        simp only [List.mem_cons, List.not_mem_nil, or_false, not_or]
        exact ⟨fun z => absurd z (Nat.ne_of_lt (Nat.lt_succ_self _)), fun z => absurd hlS (by rw [← z]; exact Nat.lt_irrefl _)⟩
      have hval : ∀ (i : Nat) (v : Value), items[i]? = some v → ∃ k, all[i]? = some k ∧ keyIs k v = true := fun i v hv => by
        rw [← Array.getElem?_toList] at hv
        exact each_get hit hv
      refine ks_loop (B := s.heap.objs.size) (all := all) ((Walks.list hh3 _ l hneI items).toS) hSf hn hval (by omega) (fun s' s0 hm hS' e0 => ?_) (items.size - 0) 0 _ (by omega) (Nat.zero_le _) ⟨⟨_, Heap.get?_push_size _ rfl, rfl, rfl⟩, (hl1.push _)⟩ (ks_none (Heap.get?_push_of_some _ hS)) (fun _ z => z)
      subst e0
      obtain ⟨h', g', d', tk', os'⟩ := s'
      have eg : g' = s.gens := hm.gens
      have ed : d' = s.drawn := hm.drawn
      have eo : os' = s.os := hm.os
      subst eg; subst ed; subst eo
      refine (show wpAny _ _ _ _ _ _ from wpAny_pure (show wpAny _ _ (ret Value.none) _ _ _ from wpAny_pure ⟨rfl, h', tk', rfl, hS', fun b o hb e => ?_⟩))
      exact hm.heap b o (by rw [Heap.size_push]; simp only [List.mem_cons, List.not_mem_nil, or_false, not_or]; exact ⟨Nat.ne_of_lt hb, Nat.ne_of_lt (Nat.lt_succ_of_lt hb)⟩) (Heap.get?_push_of_some _ (Heap.get?_push_of_some _ e))
    · match r₂, hr₂ with
      | .error e, hr₂ => exact hr₂
      | .ok .next, hr₂ => exact hr₂.elim
      | .ok .brk, hr₂ => exact hr₂.elim
      | .ok .cont, hr₂ => exact hr₂.elim
      | .ok (.ret r), ⟨e1, h', tk, e2, hS', hk'⟩ =>
        subst e1; subst e2
        repeat (any_goals (first | assumption | wp_step))
        exact h _ _ hS' hk'
end
end Dt
set_option maxRecDepth 100000
set_option maxHeartbeats 4000000
/-! DatA: in, tuple * int, a tuple of the module. -/
namespace Dt
open PySem PySem.Spec L2
@[simp] def flD : D → Bool
  | .non => true
  | .bl _ => true
  | .int _ => true
  | .str _ => true
  | _ => false
@[simp] def eqF : D → D → Bool
  | .non, .non => true
  | .bl a, .bl b => a == b
  | .bl a, .int b => (if a then 1 else 0) == b
  | .int a, .bl b => a == (if b then 1 else 0)
  | .int a, .int b => a == b
  | .str a, .str b => a == b
  | _, _ => false
def inF (x : D) (ds : List D) : Bool := ds.any fun y => eqF y x
section
variable {w : World} {K : PySem.W.Frag} {H : Hp}
theorem flD_V {d : D} {v : V} (r : RD K H d v) (f : flD d = true) : flatV v = true := by
  cases d <;> first | (cases r; rfl) | cases f
theorem eqF_V {d e : D} {v u : V} (r : RD K H d v) (s : RD K H e u) (f : flD d = true) (g : flD e = true) : eqV v u = eqF d e := by
  cases d <;> first | (simp at f; done) | skip
  all_goals (cases e <;> first | (simp at g; done) | skip)
  all_goals (cases r; cases s; rfl)
theorem flDs_V : ∀ {ds : List D} {vs : List V}, RDs K H ds vs → ds.all flD = true → vs.all flatV = true
  | [], _, r, _ => by cases r; rfl
  | d :: ds, _, r, h => by
    obtain ⟨v, vs, rfl, r1, r2⟩ := r
    rw [List.all_cons, Bool.and_eq_true] at h
    rw [List.all_cons, flD_V r1 h.1, flDs_V r2 h.2]
    rfl
theorem inF_V {x : D} {v : V} (rx : RD K H x v) (fx : flD x = true) : ∀ {ds : List D} {vs : List V}, RDs K H ds vs → ds.all flD = true → inV v vs = inF x ds
  | [], _, r, _ => by cases r; rfl
  | d :: ds, _, r, h => by
    obtain ⟨w, vs, rfl, r1, r2⟩ := r
    rw [List.all_cons, Bool.and_eq_true] at h
    have e := inF_V rx fx r2 h.2
    unfold inV inF at e ⊢
    rw [List.any_cons, List.any_cons, eqF_V r1 rx h.1 fx, e]
end
@[simp] def dInF (neg : Bool) (d : D) (ds : List D) (S : DH) (Q : DK) : Prop := flD d = true ∧ ds.all flD = true ∧ Q (.bl (if neg then !inF d ds else inF d ds)) S
section
variable {X : Cx}
/-- a tuple of the module's own -/
theorem de_gtup {x : Str} {a : Addr} {pos : Pos} {ds : List D} {its : Array Value} {n : Nat} (hg : Gl X x) (hm : X.mg x = some (.ref a)) (hk : X.K.lookup a = some ⟨.type "tuple", none, .seq its n, #[]⟩) (hz : its.size ≤ sizeLine) (hd : ∃ vs : List V, Vals vs its.toList ∧ ∀ H, RDs X.K H ds vs)
    (hdb : (x == ("__debug__" : Str)) = false := by decide) : DE X (.Name x pos) (dC (.tup ds)) := by
  obtain ⟨vs, h1, h2⟩ := hd
  exact de_c (pe_glob (v := .ref a) hg hm rfl hdb) fun H => ⟨a, vs, rfl, .inr ⟨its, n, hk, hz, h1⟩, h2 H⟩
end
/-- a promise that nobody asks -/
abbrev spNo : DSp := fun _ _ _ _ => False
theorem DFn.never {P : Program} {w : World} {K : PySem.W.Frag} {mg : Str → Option Value} {base : Heap} {k : Nat} {f : Addr} {fd : FuncData} {ps : List Str} (_ : Nat) : DFn P w K mg base k f fd ps spNo :=
  ⟨fun _ _ _ _ _ _ _ _ h => h.elim, fun _ _ _ _ h => h.elim, fun _ _ _ _ _ _ _ _ _ _ _ _ _ _ ⟨_, _, _, _, h⟩ => h.elim⟩
@[simp] def prevSp (sp : Nat → DSp) : Nat → DSp
  | 0 => spNo
  | n + 1 => sp n
end Dt
set_option maxRecDepth 100000
set_option maxHeartbeats 4000000
/-! DatB: names, plain texts. -/
namespace Dt
open PySem PySem.Spec L2
abbrev LET : Str := "abcdefghijklmnopqrstuvwxyz"
def hit (d : D) : Bool := match d with | .str s => !(Builtin.Str.occurrences LET s 0 LET.length 1).isEmpty | _ => false
def isNm (d : D) : Bool := match d with | .str x => decide (1 ≤ x.length) && decide (x.length ≤ 8) && (x.cps.toList.map signD).all hit | _ => false
def fnd (d : D) : Int := match d with | .str s => Txt.find LET s | _ => 0
/-- a text of few plain signs -/
def Pl (n : Nat) (x : Str) : Prop := x.length ≤ n ∧ ∀ c ∈ x.cps.toList, c < 128
theorem Pl.mono {n m : Nat} {x : Str} (h : Pl n x) (l : n ≤ m) : Pl m x := ⟨Nat.le_trans h.1 l, h.2⟩
theorem Pl.app {n m : Nat} {x y : Str} (h : Pl n x) (k : Pl m y) : Pl (n + m) (x ++ y) := by
  have e : (x ++ y).cps = x.cps ++ y.cps := rfl
  refine ⟨?_, fun c hc => ?_⟩
  · have h1 : x.cps.size ≤ n := h.1
    have h2 : y.cps.size ≤ m := k.1
    show (x ++ y).cps.size ≤ n + m
    rw [e, Array.size_append]
    omega
  · rw [e, Array.toList_append] at hc
    rcases List.mem_append.mp hc with z | z
    · exact h.2 c z
    · exact k.2 c z
theorem fold_mem {c : Nat} {a : Array Nat} : ∀ (n : Nat) (b : Array Nat), c ∈ ((List.replicate n a).foldl (· ++ ·) b).toList → c ∈ b.toList ∨ c ∈ a.toList
  | 0, b, h => .inl h
  | n + 1, b, h => by
    rw [List.replicate_succ, List.foldl_cons] at h
    rcases fold_mem n _ h with z | z
    · rw [Array.toList_append] at z
      exact List.mem_append.mp z
    · exact .inr z
theorem fold_size {a : Array Nat} : ∀ (n : Nat) (b : Array Nat), ((List.replicate n a).foldl (· ++ ·) b).size = b.size + n * a.size
  | 0, b => by simp
  | n + 1, b => by
    rw [List.replicate_succ, List.foldl_cons, fold_size n, Array.size_append, Nat.succ_mul]
    omega
theorem Pl.mul {x : Str} (h : Pl 1 x) {n : Nat} (hn : n ≤ 9) : Pl 9 (Txt.mul x (n : Int)) := by
  unfold Txt.mul
  split
  · exact ⟨by decide, fun c hc => by cases hc⟩
  · split
    · exact h.mono (by decide)
    · refine ⟨?_, fun c hc => ?_⟩
      · show ((List.replicate ((n : Int)).toNat x.cps).foldl (· ++ ·) #[]).size ≤ 9
        rw [fold_size]
        have h1 : x.cps.size ≤ 1 := h.1
        have e : (n : Int).toNat = n := by omega
        rw [e]
        have := Nat.mul_le_mul hn h1
        simpa using this
      · rcases fold_mem _ _ hc with z | z
        · cases z
        · exact h.2 c z
theorem Pl.lit (s : String) (n : Nat) (h : (decide ((Str.ofString s).length ≤ n) && (Str.ofString s).cps.toList.all fun c => decide (c < 128)) = true) : Pl n (Str.ofString s) := by
  rw [Bool.and_eq_true] at h
  exact ⟨of_decide_eq_true h.1, fun c hc => of_decide_eq_true (List.all_eq_true.mp h.2 c hc)⟩
/-- all but p stands -/
def ExtB (p : Addr) (S S' : DH) : Prop := ∀ b o, b ≠ p → S b = some o → S' b = some o
theorem Pl.join : ∀ ys : List Str, (∀ y ∈ ys, Pl 1 y) → Pl ys.length (Txt.join (.ofString "") ys) := fun ys h => by
  exact (show Txt.join (.ofString "") ys = Str.join (.ofString "") ys from PySem.StrLaws.glued_eq_join ..) ▸ go ys h
where
  go : ∀ ys : List Str, (∀ y ∈ ys, Pl 1 y) → Pl ys.length (Str.join (.ofString "") ys)
  | [], _ => ⟨by decide, fun c hc => by cases hc⟩
  | [x], h => h x (List.mem_cons_self ..)
  | x :: z :: r, h => by
    have e : Pl 0 (Str.ofString "") := Pl.lit "" 0 (by decide +kernel)
    have k := ((h x (List.mem_cons_self ..)).app e).app (go (z :: r) fun y hy => h y (List.mem_cons_of_mem _ hy))
    exact k.mono (by simp; omega)
theorem sum_le1 : ∀ ys : List Str, (∀ y ∈ ys, y.length ≤ 1) → (ys.map (·.length)).sum ≤ ys.length
  | [], _ => Nat.le_refl _
  | x :: r, h => by
    have := sum_le1 r fun y hy => h y (List.mem_cons_of_mem _ hy)
    have := h x (List.mem_cons_self ..)
    simp
    omega
theorem rng_at {i n : Nat} {d : D} (h : (rngD 0 n)[i]? = some d) (hn : n < 2 ^ 100) : ∃ k : Nat, k < 2 ^ 100 ∧ d = .int k := by
  obtain ⟨h1, h2⟩ := List.getElem?_eq_some_iff.mp h
  simp [rngD] at h1 h2
  exact ⟨i, by omega, h2.symm⟩
end Dt
set_option maxRecDepth 100000
set_option maxHeartbeats 4000000
/-! DatC: data within bounds. -/
namespace Dt
open PySem PySem.Spec L2
structure Wt (w dp : Nat) (p : PyData) : Prop where
  sh : p.showable = true
  dp : p.depth ≤ dp
  lf : p.leavesShort 13 = true
  cl : p.canLay0 = true
  wt : p.weight ≤ w
theorem Wt.mono {w dp w' dp' : Nat} {p : PyData} (h : Wt w dp p) (a : w ≤ w') (b : dp ≤ dp') : Wt w' dp' p := ⟨h.sh, Nat.le_trans h.dp b, h.lf, h.cl, Nat.le_trans h.wt a⟩
def Nz (w dp : Nat) (S : DH) (d : D) : Prop := ∃ p, Pd S d p ∧ Wt w dp p
section
variable {S S' : DH} {d : D} {w dp w' dp' n : Nat}
theorem Nz.mono (h : Nz w dp S d) (a : w ≤ w') (b : dp ≤ dp') : Nz w' dp' S d := let ⟨p, h1, h2⟩ := h; ⟨p, h1, h2.mono a b⟩
theorem Nz.ext (h : Nz w dp S d) (e : Ext S S') : Nz w dp S' d := let ⟨p, h1, h2⟩ := h; ⟨p, h1.ext e p d, h2⟩
mutual
theorem Pd.extB {S S' : DH} {q : Addr} (hq : ∀ ds, S q ≠ some (.lst ds)) (e : ExtB q S S') : ∀ (p : PyData) (d : D), Pd S d p → Pd S' d p
  | .none, _, h => by cases h; exact .non
  | .bool b, _, h => by cases h; exact .bl b
  | .int i, _, h => by cases h; exact .int i
  | .str x, _, h => by cases h; exact .str x
  | .tuple ps, _, h => by cases h with | tup hs => exact .tup (PdA.extB hq e ps _ hs)
  | .list ps, _, h => by
    cases h with
    | rol hs => exact .rol (PdA.extB hq e ps _ hs)
    | lst ea hs => exact .lst (e _ _ (fun z => hq _ (by rw [← z]; exact ea)) ea) (PdA.extB hq e ps _ hs)
  | .dict _, _, h => by cases h
theorem PdA.extB {S S' : DH} {q : Addr} (hq : ∀ ds, S q ≠ some (.lst ds)) (e : ExtB q S S') : ∀ (ps : List PyData) (ds : List D), PdA S ds ps → PdA S' ds ps
  | [], _, h => by cases h; exact .nil
  | p :: ps, _, h => by cases h with | cons h1 h2 => exact .cons (Pd.extB hq e p _ h1) (PdA.extB hq e ps _ h2)
end
theorem FeedOb.nl {n : Nat} {o : Ob} (h : FeedOb n o) {q : Addr} {S : DH} (e : S q = some o) : ∀ ds, S q ≠ some (.lst ds) := fun ds z => by
  obtain ⟨_, _, _, rfl, _⟩ := h
  rw [e] at z
  cases z
theorem Nz.extB {q : Addr} (h : Nz w dp S d) (hq : ∀ ds, S q ≠ some (.lst ds)) (e : ExtB q S S') : Nz w dp S' d := let ⟨p, h1, h2⟩ := h; ⟨p, h1.extB hq e p d, h2⟩
theorem Nz.non : Nz w dp S .non := ⟨.none, .non, rfl, Nat.zero_le _, rfl, rfl, Nat.zero_le _⟩
theorem Nz.bl (b : Bool) : Nz w dp S (.bl b) := ⟨.bool b, .bl b, rfl, Nat.zero_le _, rfl, rfl, Nat.zero_le _⟩
theorem Nz.int (i : Int) (h1 : PyData.showable (.int i) = true) (h2 : PyData.leavesShort 13 (.int i) = true) (h3 : PyData.weight (.int i) ≤ w) : Nz w dp S (.int i) := ⟨.int i, .int i, h1, Nat.zero_le _, h2, rfl, h3⟩
theorem Nz.str {x : Str} (h : Pl n x) (hn : n ≤ w) : Nz w dp S (.str x) := by
  refine ⟨.str x, .str x, rfl, Nat.zero_le _, ?_, ?_, Nat.le_trans h.1 hn⟩
  · simp only [PyData.leavesShort, List.all_eq_true, decide_eq_true_eq]
    exact fun c hc => Nat.lt_trans (h.2 c hc) (by decide)
  · show PyData.strOk x = true
    unfold PyData.strOk
    rw [← Array.all_toList, List.all_eq_true]
    exact fun c hc => decide_eq_true (Nat.lt_trans (h.2 c hc) (by decide))
theorem Nz.lit (s : String) (h : (decide ((Str.ofString s).length ≤ w) && (Str.ofString s).cps.toList.all fun c => decide (c < 128)) = true) : Nz w dp S (.str s) := .str (Pl.lit s w h) (Nat.le_refl _)
/-- all of a list -/
structure WtA (w dp : Nat) (ps : List PyData) : Prop where
  sh : PyData.showableAll ps = true
  dp : PyData.depthAll ps ≤ dp
  lf : PyData.leavesShortAll 13 ps = true
  cl : PyData.canLayAll0 ps = true
  wt : PyData.weightAll ps ≤ ps.length * (w + 1)
theorem NzA : ∀ {ds : List D}, (∀ d ∈ ds, Nz w dp S d) → ∃ ps, PdA S ds ps ∧ WtA w dp ps ∧ ps.length = ds.length
  | [], _ => ⟨[], .nil, ⟨rfl, Nat.zero_le _, rfl, rfl, Nat.zero_le _⟩, rfl⟩
  | d :: ds, h => by
    obtain ⟨ps, h1, h2, h3⟩ := NzA (ds := ds) fun e he => h e (List.mem_cons_of_mem _ he)
    obtain ⟨p, h4, h5⟩ := h d (List.mem_cons_self ..)
    refine ⟨p :: ps, .cons h4 h1, ⟨?_, ?_, ?_, ?_, ?_⟩, by simp [h3]⟩
    · simp only [PyData.showableAll, h5.sh, h2.sh, Bool.and_self]
    · simp only [PyData.depthAll]
      have := h5.dp; have := h2.dp
      omega
    · simp only [PyData.leavesShortAll, h5.lf, h2.lf, Bool.and_self]
    · simp only [PyData.canLayAll0, h5.cl, h2.cl, Bool.and_self]
    · simp only [PyData.weightAll, List.length_cons, Nat.succ_mul]
      have := h5.wt; have := h2.wt
      omega
theorem WtA.tup {ps : List PyData} (h : WtA w dp ps) (hw : ps.length * (w + 1) ≤ w') : Wt w' (dp + 1) (.tuple ps) := ⟨h.sh, Nat.succ_le_succ h.dp, h.lf, h.cl, Nat.le_trans h.wt hw⟩
theorem WtA.lst {ps : List PyData} (h : WtA w dp ps) (hw : ps.length * (w + 1) ≤ w') : Wt w' (dp + 1) (.list ps) := ⟨h.sh, Nat.succ_le_succ h.dp, h.lf, h.cl, Nat.le_trans h.wt hw⟩
theorem Nz.tup {ds : List D} (h : ∀ d ∈ ds, Nz w dp S d) (hn : ds.length ≤ n) (hw : n * (w + 1) ≤ w') : Nz w' (dp + 1) S (.tup ds) := by
  obtain ⟨ps, h1, h2, h3⟩ := NzA h
  exact ⟨.tuple ps, .tup h1, h2.tup (by rw [h3]; exact Nat.le_trans (Nat.mul_le_mul_right _ hn) hw)⟩
theorem Nz.lst {ds : List D} {a : Addr} (e : S a = some (.lst ds)) (h : ∀ d ∈ ds, Nz w dp S d) (hn : ds.length ≤ n) (hw : n * (w + 1) ≤ w') : Nz w' (dp + 1) S (.ref a) := by
  obtain ⟨ps, h1, h2, h3⟩ := NzA h
  exact ⟨.list ps, .lst e h1, h2.lst (by rw [h3]; exact Nat.le_trans (Nat.mul_le_mul_right _ hn) hw)⟩
theorem wts_kids : ∀ {ps : List PyData} {ds : List D}, PdA S ds ps → PyData.showableAll ps = true → PyData.depthAll ps ≤ dp → PyData.leavesShortAll 13 ps = true → PyData.canLayAll0 ps = true → PyData.weightAll ps ≤ w → ∀ d ∈ ds, Nz w dp S d
  | [], _, h, _, _, _, _, _ => by cases h; exact fun _ z => nomatch z
  | p :: ps, _, h, h1, h2, h3, h4, h5 => by
    cases h with
    | cons ha hb =>
      simp only [PyData.showableAll, PyData.depthAll, PyData.leavesShortAll, PyData.canLayAll0, PyData.weightAll, Bool.and_eq_true] at h1 h2 h3 h4 h5
      intro d hd
      rcases List.mem_cons.mp hd with rfl | z
      · exact ⟨p, ha, h1.1, by omega, h3.1, h4.1, by omega⟩
      · exact wts_kids hb h1.2 (by omega) h3.2 h4.2 (by omega) d z
theorem Nz.kids {ds : List D} (h : Nz w dp S (.tup ds)) : ∀ d ∈ ds, Nz w dp S d := by
  obtain ⟨p, h1, h2⟩ := h
  cases h1 with
  | tup hs => exact wts_kids hs h2.sh (Nat.le_trans (Nat.le_succ _) h2.dp) h2.lf h2.cl h2.wt
theorem Nz.ty (h : Nz w dp S d) : ∃ n, tyName d S = some n := by
  obtain ⟨p, h1, _⟩ := h
  cases h1 with
  | lst e _ => exact ⟨"list", tyName_lst S e⟩
  | _ => exact ⟨_, rfl⟩
theorem Nz.len {x : Str} (h : Nz w dp S (.str x)) : x.length ≤ w := by
  obtain ⟨p, h1, h2⟩ := h
  cases h1
  exact h2.wt
theorem Nz.shaped (h : Nz w dp S d) (hd : dp ≤ 64) : ∃ p, Pd S d p ∧ SeqAt.shaped p = true := by
  obtain ⟨p, h1, h2⟩ := h
  exact ⟨p, h1, by unfold SeqAt.shaped; rw [h2.cl, decide_eq_true (Nat.le_trans h2.dp hd)]; rfl⟩
end
end Dt
set_option maxRecDepth 100000
set_option maxHeartbeats 4000000
/-! DatV: plain data (==, in, <, sorted by sorts of data); comprehensions whose list is a value. -/
namespace Dt
open PySem PySem.Spec L2 PySem.W PyProof.Rows

/-! ### plain data -/
mutual
def pl : D → Bool
  | .non => true
  | .int _ => true
  | .str x => PyData.strOk x
  | .tup ds => pls ds
  | .rol ds => pls ds
  | .bl _ => false
  | .ref _ => false
def pls : List D → Bool
  | [] => true
  | d :: ds => pl d && pls ds
end
mutual
def dep : D → Nat
  | .tup ds => deps ds + 1
  | .rol ds => deps ds + 1
  | _ => 0
def deps : List D → Nat
  | [] => 0
  | d :: ds => max (dep d) (deps ds)
end
mutual
theorem dep_P : ∀ d : D, (toP d).depth = dep d
  | .non | .bl _ | .int _ | .str _ | .ref _ => rfl
  | .tup ds => congrArg (· + 1) (deps_P ds)
  | .rol ds => congrArg (· + 1) (deps_P ds)
theorem deps_P : ∀ ds : List D, PyData.depthAll (toPs ds) = deps ds
  | [] => rfl
  | d :: ds => by
    show max (toP d).depth (PyData.depthAll (toPs ds)) = max (dep d) (deps ds)
    rw [dep_P d, deps_P ds]
end
mutual
theorem pl_imm : ∀ d : D, pl d = true → imm d = true
  | .non, _ | .int _, _ | .str _, _ => rfl
  | .tup ds, h => pls_imm ds h
  | .rol ds, h => pls_imm ds h
theorem pls_imm : ∀ ds : List D, pls ds = true → imms ds = true
  | [], _ => rfl
  | d :: ds, h => by
    have h' : (pl d && pls ds) = true := h
    rw [Bool.and_eq_true] at h'
    show (imm d && imms ds) = true
    rw [pl_imm d h'.1, pls_imm ds h'.2]
    rfl
end
mutual
theorem pl_lay : ∀ d : D, pl d = true → (toP d).canLay0 = true
  | .non, _ | .int _, _ => rfl
  | .str x, h => h
  | .tup ds, h => pls_lay ds h
  | .rol ds, h => pls_lay ds h
theorem pls_lay : ∀ ds : List D, pls ds = true → PyData.canLayAll0 (toPs ds) = true
  | [], _ => rfl
  | d :: ds, h => by
    have h' : (pl d && pls ds) = true := h
    rw [Bool.and_eq_true] at h'
    show ((toP d).canLay0 && PyData.canLayAll0 (toPs ds)) = true
    rw [pl_lay d h'.1, pls_lay ds h'.2]
    rfl
end
theorem beq_dec {α : Type} [BEq α] [LawfulBEq α] [DecidableEq α] (a b : α) : (a == b) = decide (a = b) := by
  by_cases h : a = b
  · rw [h]; simp
  · rw [decide_eq_false h]
    simp [h]
mutual
theorem eqv_P : ∀ d e : D, pl d = true → pl e = true → PyData.eqv (toP d) (toP e) = deq d e
  | .non, e, _, h => by cases e <;> first | rfl | (simp [pl] at h; done)
  | .int i, e, _, h => by cases e <;> first | rfl | (simp [pl] at h; done) | (simp [toP, PyData.eqv, deq]; done)
  | .str i, e, _, h => by cases e <;> first | rfl | (simp [pl] at h; done)
  | .tup ds, e, h0, h => by
    cases e <;> first | rfl | (simp [pl] at h; done) | skip
    exact eqvs_P ds _ h0 h
  | .rol ds, e, h0, h => by
    cases e <;> first | rfl | (simp [pl] at h; done) | skip
    exact eqvs_P ds _ h0 h
theorem eqvs_P : ∀ ds es : List D, pls ds = true → pls es = true → PyData.eqvAll (toPs ds) (toPs es) = deqs ds es
  | [], es, _, _ => by cases es <;> rfl
  | d :: ds, [], _, _ => rfl
  | d :: ds, e :: es, h, h' => by
    have k : (pl d && pls ds) = true := h
    have k' : (pl e && pls es) = true := h'
    rw [Bool.and_eq_true] at k k'
    show (PyData.eqv (toP d) (toP e) && PyData.eqvAll (toPs ds) (toPs es)) = (deq d e && deqs ds es)
    rw [eqv_P d e k.1 k'.1, eqvs_P ds es k.2 k'.2]
end
theorem deq_dec (d e : D) : deq d e = decide (d = e) := by
  by_cases h : d = e
  · rw [h, deq_self]; simp
  · cases q : deq d e with
    | false => simp [h]
    | true => exact absurd (of_deq _ _ q) h
/-- plain and not deep -/
def Sm (n : Nat) (d : D) : Prop := pl d = true ∧ dep d ≤ n
theorem Sm.mono {n m : Nat} {d : D} (h : Sm n d) (l : n ≤ m) : Sm m d := ⟨h.1, Nat.le_trans h.2 l⟩
theorem pls_iff : ∀ {ds : List D}, pls ds = true ↔ ∀ d ∈ ds, pl d = true
  | [] => by simp [pls]
  | d :: ds => by
    show (pl d && pls ds) = true ↔ _
    rw [Bool.and_eq_true, pls_iff (ds := ds)]
    simp
theorem deps_iff {n : Nat} : ∀ {ds : List D}, deps ds ≤ n ↔ ∀ d ∈ ds, dep d ≤ n
  | [] => by simp [deps]
  | d :: ds => by
    show max (dep d) (deps ds) ≤ n ↔ _
    rw [Nat.max_le, deps_iff (ds := ds)]
    simp
theorem sms_iff {n : Nat} {ds : List D} : (pls ds = true ∧ deps ds ≤ n) ↔ ∀ d ∈ ds, Sm n d := by
  rw [pls_iff, deps_iff]
  exact ⟨fun h d hd => ⟨h.1 d hd, h.2 d hd⟩, fun h => ⟨fun d hd => (h d hd).1, fun d hd => (h d hd).2⟩⟩
@[simp] theorem Sm_non {n : Nat} : Sm n .non := ⟨rfl, Nat.zero_le _⟩
@[simp] theorem Sm_int {n : Nat} {i : Int} : Sm n (.int i) := ⟨rfl, Nat.zero_le _⟩
@[simp] theorem Sm_str {n : Nat} {x : Str} : Sm n (.str x) ↔ PyData.strOk x = true := ⟨fun h => h.1, fun h => ⟨h, Nat.zero_le _⟩⟩
theorem Sm_tup {n : Nat} {ds : List D} : Sm (n + 1) (.tup ds) ↔ ∀ d ∈ ds, Sm n d := by
  rw [← sms_iff]
  exact ⟨fun h => ⟨h.1, Nat.le_of_succ_le_succ h.2⟩, fun h => ⟨h.1, Nat.succ_le_succ h.2⟩⟩
theorem Sm_rol {n : Nat} {ds : List D} : Sm (n + 1) (.rol ds) ↔ ∀ d ∈ ds, Sm n d := by
  rw [← sms_iff]
  exact ⟨fun h => ⟨h.1, Nat.le_of_succ_le_succ h.2⟩, fun h => ⟨h.1, Nat.succ_le_succ h.2⟩⟩
theorem Sm.kids {n : Nat} {ds : List D} (h : Sm n (.tup ds)) : ∀ d ∈ ds, Sm n d := fun d hd => ⟨pls_iff.mp h.1 d hd, deps_iff.mp (Nat.le_trans (Nat.le_succ _) h.2) d hd⟩
theorem Sm.pd {n : Nat} {d : D} (h : Sm n d) (S : DH) : Pd S d (toP d) := imm_pd S d (pl_imm d h.1)
theorem Sm.shaped {n : Nat} {d : D} (h : Sm n d) (hn : n ≤ 64) : SeqAt.shaped (toP d) = true := by
  unfold SeqAt.shaped
  rw [pl_lay d h.1, dep_P d, decide_eq_true (Nat.le_trans h.2 hn)]
  rfl
/-- the items of a list, or all of it -/
theorem seqD_pd {S : DH} {d : D} {ds : List D} (e : seqD S d = some ds) (h : ∀ x ∈ ds, Sm 60 x) : Pd S d (toP (.rol ds)) ∧ SeqAt.shaped (toP (.rol ds)) = true := by
  have hs : Sm 61 (.rol ds) := Sm_rol.mpr h
  refine ⟨?_, hs.shaped (by decide)⟩
  cases d with
  | rol xs => cases e; exact hs.pd S
  | ref a =>
    simp only [seqD_ref] at e
    split at e
    · rename_i xs ea
      cases e
      exact .lst ea (imms_pd S ds (pls_imm ds hs.1))
    · cases e
  | _ => simp at e
section
variable {S : DH} {Q : DK} {neg : Bool} {d e : D}
/-- == of plain data -/
theorem dEq_sm (hd : Sm 60 d) (he : Sm 60 e) (h : Q (.bl (if neg then !decide (d = e) else decide (d = e))) S) : dEq neg d e S Q := by
  have go : dEqG neg d e S Q := by
    refine ⟨_, _, hd.pd S, he.pd S, hd.shaped (by decide), he.shaped (by decide), ?_⟩
    rw [eqv_P d e hd.1 he.1, deq_dec]
    exact h
  unfold dEq
  split
  · simp only [D.int.injEq] at h
    rw [beq_dec]
    exact h
  · simp only [D.str.injEq] at h
    rw [beq_dec]
    exact h
  · simp [Sm, pl] at hd
  · simpa using h
  · simpa using h
  · simpa using h
  · simpa using h
  · exact go
end

/-! ### sorts of data -/
inductive Ty where
  | int | str | tup (ts : List Ty) | hom (t : Ty) | hom1 (t : Ty) | lst (t : Ty)
mutual
def hasTy : Ty → D → Bool
  | .int, .int _ => true
  | .str, .str x => PyData.strOk x
  | .tup ts, .tup ds => hasTys ts ds
  | .hom t, .tup ds => ds.all (hasTy t)
  | .hom1 t, .tup ds => !ds.isEmpty && ds.all (hasTy t)
  | .lst t, .rol ds => ds.all (hasTy t)
  | _, _ => false
def hasTys : List Ty → List D → Bool
  | [], [] => true
  | t :: ts, d :: ds => hasTy t d && hasTys ts ds
  | _, _ => false
end
mutual
def tyDep : Ty → Nat
  | .tup ts => tysDep ts + 1
  | .hom t => tyDep t + 1
  | .hom1 t => tyDep t + 1
  | .lst t => tyDep t + 1
  | _ => 0
def tysDep : List Ty → Nat
  | [] => 0
  | t :: ts => max (tyDep t) (tysDep ts)
end
mutual
theorem hasTy_sm : ∀ (t : Ty) (d : D), hasTy t d = true → Sm (tyDep t) d
  | .int, d, h => by cases d <;> first | exact Sm_int | (simp [hasTy] at h; done)
  | .str, d, h => by cases d <;> first | exact Sm_str.mpr h | (simp [hasTy] at h; done)
  | .tup ts, d, h => by cases d <;> first | exact Sm_tup.mpr (hasTys_sm ts _ h) | (simp [hasTy] at h; done)
  | .hom t, d, h => by cases d <;> first | (simp [hasTy] at h; exact Sm_tup.mpr fun x hx => hasTy_sm t x (h x hx)) | (simp [hasTy] at h; done)
  | .hom1 t, d, h => by cases d <;> first | (simp [hasTy] at h; exact Sm_tup.mpr fun x hx => hasTy_sm t x (h.2 x hx)) | (simp [hasTy] at h; done)
  | .lst t, d, h => by cases d <;> first | (simp [hasTy] at h; exact Sm_rol.mpr fun x hx => hasTy_sm t x (h x hx)) | (simp [hasTy] at h; done)
theorem hasTys_sm : ∀ (ts : List Ty) (ds : List D), hasTys ts ds = true → ∀ d ∈ ds, Sm (tysDep ts) d
  | [], ds, h => by
    cases ds with
    | nil => exact fun _ z => nomatch z
    | cons _ _ => simp [hasTys] at h
  | t :: ts, ds, h => by
    cases ds with
    | nil => simp [hasTys] at h
    | cons d ds =>
      simp [hasTys] at h
      intro x hx
      rcases List.mem_cons.mp hx with rfl | hx
      · exact (hasTy_sm t x h.1).mono (Nat.le_max_left ..)
      · exact (hasTys_sm ts ds h.2 x hx).mono (Nat.le_max_right ..)
end
theorem alikeAll_hom {ds es : List D} (h : ∀ d ∈ ds, ∀ e ∈ es, alike (toP d) (toP e) = true) : alikeAll (toPs ds) (toPs es) = true := by
  induction ds generalizing es with
  | nil => rfl
  | cons d ds ih =>
    cases es with
    | nil => rfl
    | cons e es =>
      show (alike (toP d) (toP e) && alikeAll (toPs ds) (toPs es)) = true
      rw [h d (List.mem_cons_self ..) e (List.mem_cons_self ..), ih fun x hx y hy => h x (List.mem_cons_of_mem _ hx) y (List.mem_cons_of_mem _ hy)]
      rfl
mutual
theorem hasTy_alike : ∀ (t : Ty) (d e : D), hasTy t d = true → hasTy t e = true → alike (toP d) (toP e) = true
  | .int, d, e, h, h' => by cases d <;> first | (simp [hasTy] at h; done) | (cases e <;> first | rfl | (simp [hasTy] at h'; done))
  | .str, d, e, h, h' => by cases d <;> first | (simp [hasTy] at h; done) | (cases e <;> first | rfl | (simp [hasTy] at h'; done))
  | .tup ts, d, e, h, h' => by cases d <;> first | (simp [hasTy] at h; done) | (cases e <;> first | exact hasTys_alike ts _ _ h h' | (simp [hasTy] at h'; done))
  | .hom t, d, e, h, h' => by
    cases d <;> first | (simp [hasTy] at h; done) | (cases e <;> first | (simp [hasTy] at h h'; exact alikeAll_hom fun x hx y hy => hasTy_alike t x y (h x hx) (h' y hy)) | (simp [hasTy] at h'; done))
  | .hom1 t, d, e, h, h' => by
    cases d <;> first | (simp [hasTy] at h; done) | (cases e <;> first | (simp [hasTy] at h h'; exact alikeAll_hom fun x hx y hy => hasTy_alike t x y (h.2 x hx) (h'.2 y hy)) | (simp [hasTy] at h'; done))
  | .lst t, d, e, h, h' => by
    cases d <;> first | (simp [hasTy] at h; done) | (cases e <;> first | (simp [hasTy] at h h'; exact alikeAll_hom fun x hx y hy => hasTy_alike t x y (h x hx) (h' y hy)) | (simp [hasTy] at h'; done))
theorem hasTys_alike : ∀ (ts : List Ty) (ds es : List D), hasTys ts ds = true → hasTys ts es = true → alikeAll (toPs ds) (toPs es) = true
  | [], ds, es, h, h' => by cases ds <;> first | rfl | (simp [hasTys] at h; done)
  | t :: ts, ds, es, h, h' => by
    cases ds with
    | nil => rfl
    | cons d ds =>
      cases es with
      | nil => rfl
      | cons e es =>
        simp [hasTys] at h h'
        show (alike (toP d) (toP e) && alikeAll (toPs ds) (toPs es)) = true
        rw [hasTy_alike t d e h.1 h'.1, hasTys_alike ts ds es h.2 h'.2]
        rfl
end
/-- x < y -/
def ltD (x y : D) : Bool := dataLt (toP x) (toP y)
theorem ltD_irrefl (x : D) : ltD x x = false := PyProof.Rows.lex_irrefl _
theorem ltD_trans {x y z : D} (h : ltD x y = true) (h' : ltD y z = true) : ltD x z = true := PyProof.Rows.lex_trans _ _ _ h h'
theorem ltD_neg {x y z : D} (h : ltD x z = true) : ltD x y = true ∨ ltD y z = true := PyProof.Rows.lex_negTrans _ _ _ h
theorem ltD_asymm {x y : D} (h : ltD x y = true) : ltD y x = false := by
  cases e : ltD y x with
  | false => rfl
  | true =>
    have := ltD_trans h e
    rw [ltD_irrefl] at this
    cases this
theorem ltD_tri {t : Ty} {x y : D} (hx : hasTy t x = true) (hy : hasTy t y = true) (h : ltD x y = false) (h' : ltD y x = false) : x = y := by
  have e : keyToks (toP x) = keyToks (toP y) := PyProof.Rows.lex_total _ _ h h'
  have sx := hasTy_sm t x hx
  have sy := hasTy_sm t y hy
  have q := toks_eqv (toP x) (toP y) (hasTy_alike t x y hx hy)
  rw [eqv_P x y sx.1 sy.1] at q
  cases z : deq x y with
  | true => exact of_deq _ _ z
  | false =>
    have k := q.2 z [] [.inl 0]
    rw [← e, PyProof.Rows.lex_irrefl, List.append_nil] at k
    have : ∀ l : List (Int ⊕ List Nat), PyProof.Rows.lexLt PyProof.Rows.itemOrd l (l ++ [.inl 0]) = true := fun l => by
      induction l with
      | nil => rfl
      | cons a l ih => rw [List.cons_append, PyProof.Rows.lex_self]; exact ih
    rw [this] at k
    cases k
/-- what may be sorted -/
def sortTy : Ty → Bool
  | .int => true
  | .str => true
  | .tup (t :: ts) => decide (tyDep (.tup (t :: ts)) ≤ 50)
  | .hom1 t => decide (tyDep (.hom1 t) ≤ 50)
  | _ => false
theorem toPs_map (ds : List D) : toPs ds = ds.map toP := by
  induction ds with
  | nil => rfl
  | cons d ds ih => show toP d :: toPs ds = _; rw [ih]; rfl
/-- sorted as the language sorts -/
def srtD (ds : List D) : List D := ds.mergeSort fun a b => !ltD b a
theorem srtD_eq (ds : List D) : ds.mergeSort (dataLe false toP) = srtD ds := rfl
theorem srt_perm (ds : List D) : (srtD ds).Perm ds := List.mergeSort_perm ..
theorem srt_mem {ds : List D} {d : D} : d ∈ srtD ds ↔ d ∈ ds := (srt_perm ds).mem_iff
@[simp] theorem srt_len (ds : List D) : (srtD ds).length = ds.length := List.length_mergeSort _
theorem srt_sorted (ds : List D) : (srtD ds).Pairwise fun a b => ltD b a = false := by
  have := List.pairwise_mergeSort (le := fun a b : D => !ltD b a) (fun a b c h1 h2 => by
    cases e : ltD c a with
    | false => rfl
    | true =>
      rcases ltD_neg (y := b) e with z | z
      · rw [z] at h2; cases h2
      · rw [z] at h1; cases h1) (fun a b => by
    cases e : ltD b a with
    | false => rfl
    | true => rw [ltD_asymm e]; rfl) ds
  exact this.imp fun h => by simpa using h
/-- one sorted list of the same things -/
theorem sorted_one {t : Ty} : ∀ {as bs : List D}, (∀ d ∈ as, hasTy t d = true) → as.Pairwise (fun a b => ltD b a = false) → bs.Pairwise (fun a b => ltD b a = false) → as.Perm bs → as = bs
  | [], bs, _, _, _, p => p.symm.eq_nil.symm
  | a :: as, bs, ht, h1, h2, p => by
    cases bs with
    | nil => exact p.eq_nil
    | cons b bs =>
      have hb : hasTy t b = true := ht b (p.mem_iff.mpr (List.mem_cons_self ..))
      have ha : hasTy t a = true := ht a (List.mem_cons_self ..)
      obtain ⟨h1a, h1b⟩ := List.pairwise_cons.mp h1
      obtain ⟨h2a, h2b⟩ := List.pairwise_cons.mp h2
      have e : a = b := by
        rcases List.mem_cons.mp (p.mem_iff.mp (List.mem_cons_self (a := a) (l := as))) with z | z
        · exact z
        · rcases List.mem_cons.mp (p.mem_iff.mpr (List.mem_cons_self (a := b) (l := bs))) with y | y
          · exact y.symm
          · exact ltD_tri ha hb (h2a a z) (h1a b y)
      subst e
      rw [sorted_one (fun d hd => ht d (List.mem_cons_of_mem _ hd)) h1b h2b (List.perm_cons a |>.mp p)]
/-! ### sorted -/
def cSrt (ds : List D) (k : List D → Prop) : Prop := (∃ t, sortTy t = true ∧ ∀ d ∈ ds, hasTy t d = true) ∧ k (srtD ds)
def cSorted : RCD := fun ds S Q => match ds with
  | [d] => opt (seqD S d) fun xs => cSrt xs fun ys => newO S (.lst ys) fun p S' => Q (.ref p) S'
  | _ => False
@[simp] def cSortedF : RCD := fun ds S Q => match ds with
  | [d] => opt (seqD S d) fun xs => cSrt xs fun ys => Q (.rol ys) S
  | _ => False
section
variable {X : Cx}
end
/-! ### < of data -/
def rOrd (b : Bool) : R2D := fun d e S Q => match d, e with
  | .int i, .int j => Q (.bl (if b then decide (j < i) else decide (i < j))) S
  | d, e => (∃ t, tyDep t ≤ 50 ∧ hasTy t d = true ∧ hasTy t e = true) ∧ Q (.bl (if b then ltD e d else ltD d e)) S
@[simp] theorem rOrd_int {b : Bool} {i j : Int} {S : DH} {Q : DK} : rOrd b (.int i) (.int j) S Q = Q (.bl (if b then decide (j < i) else decide (i < j))) S := rfl
section
variable {X : Cx}
end
/-! ### in: plain data in lists -/
/-- b: d is among ds -/
def InR (d : D) (ds : List D) (b : Bool) : Prop := (flD d = true ∧ ds.all flD = true ∧ b = inF d ds) ∨ (Sm 60 d ∧ (∀ e ∈ ds, Sm 60 e) ∧ b = decide (d ∈ ds))
def dInQ (neg : Bool) (d : D) (ds : List D) (S : DH) (Q : DK) : Prop := ∃ b, InR d ds b ∧ Q (.bl (if neg then !b else b)) S
theorem dInQ_sm {neg : Bool} {d : D} {ds : List D} {S : DH} {Q : DK} (hd : Sm 60 d) (hs : ∀ e ∈ ds, Sm 60 e) (h : Q (.bl (if neg then !decide (d ∈ ds) else decide (d ∈ ds))) S) : dInQ neg d ds S Q := ⟨_, .inr ⟨hd, hs, rfl⟩, h⟩
theorem eqF_pl : ∀ {d e : D}, flD d = true → flD e = true → pl d = true → pl e = true → eqF e d = decide (d = e) := fun {d e} f g h k => by
  cases d <;> first | (simp at f; done) | (simp [pl] at h; done) | skip
  all_goals (cases e <;> first | (simp at g; done) | (simp [pl] at k; done) | rfl | skip)
  all_goals
    rw [eqF, beq_dec]
    simp [eq_comm]
theorem inF_pl {d : D} {ds : List D} (f : flD d = true) (g : ds.all flD = true) (h : pl d = true) (k : ∀ e ∈ ds, pl e = true) : inF d ds = decide (d ∈ ds) := by
  rw [Bool.eq_iff_iff]
  unfold inF
  rw [List.any_eq_true, decide_eq_true_eq]
  constructor
  · rintro ⟨e, he, q⟩
    rw [eqF_pl f (List.all_eq_true.mp g e he) h (k e he), decide_eq_true_eq] at q
    rw [q]
    exact he
  · intro hd
    exact ⟨d, hd, by rw [eqF_pl f f h h]; simp⟩
@[simp] theorem dInQ_fl {neg : Bool} {d : D} {ds : List D} {S : DH} {Q : DK} (f : flD d = true) (g : ds.all flD = true) : dInQ neg d ds S Q = Q (.bl (if neg then !inF d ds else inF d ds)) S := by
  refine propext ⟨fun ⟨b, r, q⟩ => ?_, fun q => ⟨_, .inl ⟨f, g, rfl⟩, q⟩⟩
  rcases r with ⟨_, _, rfl⟩ | ⟨h, k, rfl⟩
  · exact q
  · rw [inF_pl f g h.1 fun e he => (k e he).1]
    exact q
theorem dInQ_mono {neg : Bool} {d : D} {ds : List D} {S : DH} {Q Q' : DK} (k : ∀ d S', Q d S' → Q' d S') (h : dInQ neg d ds S Q) : dInQ neg d ds S Q' := let ⟨b, r, q⟩ := h; ⟨b, r, k _ _ q⟩
theorem inP_dec {d : D} {ds : List D} (hd : pl d = true) (hs : ∀ e ∈ ds, pl e = true) : inP (toP d) (toPs ds) = decide (d ∈ ds) := by
  induction ds with
  | nil => rfl
  | cons e ds ih =>
    show (PyData.eqv (toP e) (toP d) || inP (toP d) (toPs ds)) = _
    rw [eqv_P e d (hs e (List.mem_cons_self ..)) hd, ih fun x hx => hs x (List.mem_cons_of_mem _ hx), deq_dec]
    simp [eq_comm]
end Dt
set_option maxRecDepth 100000
set_option maxHeartbeats 4000000
/-! DatT: sorted(set(e)). -/
namespace Dt
open PySem PySem.Spec PySem.W L2 PyProof.Rows
def setHO (w : World) (p : Addr) (ks : List Key) : HO := .ext fun h => SetKs w h p ks
theorem SetKs.there {w : World} {h : Heap} {a : Addr} {ks : List Key} (R : SetKs w h a ks) : ∃ o, h.get? a = some o := by
  obtain ⟨o, _, _, _, _, ho, _⟩ := R
  exact ⟨o, ho⟩
theorem setHO_ok {P : Program} {w : World} {H : Hp} {h : Heap} {a : Addr} {ks : List Key} (R : SetKs w h a ks) : ObjOk P w H h a (setHO w a ks) :=
  ⟨R, R.there, fun h1 h2 z k => z.at k⟩
theorem setHO_at {P : Program} {w : World} {H : Hp} {h : Heap} {a : Addr} {ks : List Key} (hok : HOk P w H h) (e : H a = some (setHO w a ks)) : SetKs w h a ks := by
  have x : ObjOk P w H h a (.ext fun h => SetKs w h a ks) := hok a _ e
  exact x.1
theorem each_keyV (P : Program) (w : World) : ∀ {all : List Key} {us : List Value}, Vals (all.map kV) us → EachIs (fun v k => keyIs k v = true) us all
  | [], _, r => by cases r; exact .nil
  | k :: all, _, r => by
    cases r with
    | cons a b => exact .cons (kV_is (P := P) (w := w) a) (each_keyV P w b)
section
variable {X : Cx}
def rSetKs (K : PySem.W.Frag) (w : World) : List V → Hp → VK → Prop := fun vs H Q => ∃ (a : Addr) (all : List Key), vs = [.ref a] ∧ SqL K H a (all.map kV) ∧ all.length + 1 < scanBound ∧ ∀ p, H p = none → Q (.ref p) (upd H p (setHO w p (firstK all)))
theorem cr_setKs (hc : X.calm = true) : CallR X (.type "set") (rSetKs X.K X.w) := by
  intro pins s σ H vs us Q I r ⟨a, all, e, sq, hb, q⟩
  subst e
  obtain ⟨its, rv, hl, hz⟩ := I.list sq
  rw [Vals.ref1 r]
  refine call_ks (I.ok.hd hc) hl.isList (by simpa using each_keyV X.prog X.w rv) hb fun h' tk S k => ?_
  exact ⟨.ref _, upd H s.heap.objs.size (setHO X.w s.heap.objs.size (firstK all)), I.laid (t' := tk) (fun b u e => k b u (Heap.lt_size e) e) (Nat.le_refl _) (setHO_ok S), rfl, q _ (I.hok.fresh (Nat.le_refl _))⟩
/-- a key as data -/
def keyP : Key → PyData
  | .inl i => .int i
  | .inr x => .str x
def rSortKs (w : World) : List V → Hp → VK → Prop := fun vs H Q => ∃ (p : Addr) (ks : List Key), vs = [.ref p] ∧ H p = some (setHO w p ks) ∧ AllAlike (ks.map keyP) ∧ ∀ bs : List Key, bs.Perm ks → ∀ q, H q = none → Q (.ref q) (upd H q (.lst ((bs.mergeSort (dataLe false keyP)).map kV)))
theorem keyP_reads {h : Heap} {k : Key} {v : Value} (e : keyIs k v = true) : Reads h v (keyP k) [] := by
  rcases keyIs_shape e with ⟨i, t, rfl, rfl⟩ | ⟨x, t, rfl, rfl⟩
  · exact .int _ _
  · exact .str _ _
theorem keyP_depth (k : Key) : (keyP k).depth = 0 := by cases k <;> rfl
theorem keyP_sort (ks : List Key) : Sortable (ks.map keyP) := Sortable.others fun k => by
  cases k
  · exact ⟨(fun z => nomatch z), (fun _ z => nomatch z)⟩
  · exact ⟨(fun z => nomatch z), (fun _ z => nomatch z)⟩
theorem alike_perm {bs ks : List Key} (p : bs.Perm ks) (h : AllAlike (ks.map keyP)) : AllAlike (bs.map keyP) := fun d hd d' hd' =>
  h d ((p.map keyP).mem_iff.mp hd) d' ((p.map keyP).mem_iff.mp hd')
theorem each_perm {α β : Type} {R : α → β → Prop} {l l' : List α} (p : l'.Perm l) : ∀ {ks : List β}, EachIs R l ks → ∃ ks', ks'.Perm ks ∧ EachIs R l' ks' := by
  induction p with
  | nil => exact fun h => ⟨_, List.Perm.refl _, h⟩
  | cons x p ih =>
    intro ks h
    cases h with
    | cons a t =>
      obtain ⟨ks', p', h'⟩ := ih t
      exact ⟨_ :: ks', p'.cons _, .cons a h'⟩
  | swap x y l =>
    intro ks h
    cases h with
    | cons a t =>
      cases t with
      | cons b t => exact ⟨_, List.Perm.swap .., .cons b (.cons a t)⟩
  | trans p1 p2 ih1 ih2 =>
    intro ks h
    obtain ⟨ks1, q1, h1⟩ := ih2 h
    obtain ⟨ks2, q2, h2⟩ := ih1 h1
    exact ⟨ks2, q2.trans q1, h2⟩
theorem each_map2 {α β γ : Type} {R : α → γ → Prop} (f : β → α) : ∀ {l : List β} {ks : List γ}, EachIs (fun e k => R (f e) k) l ks → EachIs R (l.map f) ks
  | _, _, .nil => .nil
  | _, _, .cons a t => .cons a (each_map2 f t)
theorem vals_keys : ∀ {us : List Value} {ks : List Key}, EachIs (fun v k => keyIs k v = true) us ks → Vals (ks.map kV) us
  | _, _, .nil => .nil
  | _, _, .cons (b := k) a t => .cons (by rcases keyIs_shape a with ⟨i, t, rfl, rfl⟩ | ⟨x, t, rfl, rfl⟩ <;> exact ⟨_, rfl⟩) (vals_keys t)
theorem cr_sortKs (hc : X.calm = true) (hu : X.A.units + 64 < cLine) : CallR X (.builtin "sorted") (rSortKs X.w) := by
  intro pins s σ H vs us Q I r ⟨p, ks, e, hp, hal, q⟩
  subst e
  rw [Vals.ref1 r]
  obtain ⟨o, es, ep, t, l, ho, hex, hd, pe, re, nd, hb, hf, hr, hl⟩ := setHO_at I.hok hp
  refine Calls.call_function_entry kind_sorted plain_sorted entry_sorted (args_sorted1 _) ?_
  unfold Builtin.«sorted»
  refine wpAny_bind (m := checkCount "sorted" 1 1 _) (wpAny_pure (wpAny_bind (collect_set (A := X.A.in1) (I.ok.hd hc) ⟨o, ho, hex.1, hd⟩ hf hb hr hl fun s1 out k1 hz g1 o1 pm => ?_)))
  obtain ⟨bs, pb, eb⟩ := each_perm (pm.trans (pe.map (·.2))) (each_map2 (R := fun v k => keyIs k v = true) (fun e : Int × Value => e.2) (re.mono fun _ _ z => z.1))
  have hlen : out.length ≤ sizeLine := by
    rw [pm.length_eq, List.length_map, Array.length_toList]
    exact fits_of_scanBound hb
  refine wpAny_bind (wpAny_newList ?_ hlen)
  have hoL : (s1.heap.push (seqObj "list" out.toArray 0)).get? s1.heap.objs.size = some (seqObj "list" out.toArray 0) := Heap.get?_push_size _ rfl
  refine wpAny_bind (wpAny_holding (list_sort_data (R := fun v k => keyIs k v = true) (enc := keyP) (bs := bs) hoL eb (eb.mono fun v k z => ⟨[], keyP_reads z, List.not_mem_nil⟩) (alike_perm pb hal) (keyP_sort bs) (by rw [← eb.length]; exact hlen)
    (fun b _ => by rw [keyP_depth]; show X.A.units + 1 + 1 + 0 < cLine; omega) fun out2 n2 e2 => ?_))
  obtain ⟨c, he⟩ := sortedHeap_at (vs := out) (out := out2.toArray) hoL
  have hn : H s1.heap.objs.size = none := I.hok.fresh hz
  have hl2 : ((bs.mergeSort (dataLe false keyP)).map kV).length ≤ sizeLine := by
    rw [List.length_map, List.length_mergeSort, ← eb.length]
    exact hlen
  have kp : ∀ b u, s.heap.get? b = some u → (sortedHeap (s1.heap.push (seqObj "list" out.toArray 0)) s1.heap.objs.size out out2.toArray).get? b = some u := fun b u e => by
    have z := k1 b u e
    have lt := Heap.lt_size z
    rw [sortedHeap_old (Nat.ne_of_lt lt) (by rw [Heap.size_push]; exact Nat.lt_succ_of_lt lt)]
    exact Heap.get?_push_of_some _ z
  refine wpAny_pure ⟨_, rfl, .ref s1.heap.objs.size, _, ?_, rfl, q bs pb s1.heap.objs.size hn⟩
  obtain ⟨hp1, ge1, dr1, tk1, os1⟩ := s1
  cases g1
  cases o1
  have J : Inv X pins σ (upd H hp1.objs.size (.lst ((bs.mergeSort (dataLe false keyP)).map kV))) { s with heap := sortedHeap (hp1.push (seqObj "list" out.toArray 0)) hp1.objs.size out out2.toArray, drawn := dr1, toks := tk1 } :=
    I.call (ch := []) (Un.laid kp hz hn) (I.hok.laid kp hz ⟨hl2, out2, c, vals_keys e2, he⟩) I.bare (fun _ z => nomatch z)
  exact J
def keyD : Key → D
  | .inl i => .int i
  | .inr x => .str x
theorem keyD_rd {K : PySem.W.Frag} {H : Hp} {k : Key} {v : V} : RD K H (keyD k) v ↔ v = kV k := by
  cases k <;> exact Iff.rfl
theorem rds_keys {K : PySem.W.Frag} {H : Hp} : ∀ {all : List Key} {xs : List V}, RDs K H (all.map keyD) xs → xs = all.map kV
  | [], _, r => by cases r; rfl
  | k :: all, _, r => by
    obtain ⟨v, r', rfl, h1, h2⟩ := r
    rw [keyD_rd.mp h1, rds_keys h2]
    rfl
theorem keys_rds {K : PySem.W.Frag} {H : Hp} : ∀ all : List Key, RDs K H (all.map keyD) (all.map kV)
  | [] => .nil
  | k :: all => RDs.cons (keyD_rd.mpr rfl) (keys_rds all)
theorem fold_key {k : Key} : ∀ (all acc : List Key), k ∈ all.foldl addK acc → k ∈ acc ∨ k ∈ all
  | [], acc, h => .inl h
  | j :: all, acc, h => by
    rcases fold_key all (addK acc j) h with z | z
    · unfold addK at z
      split at z
      · exact .inl z
      · rcases List.mem_append.mp z with z | z
        · exact .inl z
        · exact .inr (by rw [List.mem_singleton.mp z]; exact List.mem_cons_self)
    · exact .inr (List.mem_cons_of_mem _ z)
theorem alike_first {all : List Key} (h : AllAlike (all.map keyP)) : AllAlike ((firstK all).map keyP) := fun d hd d' hd' => by
  have up : ∀ x, x ∈ (firstK all).map keyP → x ∈ all.map keyP := fun x hx => by
    obtain ⟨k, hk, rfl⟩ := List.mem_map.mp hx
    rcases fold_key all [] hk with z | z
    · cases z
    · exact List.mem_map.mpr ⟨k, z, rfl⟩
  exact h d (up d hd) d' (up d' hd')
/-- sorted(set(e)) -/
def dSortSet (t : DTE) : DTE := fun E τ S Q => t E τ S fun d S1 => ∃ all : List Key, (d = .rol (all.map keyD) ∨ ∃ a, d = .ref a ∧ S1 a = some (.lst (all.map keyD))) ∧ all.length + 1 < scanBound ∧ AllAlike (all.map keyP) ∧
  ∀ bs : List Key, bs.Perm (firstK all) → newO S1 (.lst ((bs.mergeSort (dataLe false keyP)).map keyD)) fun p S' => Q (.ref p) S'
variable {x y : Str} {e : Expr} {p p' pos pos' : Pos} {t : DTE}
end
end Dt
set_option maxRecDepth 100000
set_option maxHeartbeats 4000000
/-! DatW: in; comprehensions whose list is a value; dicts' methods. -/
namespace Dt
open PySem PySem.Spec L2 PySem.W PyProof.Rows

/-! ### in -/
@[simp] def dIn (neg : Bool) : R2D := fun d e S Q => match e with
  | .tup ds => dInF neg d ds S Q
  | .rol ds => dInQ neg d ds S Q
  | .ref a => (match S a with
    | some (.lst ds) => dInQ neg d ds S Q
    | some (.dK kvs) => opt (dkey d) fun k => Q (.bl (if neg then !(lk kvs k).isSome else (lk kvs k).isSome)) S
    | some (.dN kvs) => okT d = true ∧ Q (.bl (if neg then !(lk kvs d).isSome else (lk kvs d).isSome)) S
    | _ => False)
  | _ => False
theorem dIn_mono (neg : Bool) : Mono2 (dIn neg) := fun x y S Q Q' k h => by
  cases y with
  | tup ds => exact ⟨h.1, h.2.1, k _ _ h.2.2⟩
  | rol ds => exact dInQ_mono k h
  | ref a =>
    revert h
    show (match S a with | some (.lst ds) => _ | some (.dK kvs) => _ | some (.dN kvs) => _ | _ => False) → (match S a with | some (.lst ds) => _ | some (.dK kvs) => _ | some (.dN kvs) => _ | _ => False)
    split
    · exact fun h => dInQ_mono k h
    · exact fun h => opt_mono (fun _ z => k _ _ z) h
    · exact fun h => ⟨h.1, k _ _ h.2⟩
    · exact fun h => h
  | _ => exact h.elim
section
variable {X : Cx}
theorem od_in_neg (neg : Bool) (op : CmpOp) (he : op = if neg then .NotIn else .In) (hu : X.A.units + 120 < cLine) : OpR X (compareOp op) (upO X.w X.K (dIn neg)) := by
  rintro pins s σ H x y v u Q I rx ry ⟨d, e, S, rep, rd, re, h⟩
  have go : rIn X.K neg x y H Q → wpAny (model X.prog X.w) X.A (compareOp op v u) (EP X pins σ Q) X.xe s := fun z => by
    subst he
    cases neg
    · exact op_in_seq pins s σ H x y v u Q I rx ry z
    · exact op_notIn_seq pins s σ H x y v u Q I rx ry z
  have lst : ∀ {ds : List D}, seqD S e = some ds → dInQ neg d ds S (fun z S' => ∀ v H', LeH H H' → Rep X.w X.K S' H' → RD X.K H' z v → Q v H') → wpAny (model X.prog X.w) X.A (compareOp op v u) (EP X pins σ Q) X.xe s := fun {ds} es ⟨b, r, q⟩ => by
    rcases r with ⟨f, g, rfl⟩ | ⟨hd, hs, rfl⟩
    · obtain ⟨p, xs, rfl, sq, rs⟩ := seqD_rd rep re es
      exact go ⟨p, xs, rfl, .inl sq.l, flD_V rd f, flDs_V rs g, by rw [inF_V rd f rs g]; exact q _ H (LeH.refl H) rep rfl⟩
    · obtain ⟨p2, s2⟩ := seqD_pd es hs
      rw [← inP_dec hd.1 fun e he => (hs e he).1] at q
      subst he
      cases neg
      · exact (od_inL (X := X) (by omega)).run pins s σ H x y v u Q I rx ry ⟨d, e, S, rep, rd, re, _, _, hd.pd S, p2, hd.shaped (by decide), s2, q⟩
      · exact (od_ninL (X := X) (by omega)).run pins s σ H x y v u Q I rx ry ⟨d, e, S, rep, rd, re, _, _, hd.pd S, p2, hd.shaped (by decide), s2, q⟩
  cases e with
  | tup ds =>
    obtain ⟨p, xs, rfl, sq, rs⟩ : ∃ p xs, y = V.ref p ∧ SqTn X.K H p xs ∧ RDs X.K H ds xs := re
    exact go ⟨p, xs, rfl, .inr sq, flD_V rd h.1, flDs_V rs h.2.1, by rw [inF_V rd h.1 rs h.2.1]; exact h.2.2 _ H (LeH.refl H) rep rfl⟩
  | rol ds => exact lst rfl h
  | ref a =>
    revert h
    show (match S a with | some (.lst ds) => _ | some (.dK kvs) => _ | some (.dN kvs) => _ | _ => False) → _
    split
    · rename_i ds ea
      exact lst (by simp [ea])
    · rename_i kvs ea
      intro h
      cases re
      obtain ⟨ws, e0, rk⟩ : ∃ ws, H a = some (.dK ws) ∧ RKs X.K H kvs ws := rep a _ ea
      obtain ⟨k, ek, h⟩ := opt_ex h
      have ey := dkey_rd ek rd
      subst ey
      cases ry
      have g : DGet H a (kV k) (valV ws k) := DGet.k e0
      subst he
      cases neg
      · exact d_in (by omega) I g rx fun s3 I3 => ⟨.bl _, H, I3, rfl, by rw [rk.isSome k]; exact h _ H (LeH.refl H) rep rfl⟩
      · exact d_notIn (by omega) I g rx fun s3 I3 => ⟨.bl _, H, I3, rfl, by rw [rk.isSome k]; exact h _ H (LeH.refl H) rep rfl⟩
    · rename_i kvs ea
      rintro ⟨hk, h⟩
      cases re
      cases ry
      obtain ⟨xs, dd, rx', hsys, hl, nd, mu⟩ := dn_open I (rep a _ ea)
      obtain ⟨nk, b, ek, _, rfl, rfl, his⟩ := okT_key I hk rd rx
      rw [← rx'.isSome ek] at h
      subst he
      cases neg
      · exact in_keyed (knd := nestedKind X.prog X.w) (show X.A.units + 1 + 8 < cLine by omega) his hsys ⟨xs, dd, rfl⟩ ⟨.bl _, H, I.tok _, rfl, by rw [valueAt_pairsH, Option.isSome_map]; exact h _ H (LeH.refl H) rep rfl⟩
      · exact notIn_keyed (knd := nestedKind X.prog X.w) (show X.A.units + 1 + 8 < cLine by omega) his hsys ⟨xs, dd, rfl⟩ ⟨.bl _, H, I.tok _, rfl, by rw [valueAt_pairsH, Option.isSome_map]; exact h _ H (LeH.refl H) rep rfl⟩
    · exact fun h => h.elim
  | _ => exact h.elim
theorem od_in (hu : X.A.units + 120 < cLine) : OpD X (compareOp .In) (dIn false) := ⟨dIn_mono false, od_in_neg false .In rfl hu⟩
theorem od_nin (hu : X.A.units + 120 < cLine) : OpD X (compareOp .NotIn) (dIn true) := ⟨dIn_mono true, od_in_neg true .NotIn rfl hu⟩
end
/-! ### comprehensions whose list is a value -/
theorem upo_comm {S : DH} {p q : Addr} {o u : Ob} (h : p ≠ q) : upo (upo S p o) q u = upo (upo S q u) p o := by
  funext b
  unfold upo
  split
  · rename_i e
    split
    · rename_i e'
      exact absurd (e'.symm.trans e) h
    · rfl
  · rfl
theorem lcF_inv {g : DTG} {tt : DTT} {te : DTE} {E : DW} {τ : DSt} {G : DH → Prop} {ds : List D} {S : DH} {Q : DK} (I : Nat → List D → DH → Prop) (h0 : I 0 [] S)
    (hG : ∀ i acc S1 p, i ≤ ds.length → I i acc S1 → S1 p = none → G (upo S1 p (.lst acc)))
    (hs : ∀ i d acc S1 p (N : DH → Prop), ds[i]? = some d → I i acc S1 → S1 p = none → acc.length < 16777216 → (∀ acc' S2, S2 p = none → I (i + 1) acc' S2 → acc'.length ≤ acc.length + 1 → N (upo S2 p (.lst acc'))) →
      g d τ (upo S1 p (.lst acc)) fun τ1 S2 => tt E τ1 S2 fun b S3 => if b = true then te E τ1 S3 fun y S4 => (match S4 p with | some (.lst acc) => acc.length < 16777216 ∧ N (upo S4 p (.lst (acc ++ [y]))) | _ => False) else N S3)
    (hl : ds.length < sizeLine) (hd : ∀ acc S1, I ds.length acc S1 → Q (.rol acc) S1) : newO S (.lst []) fun p S1 => dLcL g tt te E τ G p (fzK Q (.ref p)) ds S1 := by
  intro p hp
  have go : ∀ (m i : Nat) (acc : List D) (S1 : DH), i + m = ds.length → acc.length ≤ i → S1 p = none → I i acc S1 → dLcL g tt te E τ G p (fzK Q (.ref p)) (ds.drop i) (upo S1 p (.lst acc)) := by
    intro m
    induction m with
    | zero =>
      intro i acc S1 e _ hp1 hi
      have e' : i = ds.length := by omega
      subst e'
      rw [List.drop_length]
      exact ⟨hG _ _ _ _ (Nat.le_refl _) hi hp1, fzK_new hp1 (hd _ _ hi)⟩
    | succ m ih =>
      intro i acc S1 e ha hp1 hi
      have hlt : i < ds.length := by omega
      have ed : ds[i]? = some ds[i] := List.getElem?_eq_getElem hlt
      rw [drop_at ed]
      refine ⟨hG _ _ _ _ (by omega) hi hp1, ?_⟩
      have := hs i _ acc S1 p (dLcL g tt te E τ G p (fzK Q (.ref p)) (ds.drop (i + 1))) ed hi hp1 (by rw [line_lt] at hl; omega) fun acc' S2 h2 hi2 hle => ih (i + 1) acc' S2 (by omega) (by omega) h2 hi2
      simp only [line_lt] at this ⊢
      exact this
  have := go ds.length 0 [] S (by omega) (Nat.le_refl _) hp h0
  rwa [List.drop_zero] at this
/-- [f d for d in ds if c d], where nothing changes -/
theorem lcF_of {g : DTG} {tt : DTT} {te : DTE} {E : DW} {τ : DSt} {G : DH → Prop} {ds : List D} {S : DH} {Q : DK} (c : D → Bool) (f : D → D)
    (hG : ∀ p acc, S p = none → G (upo S p (.lst acc)))
    (hs : ∀ d ∈ ds, ∀ acc p (N : DH → Prop), S p = none → acc.length < 16777216 → (c d = true → N (upo S p (.lst (acc ++ [f d])))) → (c d = false → N (upo S p (.lst acc))) →
      g d τ (upo S p (.lst acc)) fun τ1 S2 => tt E τ1 S2 fun b S3 => if b = true then te E τ1 S3 fun y S4 => (match S4 p with | some (.lst acc) => acc.length < 16777216 ∧ N (upo S4 p (.lst (acc ++ [y]))) | _ => False) else N S3)
    (hl : ds.length < sizeLine) (hq : Q (.rol ((ds.filter c).map f)) S) : newO S (.lst []) fun p S1 => dLcL g tt te E τ G p (fzK Q (.ref p)) ds S1 := by
  refine lcF_inv (fun i acc S1 => S1 = S ∧ acc = ((ds.take i).filter c).map f) ⟨rfl, rfl⟩ (fun i acc S1 p _ ⟨e, _⟩ hp => by subst e; exact hG p acc hp) (fun i d acc S1 p N ed ⟨e1, e2⟩ hp ha hN => ?_) hl fun acc S1 ⟨e1, e2⟩ => ?_
  · subst e1
    refine hs d (List.mem_of_getElem? ed) acc p N hp ha (fun hc => hN _ _ hp ⟨rfl, ?_⟩ (by simp)) fun hc => hN _ _ hp ⟨rfl, ?_⟩ (by simp)
    · rw [List.take_succ, ed, e2]
      simp [hc]
    · rw [List.take_succ, ed, e2]
      simp [hc]
  · subst e1 e2
    rw [List.take_length]
    exact hq
/-- [f d for d in ds], where nothing changes -/
theorem lcF_map {g : DTG} {te : DTE} {E : DW} {τ : DSt} {G : DH → Prop} {ds : List D} {S : DH} {Q : DK} (f : D → D)
    (hG : ∀ p acc, S p = none → G (upo S p (.lst acc)))
    (hs : ∀ d ∈ ds, ∀ acc p (N : DH → Prop), S p = none → acc.length < 16777216 → N (upo S p (.lst (acc ++ [f d]))) →
      g d τ (upo S p (.lst acc)) fun τ1 S2 => te E τ1 S2 fun y S4 => (match S4 p with | some (.lst acc) => acc.length < 16777216 ∧ N (upo S4 p (.lst (acc ++ [y]))) | _ => False))
    (hl : ds.length < sizeLine) (hq : Q (.rol (ds.map f)) S) : newO S (.lst []) fun p S1 => dLcL g dYes te E τ G p (fzK Q (.ref p)) ds S1 := by
  have hf : ds.filter (fun _ => true) = ds := List.filter_eq_self.mpr fun _ _ => rfl
  refine lcF_of (fun _ => true) f hG (fun d hd acc p N hp ha h1 _ => ?_) hl (by rw [hf]; exact hq)
  simpa only [dYes, if_true] using hs d hd acc p N hp ha (h1 rfl)
/-! ### sorted(set(e)) -/
/-- sorted, each once -/
def ssD (ds : List D) : List D := srtD ds.eraseDups
theorem ss_mem {ds : List D} {d : D} : d ∈ ssD ds ↔ d ∈ ds := by unfold ssD; rw [srt_mem, List.mem_eraseDups]
theorem nodup_eraseDups {α : Type} [BEq α] [LawfulBEq α] : ∀ (n : Nat) (l : List α), l.length ≤ n → l.eraseDups.Nodup
  | _, [], _ => by simp
  | 0, _ :: _, h => by simp at h
  | n + 1, a :: l, h => by
    rw [List.eraseDups_cons]
    refine List.nodup_cons.mpr ⟨fun z => ?_, nodup_eraseDups n _ (Nat.le_trans (List.length_filter_le ..) (by simpa using h))⟩
    rw [List.mem_eraseDups] at z
    simpa using (List.mem_filter.mp z).2
theorem ss_nodup (ds : List D) : (ssD ds).Nodup := (srt_perm _).nodup_iff.mpr (nodup_eraseDups _ _ (Nat.le_refl _))
theorem perm_of_mem {α : Type} [DecidableEq α] {as bs : List α} (ha : as.Nodup) (hb : bs.Nodup) (h : ∀ x, x ∈ as ↔ x ∈ bs) : as.Perm bs := by
  rw [List.perm_iff_count]
  intro x
  rw [ha.count, hb.count]
  simp [h x]
/-- a list that rises, with just these things -/
theorem ss_is {t : Ty} {as bs : List D} (ht : ∀ d ∈ as, hasTy t d = true) (nd : bs.Nodup) (hs : bs.Pairwise fun a b => ltD b a = false) (h : ∀ x, x ∈ as ↔ x ∈ bs) : ssD as = bs :=
  sorted_one (t := t) (fun d hd => ht d (ss_mem.mp hd)) (srt_sorted _) hs (perm_of_mem (ss_nodup as) nd fun x => by rw [ss_mem, h])
theorem fold_mem2 {k : Key} : ∀ (all acc : List Key), k ∈ acc ∨ k ∈ all → k ∈ all.foldl addK acc
  | [], acc, h => h.elim id fun z => nomatch z
  | j :: all, acc, h => by
    refine fold_mem2 all (addK acc j) ?_
    rcases h with h | h
    · left
      unfold addK
      split
      · exact h
      · exact List.mem_append_left _ h
    · rcases List.mem_cons.mp h with rfl | h
      · left
        unfold addK
        split
        · rename_i z
          exact any_key.mp z
        · exact List.mem_append_right _ (List.mem_singleton.mpr rfl)
      · exact .inr h
theorem first_mem {k : Key} {all : List Key} : k ∈ firstK all ↔ k ∈ all := ⟨fun h => (fold_key all [] h).elim (fun z => nomatch z) id, fun h => fold_mem2 all [] (.inr h)⟩
theorem addK_nodup {ks : List Key} {k : Key} (h : ks.Nodup) : (addK ks k).Nodup := by
  unfold addK
  split
  · exact h
  · rename_i z
    exact List.nodup_append.mpr ⟨h, List.nodup_cons.mpr ⟨List.not_mem_nil, .nil⟩, fun a ha b hb e => z (any_key.mpr (by rw [← List.mem_singleton.mp hb, ← e]; exact ha))⟩
theorem first_nodup (all : List Key) : (firstK all).Nodup := by
  have go : ∀ (all acc : List Key), acc.Nodup → (all.foldl addK acc).Nodup := fun all => by
    induction all with
    | nil => exact fun _ h => h
    | cons k all ih => exact fun acc h => ih _ (addK_nodup h)
  exact go all [] .nil
theorem keyD_inj {a b : Key} (h : keyD a = keyD b) : a = b := by
  cases a <;> cases b <;> simp [keyD] at h <;> rw [h]
theorem keyP_D (k : Key) : keyP k = toP (keyD k) := by cases k <;> rfl
theorem nodup_mapD {ks : List Key} (h : ks.Nodup) : (ks.map keyD).Nodup := by
  rw [List.nodup_iff_pairwise_ne, List.pairwise_map]
  exact (List.nodup_iff_pairwise_ne.mp h).imp fun h e => h (keyD_inj e)
theorem keys_of {t : Ty} (ht : t = .int ∨ t = .str) : ∀ {xs : List D}, (∀ d ∈ xs, hasTy t d = true) → ∃ all : List Key, xs = all.map keyD
  | [], _ => ⟨[], rfl⟩
  | d :: xs, h => by
    obtain ⟨all, e⟩ := keys_of ht (xs := xs) fun x hx => h x (List.mem_cons_of_mem _ hx)
    have hd := h d (List.mem_cons_self ..)
    rcases ht with rfl | rfl
    · cases d <;> first | (simp [hasTy] at hd; done) | exact ⟨_ :: all, by rw [e]; exact List.map_cons (f := keyD) (a := Sum.inl _) |>.symm⟩
    · cases d <;> first | (simp [hasTy] at hd; done) | exact ⟨_ :: all, by rw [e]; exact List.map_cons (f := keyD) (a := Sum.inr _) |>.symm⟩
def scTy (b : Bool) : Ty := if b then .int else .str
@[simp] def dSortSetM (t : DTE) : DTE := fun E τ S Q => t E τ S fun d S1 => opt (seqD S1 d) fun xs => (∃ b, ∀ d ∈ xs, hasTy (scTy b) d = true) ∧ xs.length + 1 < scanBound ∧ newO S1 (.lst (ssD xs)) fun p S' => Q (.ref p) S'
@[simp] def dSortSetF (t : DTE) : DTE := fun E τ S Q => t E τ S fun d S1 => opt (seqD S1 d) fun xs => (∃ b, ∀ d ∈ xs, hasTy (scTy b) d = true) ∧ xs.length + 1 < scanBound ∧ Q (.rol (ssD xs)) S1
theorem key_sorted {t : Ty} {bs : List Key} : ((bs.mergeSort (dataLe false keyP)).map keyD).Pairwise fun a b => ltD b a = false := by
  rw [List.pairwise_map]
  have e : (dataLe false keyP) = fun a b : Key => !ltD (keyD b) (keyD a) := by
    funext a b
    show (!dataLt (keyP b) (keyP a)) = _
    rw [keyP_D, keyP_D]
    rfl
  rw [e]
  have := List.pairwise_mergeSort (le := fun a b : Key => !ltD (keyD b) (keyD a)) (fun a b c h1 h2 => by
    cases e : ltD (keyD c) (keyD a) with
    | false => rfl
    | true =>
      rcases ltD_neg (y := keyD b) e with z | z
      · rw [z] at h2; cases h2
      · rw [z] at h1; cases h1) (fun a b => by
    cases e : ltD (keyD b) (keyD a) with
    | false => rfl
    | true => rw [ltD_asymm e]; rfl) bs
  exact this.imp fun h => by simpa using h
section
variable {X : Cx} {x y : Str} {e : Expr} {p p' pos pos' : Pos} {t : DTE}
end
end Dt
set_option maxRecDepth 100000
set_option maxHeartbeats 4000000
/-! DatX: y = [..] whose list is a value; ends of defs. -/
namespace Dt
open PySem PySem.Spec L2 PySem.W PyProof.Rows
theorem hu64 {A : Around} (h : A.units + 120 < cLine) : A.units + 64 < cLine := by omega
/-- what a def's body ends in -/
abbrev dEnd (Q : DK) (E : DXK) : DEnds := { nx := fun _ S' => Rt Q .non S', rt := Rt Q, xe := fun C fs _ S' => ∃ S'', Sub S'' S' ∧ E C fs S'' }
theorem fzK_at {X : Cx} {pins : List (Addr × Obj)} {σ : L2.St} {s : Shared} {S : DH} {H : Hp} {d : D} {v : V} {Q : DK} (I : Inv X pins σ H s) (r : Rep X.w X.K S H) (rd : RD X.K H d v) (h : fzK Q d S) :
    ∃ d' S' H', Inv X pins σ H' s ∧ LeH H H' ∧ Rep X.w X.K S' H' ∧ RD X.K H' d' v ∧ Q d' S' := by
  cases d with
  | ref a =>
    obtain rfl : v = .ref a := rd
    revert h
    show (match S a with | some (.lst ds) => _ | _ => False) → _
    split
    · rename_i ds ea
      intro h
      obtain ⟨xs, eh, rs⟩ : ∃ xs, H a = some (.lst xs) ∧ RDs X.K H ds xs := r a _ ea
      obtain ⟨o, I1⟩ := inv_frz I eh
      exact ⟨.rol ds, delo S a, _, I1, LeH.frz eh, rep_frz r eh, ⟨a, xs, rfl, .inl ⟨o, upd_same⟩, rs.le (LeH.frz eh)⟩, h⟩
    · exact fun h => h.elim
  | _ => exact ⟨_, S, H, I, LeH.refl H, r, rd, h⟩
section
variable {X : Cx} {tg iter elt : Expr} {ifs : List Expr} {scope : Scope} {own : List (Str × Nat)} {pos spos py : Pos} {ti : DTI} {g : DTG} {tt : DTT} {te : DTE}
theorem ds_setLcF {i : Nat} {y : Str} (hc : X.calm = true) (hN : X.N.Nodup) (hy : X.N[i]? = some y) (hyl : X.env.scope.names.lookup y = some .local)
    (hsw : swapsWith (.ListComp elt [⟨tg, iter, ifs, 0⟩] scope pos) (some (.Name y py)) spos.line X.env = pure true) (hi : DI X tg iter ti) (ok : BlkOk X.N X.env.scope scope own) (B : Blk X scope (own.map (·.2)) elt tg ifs g tt te)
    (hs : ∀ x, foldedSetIterable iter X.env x = pure x := by intro _; rfl) : DS X (.Assign [.Name y py] (.ListComp elt [⟨tg, iter, ifs, 0⟩] scope pos) spos) (dAsg (dFz (dLc ti g tt te (own.map (·.2)))) (dGN i)) := by
  have h0 := ds_setLc (g := g) (tt := tt) (te := te) hc hN hy hyl hsw hi ok B hs
  have m0 := dLc_mono hi B
  refine ⟨fun A B' τ S le q => m0 _ _ _ _ _ _ le.xe (fzK_mono fun _ _ z => le.nx _ _ z) q, ⟨fun pins s σ H D I ⟨E, τ, S, w, r, q⟩ => ?_⟩⟩
  have hlen : i < τ.length := by
    rw [r.st.len, I.len]
    exact (List.getElem?_eq_some_iff.mp hy).1
  refine PySem.wpAny_mono (h0.run.run pins s σ H { D with nx := fun σ' H' => ∃ τ' S' d, LeH H H' ∧ Rel X.w X.K τ' S' σ' H' ∧ τ' = τ.set i (some d) ∧ fzK (fun d S' => ∀ σ' H', LeH H H' → Rel X.w X.K (τ.set i (some d)) S' σ' H' → D.nx σ' H') d S' } I ⟨E, τ, S, w, r, ?_⟩) (fun fl s' hs => ?_) fun e s' hs => hs
  · exact m0 _ _ _ _ _ _ (fun _ _ _ _ z => z) (fun d S' z => show (dnE X.w X.K H _ E).nx _ _ from fun σ' H' le r' => ⟨_, S', d, le, r', rfl, z⟩) q
  · cases fl with
    | next =>
      obtain ⟨σ', H', J, τ', S', d, le, r', rfl, z⟩ := hs
      obtain ⟨v, ev, rv⟩ := r'.st.get i d (by rw [List.getElem?_set]; simp [hlen])
      obtain ⟨d', S2, H2, J2, le2, rp2, rd2, q2⟩ := fzK_at J r'.rep rv z
      refine ⟨σ', H2, J2, q2 σ' H2 (le.trans le2) ⟨⟨by simpa using r'.st.len, fun j e he => ?_⟩, rp2⟩⟩
      by_cases hj : i = j
      · subst hj
        rw [List.getElem?_set, if_pos rfl, if_pos hlen] at he
        cases he
        exact ⟨v, ev, rd2⟩
      · rw [List.getElem?_set, if_neg hj] at he
        obtain ⟨u, eu, ru⟩ := r'.st.get j e (by rw [List.getElem?_set, if_neg hj]; exact he)
        exact ⟨u, eu, ru.le le2⟩
    | ret u => exact hs
    | brk => exact hs
    | cont => exact hs
end
end Dt
set_option maxRecDepth 100000
set_option maxHeartbeats 4000000
/-! DatY: texts, cuts, names. -/
namespace Dt
open PySem PySem.Spec L2
section
variable {α : Type} {x y z : α} {xs : List α}
@[simp] theorem atI_0 : atI (x :: xs) 0 = some x := atI_nat (j := 0) rfl
@[simp] theorem atI_1 : atI (x :: y :: xs) 1 = some y := atI_nat (j := 1) rfl
@[simp] theorem atI_2 : atI (x :: y :: z :: xs) 2 = some z := atI_nat (j := 2) rfl
end
/-- a name -/
def Nm (y : Str) : Prop := 1 ≤ y.length ∧ y.length ≤ 8 ∧ ∀ c ∈ y.cps.toList, 97 ≤ c ∧ c ≤ 122
theorem Nm.pl {y : Str} (h : Nm y) : Pl 8 y := ⟨h.2.1, fun c hc => Nat.lt_of_le_of_lt (h.2.2 c hc).2 (by decide)⟩
@[simp] theorem cutD_drop (ds : List D) (k : Nat) : cutD ds (some (k : Int)) none = ds.drop k := by
  unfold cutD
  rw [HT.sIx_nat, HT.sIx_none]
  rcases Nat.le_total k ds.length with h | h
  · rw [Nat.min_eq_left h]
    exact List.take_of_length_le (by simp)
  · rw [Nat.min_eq_right h, List.drop_eq_nil_of_le (Nat.le_refl _), List.drop_eq_nil_of_le h]
    simp
@[simp] theorem cutD_take (ds : List D) (k : Nat) : cutD ds none (some (k : Int)) = ds.take k := by
  unfold cutD
  rw [HT.sIx_nat, HT.sIx_none, List.drop_zero, Nat.sub_zero]
  rcases Nat.le_total k ds.length with h | h
  · rw [Nat.min_eq_left h]
  · rw [Nat.min_eq_right h, List.take_of_length_le (Nat.le_refl _), List.take_of_length_le h]
theorem cutS_take (x : Str) (k : Nat) : (cutS x none (some (k : Int))).cps.toList = x.cps.toList.take k := by
  have e : x.length = x.cps.toList.length := by simp [Str.length]
  show (x.cps.toList.drop (HT.sIx x.length 0 none)).take (HT.sIx x.length x.length (some (k : Int)) - HT.sIx x.length 0 none) = _
  rw [HT.sIx_nat, HT.sIx_none, List.drop_zero, Nat.sub_zero, e]
  rcases Nat.le_total k x.cps.toList.length with h | h
  · rw [Nat.min_eq_left h]
  · rw [Nat.min_eq_right h, List.take_of_length_le (Nat.le_refl _), List.take_of_length_le h]
theorem cutS_mid (x : Str) (a b : Nat) (ha : a ≤ b) (hb : b ≤ x.cps.toList.length) : (cutS x (some (a : Int)) (some (b : Int))).cps.toList = (x.cps.toList.drop a).take (b - a) := by
  have e : x.length = x.cps.toList.length := by simp [Str.length]
  show (x.cps.toList.drop (HT.sIx x.length 0 (some (a : Int)))).take (HT.sIx x.length x.length (some (b : Int)) - HT.sIx x.length 0 (some (a : Int))) = _
  rw [HT.sIx_nat, HT.sIx_nat, e, Nat.min_eq_left (Nat.le_trans ha hb), Nat.min_eq_left hb]
theorem str_len (x : Str) : x.length = x.cps.toList.length := by simp [Str.length]
theorem app_tl (x y : Str) : (x ++ y).cps.toList = x.cps.toList ++ y.cps.toList := by
  show (x.cps ++ y.cps).toList = _
  rw [Array.toList_append]
/-- one sign each, joined -/
theorem join_one : ∀ ys : List Str, (∀ y ∈ ys, ∃ c, y = ⟨#[c]⟩ ∧ 97 ≤ c ∧ c ≤ 122) → (Txt.join (.ofString "") ys).cps.toList.length = ys.length ∧ ∀ c ∈ (Txt.join (.ofString "") ys).cps.toList, 97 ≤ c ∧ c ≤ 122 := fun ys h => by
  rw [show Txt.join (.ofString "") ys = Str.join (.ofString "") ys from PySem.StrLaws.glued_eq_join ..]
  exact go ys h
where
  go : ∀ ys : List Str, (∀ y ∈ ys, ∃ c, y = ⟨#[c]⟩ ∧ 97 ≤ c ∧ c ≤ 122) → (Str.join (.ofString "") ys).cps.toList.length = ys.length ∧ ∀ c ∈ (Str.join (.ofString "") ys).cps.toList, 97 ≤ c ∧ c ≤ 122
  | [], _ => ⟨rfl, fun c hc => by cases hc⟩
  | [x], h => by
    obtain ⟨c, rfl, h1, h2⟩ := h x (List.mem_cons_self ..)
    exact ⟨rfl, fun d hd => by rw [List.mem_singleton.mp hd]; exact ⟨h1, h2⟩⟩
  | x :: z :: r, h => by
    obtain ⟨k1, k2⟩ := go (z :: r) fun y hy => h y (List.mem_cons_of_mem _ hy)
    obtain ⟨c, rfl, h1, h2⟩ := h x (List.mem_cons_self ..)
    have e : (Str.join (.ofString "") (⟨#[c]⟩ :: z :: r)).cps.toList = c :: (Str.join (.ofString "") (z :: r)).cps.toList := by
      show ((⟨#[c]⟩ : Str) ++ (Str.ofString "") ++ Str.join (.ofString "") (z :: r)).cps.toList = _
      rw [app_tl, app_tl]
      rfl
    rw [e]
    exact ⟨by simpa using k1, fun d hd => by
      rcases List.mem_cons.mp hd with rfl | hd
      · exact ⟨h1, h2⟩
      · exact k2 d hd⟩
theorem letter_at (j : Nat) (h : j < 26) : (Str.ofString "abcdefghijklmnopqrstuvwxyz").cps.toList[j]? = some (97 + j) := by
  have : ∀ j : Fin 26, (Str.ofString "abcdefghijklmnopqrstuvwxyz").cps.toList[j.val]? = some (97 + j.val) := by decide +kernel
  exact this ⟨j, h⟩
theorem signs_apart (st : Nat) (h : st < 26) : ((List.range 8).map fun k => 97 + (st + 5 * k) % 26).Nodup := by
  have : ∀ st : Fin 26, ((List.range 8).map fun k => 97 + (st.val + 5 * k) % 26).Nodup := by decide +kernel
  exact this ⟨st, h⟩
theorem nodup_of_map {α β : Type} (f : α → β) {l : List α} (h : (l.map f).Nodup) : l.Nodup := List.Pairwise.of_map f (fun _ _ h e => h (congrArg f e)) h
@[simp] theorem cutD_drop1 (ds : List D) (k : Nat) : cutD ds (some ((k : Int) + 1)) none = ds.drop (k + 1) := cutD_drop ds (k + 1)
@[simp] theorem cutD_take1 (ds : List D) (k : Nat) : cutD ds none (some ((k : Int) + 1)) = ds.take (k + 1) := cutD_take ds (k + 1)
theorem dSeq_gen {a b : DTS} {A : DEnds} {τ : DSt} {S : DH} (h : ∀ R, R = b → dSeq a R A τ S) : dSeq a b A τ S := h b rfl
theorem dSeqIf_gen {c : DTT} {a b r : DTS} {A : DEnds} {τ : DSt} {S : DH} (h : ∀ R1 R2 R, R1 = a → R2 = b → R = r → dSeq (dIf c R1 R2) R A τ S) : dSeq (dIf c a b) r A τ S := h a b r rfl rfl rfl
theorem dFor_gen {ti : DTI} {g : DTG} {tb : DTS} {A : DEnds} {τ : DSt} {S : DH} (h : ∀ B, B = tb → dFor ti g B A τ S) : dFor ti g tb A τ S := h tb rfl
theorem dSeqFor_gen {ti : DTI} {g : DTG} {tb r : DTS} {A : DEnds} {τ : DSt} {S : DH} (h : ∀ B R, B = tb → R = r → dSeq (dFor ti g B) R A τ S) : dSeq (dFor ti g tb) r A τ S := h tb r rfl rfl
end Dt
set_option maxRecDepth 100000
set_option maxHeartbeats 4000000
/-! DatI: instances: o.f, o.f = e, C(..). -/
namespace Dt
open PySem PySem.Spec L2
/-- o.f -/
def dFldK (C : Addr) (f : Str) (Q : DK) : DK := fun d S1 => match d with
  | .ref a => (match S1 a with | some (.ins C' fs) => C' = C ∧ opt (fs.lookup f) fun v => Q v S1 | _ => False)
  | _ => False
@[simp] theorem dFldK_ref {C a : Addr} {f : Str} {Q : DK} {S : DH} : dFldK C f Q (.ref a) S = (match S a with | some (.ins C' fs) => C' = C ∧ opt (fs.lookup f) fun v => Q v S | _ => False) := rfl
@[simp] def dFld (C : Addr) (f : Str) (ta : DTE) : DTE := fun E τ S Q => ta E τ S (dFldK C f Q)
section
variable {X : Cx} {k : Nat} {f C : Addr} {fd : FuncData} {ps : List Str} {sp : DSp} {x m : Str} {p pos apos pos' : Pos} {e o value : Expr} {es : List Expr} {ta tv : DTE} {t : DTA}
/-- o.f = e -/
def putFD (f : Str) (v : D) : List (Str × D) → List (Str × D)
  | [] => [(f, v)]
  | (g, x) :: r => if g = f then (g, v) :: r else (g, x) :: putFD f v r
theorem RKs.len {κ : Type} {K : PySem.W.Frag} {H : Hp} : ∀ {fs : List (κ × D)} {ws : List (κ × V)}, RKs K H fs ws → fs.length = ws.length
  | [], _, h => by cases h; rfl
  | _ :: _, _, h => by
    obtain ⟨y, s, rfl, h1, h2⟩ := h
    rw [List.length_cons, List.length_cons, RKs.len h2]
def dPutFK (C : Addr) (f : Str) (y : D) (N : DH → Prop) : D → DH → Prop := fun d S2 => match d with
  | .ref a => (match S2 a with | some (.ins C' fs) => C' = C ∧ fs.length < 1000 ∧ N (upo S2 a (.ins C (putFD f y fs))) | _ => False)
  | _ => False
@[simp] theorem dPutFK_ref {C a : Addr} {f : Str} {y : D} {N : DH → Prop} {S : DH} : dPutFK C f y N (.ref a) S = (match S a with | some (.ins C' fs) => C' = C ∧ fs.length < 1000 ∧ N (upo S a (.ins C (putFD f y fs))) | _ => False) := rfl
@[simp] def dPutF (C : Addr) (f : Str) (ta tv : DTE) : DTS := fun A τ S => tv A.xe τ S fun y S1 => ta A.xe τ S1 (dPutFK C f y (A.nx τ))
/-- C(..) -/
@[simp] def dMake (C : Addr) (sp : DSp) (t : DTA) : DTE := fun E τ S Q => t E τ S fun ds S1 => ∀ x, S1 x = none → sp (.ref x :: ds) (upo S1 x (.ins C [])) (fun d S' => d = .non ∧ Q (.ref x) S') fun C fs S' => E C fs τ S'
end
end Dt
set_option maxRecDepth 100000
set_option maxHeartbeats 4000000
/-! DatJ: a dict's keys as a row: sorted(d), list(d); the methods of dicts. -/
namespace Dt
open PySem PySem.Spec L2 PySem.W PyProof.Rows
@[simp] def keysO (o : Ob) : Option (List D) := match o with
  | .dK kvs => some (kvs.map fun kv => keyD kv.1)
  | .dN kvs => some (kvs.map (·.1))
  | _ => none
@[simp] def keysD (S : DH) (d : D) : Option (List D) := match d with | .ref a => (S a).bind keysO | _ => none
section
variable {X : Cx} {pins : List (Addr × Obj)} {σ : L2.St} {H : Hp} {s : Shared} {a : Addr}
theorem pairs_vals {P : Program} {w : World} : ∀ {es : List DictEntry} {vs : List (Key × Value)}, Pairs (mixKind P w) es vs → Vals (vs.map fun p => kV p.1) (es.map (·.key))
  | _, _, .nil => .nil
  | _, _, .cons h1 h2 t => by
    rw [List.map_cons, List.map_cons]
    refine .cons ?_ (pairs_vals t)
    rcases keyIs_shape h1 with ⟨i, t, ek, ev⟩ | ⟨z, t, ek, ev⟩
    · rw [ek, ev]; exact ⟨t, rfl⟩
    · rw [ek, ev]; exact ⟨t, rfl⟩
theorem keys_raw (I : Inv X pins σ H s) {ob : Ob} {ks : List D} (r : ROb X.w X.K H a ob) (e : keysO ob = some ks) :
    ∃ es ep xs, s.heap.DictRaw a es ep ∧ (a == sysModules) = false ∧ es.size ≤ sizeLine ∧ Vals xs (es.toList.map (·.key)) ∧ RDs X.K H ks xs := by
  cases ob with
  | dK kvs =>
    cases e
    obtain ⟨ws, e0, rk⟩ : ∃ ws, H a = some (.dK ws) ∧ RKs X.K H kvs ws := r
    obtain ⟨z, lo, vs, kv, o, es, ep, h1, h2, h3, h4, h5, h6⟩ := dk_of I.hok e0
    have hl : kvs.length = ws.length := rk.length
    have hl2 : ws.length = vs.length := Paired.length kv
    have hl3 : es.toList.length = vs.length := h5.length
    have e1 : (kvs.map fun q => keyD q.1) = (vs.map fun p => p.1).map keyD := by
      have go : ∀ {kvs : List (Key × D)} {ws : List (Key × V)} {vs : List (Key × Value)}, RKs X.K H kvs ws → KV ws vs → (kvs.map fun q => keyD q.1) = (vs.map fun p => p.1).map keyD := by
        intro kvs
        induction kvs with
        | nil => intro ws vs r k; cases r; cases k; rfl
        | cons q kvs ih =>
          intro ws vs r k
          obtain ⟨v, s', rfl, _, r2⟩ := r
          cases k with
          | cons a b => rw [List.map_cons, List.map_cons, List.map_cons, ih r2 b, ← a.1]
      exact go rk kv
    refine ⟨es, ep, _, ⟨o, h1, h2, h3⟩, lo, by simp at hl3; omega, pairs_vals h5, ?_⟩
    rw [e1]
    have e2 : (vs.map fun p => kV p.1) = (vs.map fun p => p.1).map kV := by rw [List.map_map]; rfl
    rw [e2]
    exact keys_rds _
  | dN kvs =>
    cases e
    obtain ⟨xs, ⟨o, es, ep, h1, h2, h3, h4, h5, h6⟩, rx, hs, hz, _⟩ := dn_open I r
    have go : ∀ {kvs : List (D × D)} {xs : List (NestedKey × Addr × Value)}, RX X.K H kvs xs → ∃ ys, Vals ys (xs.map fun x => Value.ref x.2.1) ∧ RDs X.K H (kvs.map (·.1)) ys := by
      intro kvs
      induction kvs with
      | nil => intro xs r; cases r; exact ⟨[], .nil, .nil⟩
      | cons q kvs ih =>
        intro xs r
        obtain ⟨nk, b, u, s', rfl, ⟨_, _, r1, _⟩, r2⟩ := r
        obtain ⟨ys, g1, g2⟩ := ih r2
        exact ⟨.ref b :: ys, .cons rfl g1, RDs.cons r1 g2⟩
    obtain ⟨ys, g1, g2⟩ := go rx
    have hl : es.size = xs.length := by
      have := congrArg List.length h4
      simpa using this
    refine ⟨es, ep, ys, ⟨o, h1, h2, h3⟩, hs, by rw [hl, ← rx.length]; exact hz, ?_, g2⟩
    rw [h4, List.map_map]
    exact g1
  | lst ds => cases e
  | ins C fs => cases e
  | exc _ _ => cases e
  | xd _ => cases e
  | ex0 _ => cases e
  | ex1 _ _ => cases e
  | xm _ => cases e
  | fK _ => cases e
  | fN _ => cases e
theorem items_keys {es : Array DictEntry} {acc : Array Value} (h : ItemsOf (fun i v => ∃ hi : i < es.size, v = es[i].key) acc es.size) : acc.toList = es.toList.map (·.key) := by
  obtain ⟨h1, h2⟩ := h
  refine List.ext_getElem? fun i => ?_
  rw [List.getElem?_map, Array.getElem?_toList, Array.getElem?_toList]
  cases e : acc[i]? with
  | none =>
    have : es.size ≤ i := by
      have := Array.getElem?_eq_none_iff.mp e
      omega
    rw [Array.getElem?_eq_none_iff.mpr this]
    rfl
  | some v =>
    obtain ⟨hi, ev⟩ := h2 i v e
    rw [Array.getElem?_eq_getElem hi, ev]
    rfl
end
/-! ### sorted of a sequence, of a dict -/
@[simp] def cSortA : RCD := fun ds S Q => match ds with
  | [d] => (opt (seqD S d) fun xs => cSrt xs fun ys => newO S (.lst ys) fun p S' => Q (.ref p) S') ∨ (opt (keysD S d) fun xs => cSrt xs fun ys => newO S (.lst ys) fun p S' => Q (.ref p) S')
  | _ => False
@[simp] def cSortAF : RCD := fun ds S Q => match ds with
  | [d] => (opt (seqD S d) fun xs => cSrt xs fun ys => Q (.rol ys) S) ∨ (opt (keysD S d) fun xs => cSrt xs fun ys => Q (.rol ys) S)
  | _ => False
theorem keysD_ex {S : DH} {d : D} {ks : List D} (h : keysD S d = some ks) : ∃ a ob, d = .ref a ∧ S a = some ob ∧ keysO ob = some ks := by
  cases d <;> first | (cases h; done) | skip
  rename_i a
  show ∃ a' ob, _
  have h' : (S a).bind keysO = some ks := h
  cases e : S a with
  | none => rw [e] at h'; cases h'
  | some ob => rw [e] at h'; exact ⟨a, ob, rfl, e, h'⟩
section
variable {X : Cx}
/-! ### list of a sequence, of a dict -/
@[simp] def cListA : RCD := fun ds S Q => match ds with
  | [d] => cList [d] S Q ∨ (opt (keysD S d) fun ys => newO S (.lst ys) fun p S' => Q (.ref p) S')
  | _ => False
@[simp] def cListAF : RCD := fun ds S Q => match ds with
  | [d] => cListF [d] S Q ∨ (opt (keysD S d) fun ys => Q (.rol ys) S)
  | _ => False
theorem cd_listA (hc : X.calm = true) : CallD X (.type "list") cListA := by
  refine ⟨fun ds S Q Q' k h => ?_, fun pins s σ H vs us Q I rv ⟨ds, S, rep, rd, h⟩ => ?_⟩
  · match ds, h with
    | [d], h => exact h.imp ((cd_list (X := X)).mono _ _ _ _ k) (opt_mono (fun _ h => fun p hp => k _ _ (h p hp)))
  · match ds, h with
    | [d], .inl h => exact cd_list.run pins s σ H vs us Q I rv ⟨[d], S, rep, rd, h⟩
    | [d], .inr h =>
      obtain ⟨ks, e, hQ⟩ := opt_ex h
      obtain ⟨a, ob, rfl, ea, ek⟩ := keysD_ex e
      obtain ⟨v, rfl, r⟩ := rds1 rd
      cases r
      rw [Vals.ref1 rv]
      obtain ⟨es, ep, xs, dr, lo, hz, vx, rx⟩ := keys_raw I (rep a ob ea) ek
      refine kdl_call (KdlSrc.rawDict lo) (I.ok.hd hc) dr hz fun h' tk acc c' hk hD hacc => ?_
      have eacc := items_keys hacc
      have hn : H s.heap.objs.size = none := I.hok.fresh (Nat.le_refl _)
      have le : LeH H (upd H s.heap.objs.size (.lst xs)) := LeH.new hn
      rw [← eacc] at vx
      have hyl : xs.length ≤ sizeLine := by rw [vx.length, Array.length_toList, hacc.1]; exact hz
      exact ⟨.ref s.heap.objs.size, upd H s.heap.objs.size (.lst xs), I.laid (t' := tk) hk (Nat.le_refl _) ⟨hyl, acc.toList, c', vx, by rw [Array.toArray_toList]; exact hD⟩, rfl,
        hQ s.heap.objs.size (rep.free hn) _ _ le (rep.new hn ⟨xs, upd_same, rx.le le⟩) rfl⟩
theorem cd_listAF (hc : X.calm = true) : CallD X (.type "list") cListAF := (cd_fz (cd_listA hc)).sub (fun ds S Q Q' k h => by
    unfold cListAF at h ⊢
    split at h
    · exact h.imp ((cd_listF (X := X)).mono _ _ _ _ k) (opt_mono (fun _ h => k _ _ h))
    · exact h) fun ds S Q h => by
    unfold cListAF at h
    unfold cFz cListA
    split at h
    · rename_i d
      refine h.imp (fun z => ?_) (opt_mono (fun _ h => fun p hp => fzK_new hp h))
      unfold cListF at z
      unfold cList
      split at z
      · rename_i e; cases e; exact fun p hp => fzK_new hp z
      · rename_i d' _ e
        cases e
        obtain ⟨xs, e, q⟩ := opt_ex z
        clear z
        cases d with
        | rol ys => cases e; exact fun p hp => fzK_new hp q
        | ref a =>
          revert e
          show (match S a with | some (.lst xs) => some xs | _ => none) = some xs → (match S a with | some (.lst xs) => _ | _ => False)
          split
          · intro e; cases e; exact fun p hp => fzK_new hp q
          · intro e; cases e
        | _ => cases e
      · exact z.elim
    · exact h
end
/-! ### get, pop, setdefault of dicts -/
@[simp] def lkO (ob : Ob) (k : D) : Option (Option D) := match ob with
  | .dK kvs => (dkey k).map fun kk => lk kvs kk
  | .dN kvs => if okT k = true then some (lk kvs k) else none
  | _ => none
@[simp] def drO (ob : Ob) (k : D) : Option Ob := match ob with
  | .dK kvs => (dkey k).map fun kk => .dK (dr kvs kk)
  | .dN kvs => if okT k = true then some (.dN (dr kvs k)) else none
  | _ => none
@[simp] def mDGet : RMD := fun d ds S Q => match d with
  | .ref a => opt (S a) fun ob => match ds with
    | [k] => opt (lkO ob k) fun o => Q (o.getD .non) S
    | [k, x] => opt (lkO ob k) fun o => Q (o.getD x) S
    | _ => False
  | _ => False
@[simp] def mDPop : RMD := fun d ds S Q => match d with
  | .ref a => opt (S a) fun ob => match ds with
    | [k] => opt (lkO ob k) fun o => opt o fun x => opt (drO ob k) fun ob' => Q x (upo S a ob')
    | [k, x] => opt (lkO ob k) fun o => (match o with | some y => opt (drO ob k) fun ob' => Q y (upo S a ob') | none => Q x S)
    | _ => False
  | _ => False
@[simp] def mDSet : RMD := fun d ds S Q => match d with
  | .ref a => opt (S a) fun ob => match ds with
    | [k, x] => opt (lkO ob k) fun o => (match o with | some y => Q y S | none => opt (putO ob k x) fun ob' => Q x (upo S a ob'))
    | _ => False
  | _ => False
section
variable {X : Cx} {pins : List (Addr × Obj)} {σ : L2.St} {H : Hp} {s : Shared} {a : Addr}
end
/-! ### a, b = a tuple or a list -/
@[simp] def dGTupA (n : Nat) (t : DTGs) : DTG := fun d τ S Q => match d with
  | .tup ds => ds.length = n ∧ t ds τ S Q
  | d => opt (seqD S d) fun ds => ds.length = n ∧ t ds τ S Q
section
variable {X : Cx} {pos : Pos} {ts : DTGs}
theorem dg_tupA {es : List Expr} {k : Nat} {n : Nat} (hc : X.calm = true) (h : DGs X es ts) (hn : (assignEach es X.env).length = n := by rfl) (hst : (assignEach es X.env).findIdx? (·.1) = none := by rfl) : DG X (.Tuple es k pos) (dGTupA n ts) := by
  have two : PG X (.Tuple es k pos) fun v σ H Q => gTup X.K n (upGs X ts) v σ H Q ∨ gLst X.K n (upGs X ts) v σ H Q :=
    ⟨fun pins s σ H v u Q I r q => q.elim ((pg_tup hc h.run hn hst).run pins s σ H v u Q I r) ((pg_lst hc h.run hn hst).run pins s σ H v u Q I r)⟩
  refine ⟨fun d τ S Q Q' k q => ?_, pG_imp two fun v σ H Q ⟨d, τ, S, r, rd, q⟩ => ?_⟩
  · have o : ∀ d : D, (opt (seqD S d) fun ds => ds.length = n ∧ ts ds τ S Q) → (opt (seqD S d) fun ds => ds.length = n ∧ ts ds τ S Q') := fun d q => opt_mono (fun _ q => ⟨q.1, h.mono _ _ _ _ _ k q.2⟩) q
    cases d with
    | tup ds => exact ⟨q.1, h.mono _ _ _ _ _ k q.2⟩
    | non => exact o .non q
    | bl b => exact o (.bl b) q
    | int b => exact o (.int b) q
    | str b => exact o (.str b) q
    | rol b => exact o (.rol b) q
    | ref b => exact o (.ref b) q
  · have lst : ∀ {d : D}, RD X.K H d v → (opt (seqD S d) fun ds => ds.length = n ∧ ts ds τ S fun τ' S' => ∀ σ' H', LeH H H' → Rel X.w X.K τ' S' σ' H' → Q σ' H') → gLst X.K n (upGs X ts) v σ H Q := fun rd q => by
      obtain ⟨ds, e, q⟩ := opt_ex q
      obtain ⟨a, xs, rfl, sq, rs⟩ := seqD_rd r.rep rd e
      exact ⟨a, xs, rfl, sq.l, by rw [← rs.length]; exact q.1, ds, τ, S, r, rs, q.2⟩
    cases d with
    | tup ds =>
      obtain ⟨p, xs, rfl, sq, rds⟩ : ∃ p xs, v = V.ref p ∧ SqTn X.K H p xs ∧ RDs X.K H ds xs := rd
      exact .inl ⟨p, xs, rfl, sq, by rw [← rds.length]; exact q.1, ds, τ, S, r, rds, q.2⟩
    | non => exact .inr (lst rd q)
    | bl _ => exact .inr (lst rd q)
    | int _ => exact .inr (lst rd q)
    | str _ => exact .inr (lst rd q)
    | rol _ => exact .inr (lst rd q)
    | ref _ => exact .inr (lst rd q)
end
end Dt
set_option maxRecDepth 100000
set_option maxHeartbeats 4000000
/-! DatK: set(t) of a tuple, sorted(set(t)). -/
namespace Dt
open PySem PySem.Spec L2 PySem.W PyProof.Rows
section
variable {P : Program} {w : World} {A : Around} {E : Value → Shared → Prop} {s : Shared} {a : Addr} {ks : List Key}
set_option maxHeartbeats 8000000 in
/-- set(xs): ints and texts -/
theorem call_ksT {l : Addr} {items : Array Value} {all : List Key} {Q : Value → Shared → Prop} (hh : A.handled = none) (hl : s.heap.IsTuple l items) (hit : EachIs (fun v k => keyIs k v = true) items.toList all) (hb : all.length + 1 < scanBound)
    (h : ∀ (h' : Heap) (tk : Nat), SetKs w h' s.heap.objs.size (firstK all) → (∀ b o, b < s.heap.objs.size → s.heap.get? b = some o → h'.get? b = some o) → Q (.ref s.heap.objs.size) { s with heap := h', toks := tk }) :
    wpAny (model P w) A (call (.type "set") [.ref l]) Q E s := by
  have hn : items.size = all.length := by rw [← Array.length_toList, hit.length]
  obtain ⟨c, tl, hmro⟩ := F.called_set.mro
  have hmade := F.called_set.made; have hsub := F.called_set.sub
  refine wpAny_call (codeAny_of_tree (show wpAny _ _ (callAny (.type "set") _) _ _ _ from wpAny_pure ⟨Code.quiet_builtin _ (by decide +kernel), codeAny_builtin F.entry_type_call ?_⟩))
  rw [Around.under_plain (weight_type_call_type "set" [.ref l] []) rfl]
  have h1 := F.called_set.notType; have h2 := F.called_set.canCreate; have hct := F.typeCall_set_1 (.ref l)
  repeat (any_goals (first | assumption | wp_step))
  refine codeAny_mono (code_set_led1 (.ref l) (E := E) (Q₁ := fun obj s₁ => obj = .ref s.heap.objs.size ∧ s₁ = { s with heap := s.heap.push (newSet w) }) ⟨rfl, rfl⟩) fun r s₁ hr => ?_
  match r, hr with
  | .error e, hr => exact hr
  | .ok .next, hr => exact hr.elim
  | .ok .brk, hr => exact hr.elim
  | .ok .cont, hr => exact hr.elim
  | .ok (.ret obj), ⟨e1, e2⟩ =>
    subst e1; subst e2
    have hS : (s.heap.push (newSet w)).get? s.heap.objs.size = some (newSet w) := Heap.get?_push_size _ rfl
    have hT : Shared.TypeIs { s with heap := s.heap.push (newSet w) } (.ref s.heap.objs.size) "set" := ⟨_, hS, rfl⟩
    have hli := F.called_set.init.lookup; have hbi := F.called_set.init.bind (.ref s.heap.objs.size)
    repeat (any_goals (first | assumption | wp_step))
    refine codeAny_mono (codeAny_call_builtin (R := wants (fun r s₂ => r = .none ∧ ∃ h' tk, s₂ = { s with heap := h', toks := tk } ∧ SetKs w h' s.heap.objs.size (firstK all) ∧ ∀ b o, b < s.heap.objs.size → s.heap.get? b = some o → h'.get? b = some o) E) F.called_set.init.plain F.entry_set_init (check_set_init_1 hT ?_)) fun r₂ s₂ hr₂ => ?_
    · obtain ⟨⟨ocls, odict, odata, oslots⟩, hol, hcl, nl, hdl⟩ := hl
      simp only at hcl hdl
      subst hcl; subst hdl
      have hol' : (s.heap.push (newSet w)).get? l = some { cls := .type "tuple", dict := odict, data := .seq items nl, slots := oslots } := Heap.get?_push_of_some _ hol
      have hsls := F.sub_tuple_set; have hslf := F.sub_tuple_frozenset; have hne : (Value.type "tuple" == Value.type "dict") = false := by decide
      have hl1 : (s.heap.push (newSet w)).IsTuple l items := ⟨_, hol', rfl, nl, rfl⟩
      unfold Builtin.«set.__init__» noKeywords Builtin.Frozenset.updateFrom
      (generalize hPI : pyIter = PI; wp_walk; subst hPI)
      refine wpAny_pyIter_tuple hl1 (wpAny_bind (wpAny_runValue ?_))
      have hlS : l < s.heap.objs.size := Heap.lt_size hol
      have hh3 : A.in1.in1.in1.handled = none := by simp [hh]
      have hz : (s.heap.push (newSet w)).objs.size = s.heap.objs.size + 1 := Heap.size_push ..
      have hneI : l ≠ (s.heap.push (newSet w)).objs.size := fun z => absurd hlS (by rw [z, Heap.size_push]; exact Nat.not_lt_of_le (Nat.le_succ _))
      have hSf : s.heap.objs.size ∉ [(s.heap.push (newSet w)).objs.size, l] := by
        rw [Heap.size_push]
        simp only [List.mem_cons, List.not_mem_nil, or_false, not_or]
        exact ⟨fun z => absurd z (Nat.ne_of_lt (Nat.lt_succ_self _)), fun z => absurd hlS (by rw [← z]; exact Nat.lt_irrefl _)⟩
      have hval : ∀ (i : Nat) (v : Value), items[i]? = some v → ∃ k, all[i]? = some k ∧ keyIs k v = true := fun i v hv => by
        rw [← Array.getElem?_toList] at hv
        exact each_get hit hv
      refine ks_loop (B := s.heap.objs.size) (all := all) ((Walks.tuple hh3 _ l hneI items).toS) hSf hn hval (by omega) (fun s' s0 hm hS' e0 => ?_) (items.size - 0) 0 _ (by omega) (Nat.zero_le _) ⟨⟨_, Heap.get?_push_size _ rfl, rfl, rfl⟩, (hl1.push _)⟩ (ks_none (Heap.get?_push_of_some _ hS)) (fun _ z => z)
      subst e0
      obtain ⟨h', g', d', tk', os'⟩ := s'
      have eg : g' = s.gens := hm.gens
      have ed : d' = s.drawn := hm.drawn
      have eo : os' = s.os := hm.os
      subst eg; subst ed; subst eo
      refine (show wpAny _ _ _ _ _ _ from wpAny_pure (show wpAny _ _ (ret Value.none) _ _ _ from wpAny_pure ⟨rfl, h', tk', rfl, hS', fun b o hb e => ?_⟩))
      exact hm.heap b o (by rw [Heap.size_push]; simp only [List.mem_cons, List.not_mem_nil, or_false, not_or]; exact ⟨Nat.ne_of_lt hb, Nat.ne_of_lt (Nat.lt_succ_of_lt hb)⟩) (Heap.get?_push_of_some _ (Heap.get?_push_of_some _ e))
    · match r₂, hr₂ with
      | .error e, hr₂ => exact hr₂
      | .ok .next, hr₂ => exact hr₂.elim
      | .ok .brk, hr₂ => exact hr₂.elim
      | .ok .cont, hr₂ => exact hr₂.elim
      | .ok (.ret r), ⟨e1, h', tk, e2, hS', hk'⟩ =>
        subst e1; subst e2
        repeat (any_goals (first | assumption | wp_step))
        exact h _ _ hS' hk'
end
end Dt

namespace Dt
open PySem PySem.Spec L2 PySem.W PyProof.Rows
/-- the row of a tuple or a list -/
def rowD (S : DH) (d : D) : Option (List D) := match d with | .tup xs => some xs | d => seqD S d
@[simp] theorem rowD_tup (S : DH) (xs : List D) : rowD S (.tup xs) = some xs := rfl
@[simp] theorem rowD_rol (S : DH) (xs : List D) : rowD S (.rol xs) = some xs := rfl
@[simp] theorem rowD_ref (S : DH) (a : Addr) : rowD S (.ref a) = (match S a with | some (.lst xs) => some xs | _ => none) := rfl
section
variable {X : Cx}
def rSetKsA (K : PySem.W.Frag) (w : World) : List V → Hp → VK → Prop := fun vs H Q => ∃ (a : Addr) (all : List Key), vs = [.ref a] ∧ (SqL K H a (all.map kV) ∨ SqT K H a (all.map kV)) ∧ all.length + 1 < scanBound ∧ ∀ p, H p = none → Q (.ref p) (upd H p (setHO w p (firstK all)))
theorem cr_setKsA (hc : X.calm = true) : CallR X (.type "set") (rSetKsA X.K X.w) := by
  intro pins s σ H vs us Q I r ⟨a, all, e, sq, hb, q⟩
  subst e
  rcases sq with sq | sq
  · exact cr_setKs hc pins s σ H _ us Q I r ⟨a, all, rfl, sq, hb, q⟩
  · obtain ⟨its, rv, hl, hz⟩ := I.tuple sq
    rw [Vals.ref1 r]
    refine call_ksT (I.ok.hd hc) (show s.heap.IsTuple a its.toArray from hl) (by simpa using each_keyV X.prog X.w rv) hb fun h' tk S k => ?_
    exact ⟨.ref _, upd H s.heap.objs.size (setHO X.w s.heap.objs.size (firstK all)), I.laid (t' := tk) (fun b u e => k b u (Heap.lt_size e) e) (Nat.le_refl _) (setHO_ok S), rfl, q _ (I.hok.fresh (Nat.le_refl _))⟩
variable {x y : Str} {e : Expr} {p p' pos pos' : Pos} {t : DTE}
@[simp] def dSortSetA (t : DTE) : DTE := fun E τ S Q => t E τ S fun d S1 => opt (rowD S1 d) fun xs => (∃ b, ∀ d ∈ xs, hasTy (scTy b) d = true) ∧ xs.length + 1 < scanBound ∧ newO S1 (.lst (ssD xs)) fun p S' => Q (.ref p) S'
@[simp] def dSortSetAF (t : DTE) : DTE := fun E τ S Q => t E τ S fun d S1 => opt (rowD S1 d) fun xs => (∃ b, ∀ d ∈ xs, hasTy (scTy b) d = true) ∧ xs.length + 1 < scanBound ∧ Q (.rol (ssD xs)) S1
theorem de_sortSetA (hc : X.calm = true) (hu : X.A.units + 64 < cLine) (hgs : Gl X "sorted") (hms : X.mg "sorted" = none) (hgt : Gl X "set") (hmt : X.mg "set" = none) (hbs : bootBuiltins "sorted" = some (.builtin "sorted")) (hbt : bootBuiltins "set" = some (.type "set")) (he : DE X e t)
    (h1 : starEach [e] X.env = (false, eval e X.env) :: starEach [] X.env := by rfl) (h2 : starEach [Expr.Call (.Name "set" p') [e] [] pos'] X.env = (false, eval (Expr.Call (.Name "set" p') [e] [] pos') X.env) :: starEach [] X.env := by rfl) :
    DE X (.Call (.Name "sorted" p) [.Call (.Name "set" p') [e] [] pos'] [] pos) (dSortSetA t) := by
  refine ⟨fun E E' τ S Q Q' hE k q => he.mono _ _ _ _ _ _ hE (fun d S1 q => opt_mono (fun _ q => ⟨q.1, q.2.1, fun p hp => k _ _ (q.2.2 p hp)⟩) q) q, pE_imp (pe_callB (cr_sortKs hc hu) hgs hms hbs (pa_cons (pe_callTy (cr_setKsA hc) hgt hmt hbt (pa_cons he.run pa_nil h1) (by decide) (by decide) h1 rfl) pa_nil h2) (by decide) (by decide) h2 rfl) fun σ H Q ⟨E, τ, S, w, rl, q⟩ => ?_⟩
  refine he.to w rl q fun d S1 v H1 le w1 r1 rd q => ?_
  obtain ⟨xs, ex, ⟨b, hb⟩, hl, q⟩ := opt_ex q
  have ht : scTy b = .int ∨ scTy b = .str := by cases b; exact .inr rfl; exact .inl rfl
  obtain ⟨all, rfl⟩ := keys_of ht hb
  have hal : AllAlike (all.map keyP) := fun p hp q hq => by
    obtain ⟨j, hj, rfl⟩ := List.mem_map.mp hp
    obtain ⟨k, hk, rfl⟩ := List.mem_map.mp hq
    rw [keyP_D, keyP_D]
    exact hasTy_alike _ _ _ (hb _ (List.mem_map_of_mem hj)) (hb _ (List.mem_map_of_mem hk))
  obtain ⟨a, rfl, sq⟩ : ∃ a, v = .ref a ∧ (SqL X.K H1 a (all.map kV) ∨ SqT X.K H1 a (all.map kV)) := by
    cases d with
    | tup ds =>
      cases ex
      obtain ⟨a, ys, rfl, sq, rs⟩ : ∃ a ys, v = V.ref a ∧ SqTn X.K H1 a ys ∧ RDs X.K H1 (all.map keyD) ys := rd
      exact ⟨a, rfl, .inr (rds_keys rs ▸ sq)⟩
    | rol ds =>
      cases ex
      obtain ⟨a, ys, rfl, sq, rs⟩ : ∃ a ys, v = V.ref a ∧ SqR X.K H1 a ys ∧ RDs X.K H1 (all.map keyD) ys := rd
      exact ⟨a, rfl, .inl (rds_keys rs ▸ sq.l)⟩
    | ref a =>
      simp only [rowD_ref] at ex
      split at ex
      · rename_i ys ea
        cases ex
        obtain ⟨zs, e0, rs⟩ : ∃ zs, H1 a = some (.lst zs) ∧ RDs X.K H1 (all.map keyD) zs := r1.rep a _ ea
        exact ⟨a, rd, .inl (rds_keys rs ▸ .of e0)⟩
      · cases ex
    | non => cases ex
    | bl _ => cases ex
    | int _ => cases ex
    | str _ => cases ex
  refine ⟨a, all, rfl, sq, by simpa using hl, fun p hp => ⟨p, firstK all, rfl, upd_same, alike_first hal, fun bs pb q' hq => ?_⟩⟩
  have rg := r1.rep.garb (u := setHO X.w p (firstK all)) hp
  have e : (bs.mergeSort (dataLe false keyP)).map keyD = ssD (all.map keyD) := by
    refine (ss_is (t := scTy b) hb (nodup_mapD ((List.mergeSort_perm ..).nodup_iff.mpr (pb.nodup_iff.mpr (first_nodup all)))) (key_sorted (t := .int)) fun x => ?_).symm
    rw [List.mem_map, List.mem_map]
    constructor
    · rintro ⟨k, hk, rfl⟩
      exact ⟨k, (List.mergeSort_perm ..).mem_iff.mpr (pb.mem_iff.mpr (first_mem.mpr hk)), rfl⟩
    · rintro ⟨k, hk, rfl⟩
      exact ⟨k, first_mem.mp (pb.mem_iff.mp ((List.mergeSort_perm ..).mem_iff.mp hk)), rfl⟩
  exact q q' (rg.free hq) _ _ (le.trans ((LeH.new hp).trans (LeH.new hq))) (rg.new hq ⟨_, upd_same, by rw [← e]; exact keys_rds _⟩) rfl
theorem de_sortSetAF (hc : X.calm = true) (hu : X.A.units + 64 < cLine) (hgs : Gl X "sorted") (hms : X.mg "sorted" = none) (hgt : Gl X "set") (hmt : X.mg "set" = none) (hbs : bootBuiltins "sorted" = some (.builtin "sorted")) (hbt : bootBuiltins "set" = some (.type "set")) (he : DE X e t)
    (h1 : starEach [e] X.env = (false, eval e X.env) :: starEach [] X.env := by rfl) (h2 : starEach [Expr.Call (.Name "set" p') [e] [] pos'] X.env = (false, eval (Expr.Call (.Name "set" p') [e] [] pos') X.env) :: starEach [] X.env := by rfl) :
    DE X (.Call (.Name "sorted" p) [.Call (.Name "set" p') [e] [] pos'] [] pos) (dSortSetAF t) :=
  (de_fz (de_sortSetA hc hu hgs hms hgt hmt hbs hbt he h1 h2)).sub (fun E E' τ S Q Q' hE k q => he.mono _ _ _ _ _ _ hE (fun d S1 q => opt_mono (fun _ q => ⟨q.1, q.2.1, k _ _ q.2.2⟩) q) q) fun E τ S Q q => he.mono _ _ _ _ _ _ (fun _ _ _ _ z => z) (fun d S1 q => opt_mono (fun _ q => ⟨q.1, q.2.1, fun p hp => fzK_new hp q.2.2⟩) q) q
end
end Dt
set_option maxRecDepth 100000
set_option maxHeartbeats 4000000
/-! DatZ: what repr takes; patterns as trees. -/
namespace Dt
open PySem PySem.Spec L2
/-! ### repr -/
mutual
/-- may be shown -/
def rp : D → Bool
  | .non => true
  | .bl _ => true
  | .int i => decide (i.natAbs.log2 < 1920) && decide ((PyData.shown (.int i)).length ≤ 13)
  | .str x => PyData.strOk x
  | .tup ds => rps ds
  | .rol ds => rps ds
  | .ref _ => false
def rps : List D → Bool
  | [] => true
  | d :: ds => rp d && rps ds
end
mutual
def wgt : D → Nat
  | .str x => x.length
  | .int i => i.natAbs.log2 + 1
  | .tup ds => wgts ds
  | .rol ds => wgts ds
  | _ => 0
def wgts : List D → Nat
  | [] => 0
  | d :: ds => wgt d + 1 + wgts ds
end
mutual
theorem rp_show : ∀ d : D, rp d = true → imm d = true ∧ (toP d).showable = true ∧ (toP d).leavesShort 13 = true ∧ (toP d).weight ≤ wgt d
  | .non, _ => ⟨rfl, rfl, rfl, Nat.le_refl _⟩
  | .bl _, _ => ⟨rfl, rfl, rfl, Nat.le_refl _⟩
  | .int i, h => by
    simp only [rp, Bool.and_eq_true, decide_eq_true_eq] at h
    refine ⟨rfl, by simpa [toP, PyData.showable] using h.1, by simpa [toP, PyData.leavesShort] using h.2, ?_⟩
    show (if (i == 0) = true then 0 else i.natAbs.log2 + 1) ≤ _
    split
    · exact Nat.zero_le _
    · exact Nat.le_refl _
  | .str x, h => by
    refine ⟨rfl, rfl, ?_, Nat.le_refl _⟩
    show (x.cps.toList.all fun c => decide (c < 16 ^ 8)) = true
    have h' : x.cps.all (· < 0x110000) = true := h
    rw [← Array.all_toList, List.all_eq_true] at h'
    rw [List.all_eq_true]
    exact fun c hc => decide_eq_true (Nat.lt_trans (of_decide_eq_true (h' c hc)) (by decide))
  | .tup ds, h => rps_show ds h
  | .rol ds, h => rps_show ds h
theorem rps_show : ∀ ds : List D, rps ds = true → imms ds = true ∧ PyData.showableAll (toPs ds) = true ∧ PyData.leavesShortAll 13 (toPs ds) = true ∧ PyData.weightAll (toPs ds) ≤ wgts ds
  | [], _ => ⟨rfl, rfl, rfl, Nat.le_refl _⟩
  | d :: ds, h => by
    have h' : (rp d && rps ds) = true := h
    rw [Bool.and_eq_true] at h'
    obtain ⟨a1, a2, a3, a4⟩ := rp_show d h'.1
    obtain ⟨b1, b2, b3, b4⟩ := rps_show ds h'.2
    refine ⟨?_, ?_, ?_, ?_⟩
    · show (imm d && imms ds) = true
      rw [a1, b1]; rfl
    · show ((toP d).showable && PyData.showableAll (toPs ds)) = true
      rw [a2, b2]; rfl
    · show ((toP d).leavesShort 13 && PyData.leavesShortAll 13 (toPs ds)) = true
      rw [a3, b3]; rfl
    · show (toP d).weight + 1 + PyData.weightAll (toPs ds) ≤ wgt d + 1 + wgts ds
      omega
end
structure Rp (d : D) : Prop where
  rp : rp d = true
  w : wgt d ≤ 2 ^ 20
  d : dep d ≤ 100
mutual
theorem Vw.pd {S : DH} {F : List Addr} : ∀ {d e : D}, Vw S F d e → imm e = true → Pd S d (toP e)
  | _, _, .same d, h => imm_pd S d h
  | _, _, .lst h1 _ h3, h => .lst h1 (Vws.pd h3 h)
  | _, _, .tup hs, h => .tup (Vws.pd hs h)
  | _, _, .rol hs, h => .rol (Vws.pd hs h)
theorem Vws.pd {S : DH} {F : List Addr} : ∀ {ds es : List D}, Vws S F ds es → imms es = true → PdA S ds (toPs es)
  | _, _, .nil, _ => .nil
  | _, _, .cons (e := e) (es := es) h1 h2, h => by
    have h' : (imm e && imms es) = true := h
    rw [Bool.and_eq_true] at h'
    exact .cons (Vw.pd h1 h'.1) (Vws.pd h2 h'.2)
end
/-- repr, by how it is seen -/
theorem cRepr_vw {S : DH} {F : List Addr} {d e : D} {Q : DK} (v : Vw S F d e) (h : Rp e) (q : Q (.str (toP e).shown) S) : cRepr [d] S Q := by
  obtain ⟨h1, h2, h3, h4⟩ := rp_show e h.rp
  exact ⟨_, v.pd h1, h2, by rw [dep_P]; exact h.d, PyData.shown_fits (B := 13) (by decide) (by decide) h3 (Nat.le_trans h4 h.w), q⟩
theorem cRepr_rp {S : DH} {d : D} {Q : DK} (h : Rp d) (q : Q (.str (toP d).shown) S) : cRepr [d] S Q := cRepr_vw (F := []) (.same d) h q
/-! ### patterns -/
inductive Pt where
  | stay | step (on : Bool) (w : Str) | mark (at_ : Bool) (m : Str) | seq (then_ : Bool) (ps : List Pt) | many (p : Pt)
mutual
def ptD : Pt → D
  | .stay => .tup [.str "stay"]
  | .step b w => .tup [.str "step", .str (if b then "on" else "back"), .str w]
  | .mark b m => .tup [.str (if b then "at" else "off"), .str m]
  | .seq b ps => .tup [.str (if b then "then" else "either"), .tup (ptDs ps)]
  | .many p => .tup [.str "many", ptD p]
def ptDs : List Pt → List D
  | [] => []
  | p :: ps => ptD p :: ptDs ps
end
theorem ptDs_map (ps : List Pt) : ptDs ps = ps.map ptD := by
  induction ps with
  | nil => rfl
  | cons p ps ih => show ptD p :: ptDs ps = _; rw [ih]; rfl
namespace Pt
def kids : Pt → List Pt
  | .seq _ ps => ps
  | .many p => [p]
  | _ => []
def isLeaf : Pt → Bool
  | .seq _ _ => false
  | .many _ => false
  | _ => true
mutual
/-- a pattern and all within it, the outer ones ahead -/
def all : Pt → List Pt
  | .seq b ps => .seq b ps :: alls ps
  | .many p => .many p :: all p
  | .stay => [.stay]
  | .step b w => [.step b w]
  | .mark b m => [.mark b m]
def alls : List Pt → List Pt
  | [] => []
  | p :: ps => all p ++ alls ps
end
mutual
/-- the same, the inner ones ahead -/
def post : Pt → List Pt
  | .seq b ps => posts ps ++ [.seq b ps]
  | .many p => post p ++ [.many p]
  | .stay => [.stay]
  | .step b w => [.step b w]
  | .mark b m => [.mark b m]
def posts : List Pt → List Pt
  | [] => []
  | p :: ps => post p ++ posts ps
end
mutual
/-- how many within one another -/
def deep : Pt → Nat
  | .seq _ ps => deeps ps + 1
  | .many p => deep p + 1
  | _ => 1
def deeps : List Pt → Nat
  | [] => 0
  | p :: ps => max (deep p) (deeps ps)
end
theorem deep_seq (b : Bool) (ps : List Pt) : deep (.seq b ps) = deeps ps + 1 := rfl
theorem deep_many (p : Pt) : deep (.many p) = deep p + 1 := rfl
theorem deeps_nil : deeps [] = 0 := rfl
theorem deeps_cons (p : Pt) (ps : List Pt) : deeps (p :: ps) = max (deep p) (deeps ps) := rfl
theorem all_seq (b : Bool) (ps : List Pt) : all (.seq b ps) = .seq b ps :: alls ps := rfl
theorem all_many (p : Pt) : all (.many p) = .many p :: all p := rfl
theorem alls_nil : alls [] = [] := rfl
theorem alls_cons (p : Pt) (ps : List Pt) : alls (p :: ps) = all p ++ alls ps := rfl
theorem alls_flat (ps : List Pt) : alls ps = ps.flatMap all := by
  induction ps with
  | nil => rfl
  | cons p ps ih => show all p ++ alls ps = _; rw [ih]; rfl
theorem all_kids (p : Pt) : all p = p :: p.kids.flatMap all := by
  cases p <;> simp [all, kids, alls_flat]
mutual
theorem post_all : ∀ p : Pt, (post p).Perm (all p)
  | .seq b ps => by
    show (posts ps ++ [Pt.seq b ps]).Perm (Pt.seq b ps :: alls ps)
    exact (List.perm_append_singleton _ _).trans ((posts_alls ps).cons _)
  | .many p => by
    show (post p ++ [Pt.many p]).Perm (Pt.many p :: all p)
    exact (List.perm_append_singleton _ _).trans ((post_all p).cons _)
  | .stay => List.Perm.refl _
  | .step _ _ => List.Perm.refl _
  | .mark _ _ => List.Perm.refl _
theorem posts_alls : ∀ ps : List Pt, (posts ps).Perm (alls ps)
  | [] => List.Perm.refl _
  | p :: ps => (post_all p).append (posts_alls ps)
end
theorem self_all (p : Pt) : p ∈ all p := by rw [all_kids]; exact List.mem_cons_self
theorem all_pos (p : Pt) : 1 ≤ (all p).length := List.length_pos_of_mem (self_all p)
/-- names are names -/
def okP (P : Str → Prop) : Pt → Prop := fun p => ∀ q ∈ all p, match q with | .step _ w => w = "*" ∨ P w | .mark _ m => P m | _ => True
end Pt
theorem nm_ok {x : Str} (h : Nm x) : PyData.strOk x = true := by
  unfold PyData.strOk
  rw [← Array.all_toList, List.all_eq_true]
  exact fun c hc => decide_eq_true (Nat.lt_of_le_of_lt (h.2.2 c hc).2 (by decide))
theorem ok_lit (s : String) (h : PyData.strOk (Str.ofString s) = true := by decide +kernel) : PyData.strOk (Str.ofString s) = true := h
theorem okP_kids {P : Str → Prop} {p q : Pt} (h : p.okP P) (hq : q ∈ p.kids) : q.okP P := fun r hr => h r (by
  rw [Pt.all_kids]
  exact List.mem_cons_of_mem _ (List.mem_flatMap.mpr ⟨q, hq, hr⟩))
mutual
theorem pt_sm : ∀ (p : Pt), p.okP Nm → Sm (2 * p.deep) (ptD p)
  | .stay, _ => by
    refine Sm_tup.mpr fun d hd => ?_
    rw [List.mem_singleton.mp hd]
    exact Sm_str.mpr (ok_lit "stay")
  | .step b w, h => by
    refine Sm_tup.mpr fun d hd => ?_
    have hw := h _ (Pt.self_all _)
    simp only [List.mem_cons, List.not_mem_nil, or_false] at hd
    rcases hd with rfl | rfl | rfl
    · exact Sm_str.mpr (ok_lit "step")
    · cases b
      · exact Sm_str.mpr (ok_lit "back")
      · exact Sm_str.mpr (ok_lit "on")
    · rcases hw with rfl | hw
      · exact Sm_str.mpr (ok_lit "*")
      · exact Sm_str.mpr (nm_ok hw)
  | .mark b m, h => by
    refine Sm_tup.mpr fun d hd => ?_
    have hw := h _ (Pt.self_all _)
    simp only [List.mem_cons, List.not_mem_nil, or_false] at hd
    rcases hd with rfl | rfl
    · cases b
      · exact Sm_str.mpr (ok_lit "off")
      · exact Sm_str.mpr (ok_lit "at")
    · exact Sm_str.mpr (nm_ok hw)
  | .seq b ps, h => by
    show Sm (2 * (Pt.deeps ps + 1)) _
    rw [show 2 * (Pt.deeps ps + 1) = (2 * Pt.deeps ps + 1) + 1 by omega]
    have hs := pts_sm ps fun q hq => okP_kids h hq
    refine Sm_tup.mpr fun d hd => ?_
    simp only [List.mem_cons, List.not_mem_nil, or_false] at hd
    rcases hd with rfl | rfl
    · cases b
      · exact Sm_str.mpr (ok_lit "either")
      · exact Sm_str.mpr (ok_lit "then")
    · exact Sm_tup.mpr hs
  | .many p, h => by
    show Sm (2 * (Pt.deep p + 1)) _
    rw [show 2 * (Pt.deep p + 1) = (2 * Pt.deep p + 1) + 1 by omega]
    have hs := pt_sm p (okP_kids h (List.mem_singleton.mpr rfl))
    refine Sm_tup.mpr fun d hd => ?_
    simp only [List.mem_cons, List.not_mem_nil, or_false] at hd
    rcases hd with rfl | rfl
    · exact Sm_str.mpr (ok_lit "many")
    · exact hs.mono (by omega)
theorem pts_sm : ∀ (ps : List Pt), (∀ p ∈ ps, p.okP Nm) → ∀ d ∈ ptDs ps, Sm (2 * Pt.deeps ps) d
  | [], _, _, hd => nomatch hd
  | p :: ps, h, d, hd => by
    have e : Pt.deeps (p :: ps) = max p.deep (Pt.deeps ps) := rfl
    rcases List.mem_cons.mp hd with rfl | hd
    · exact (pt_sm p (h p (List.mem_cons_self ..))).mono (by rw [e]; omega)
    · exact (pts_sm ps (fun q hq => h q (List.mem_cons_of_mem _ hq)) d hd).mono (by rw [e]; omega)
end
mutual
theorem pt_rp : ∀ (p : Pt), p.okP Nm → rp (ptD p) = true ∧ wgt (ptD p) ≤ 31 * p.all.length - 1
  | .stay, _ => ⟨by decide +kernel, by decide +kernel⟩
  | .step b w, h => by
    have hw := h _ (Pt.self_all _)
    have h1 : PyData.strOk w = true ∧ w.length ≤ 8 := by
      rcases hw with rfl | hw
      · exact ⟨ok_lit "*", by decide +kernel⟩
      · exact ⟨nm_ok hw, hw.2.1⟩
    refine ⟨?_, ?_⟩
    · cases b <;> simp only [ptD, rp, rps, h1.1, Bool.and_true, if_true, Bool.false_eq_true, if_false] <;> decide +kernel
    · have e : ∀ x y : Str, wgt (.tup [.str x, .str y, .str w]) = x.length + 1 + (y.length + 1 + (w.length + 1 + 0)) := fun _ _ => rfl
      show wgt (.tup [_, _, _]) ≤ 31 * 1 - 1
      rw [e]
      have l1 : (Str.ofString "step").length = 4 := by decide +kernel
      have l2 : (if b = true then (Str.ofString "on") else (Str.ofString "back")).length ≤ 4 := by cases b <;> decide +kernel
      have := h1.2
      omega
  | .mark b m, h => by
    have hw : Nm m := h _ (Pt.self_all _)
    refine ⟨?_, ?_⟩
    · cases b <;> simp only [ptD, rp, rps, nm_ok hw, Bool.and_true, if_true, Bool.false_eq_true, if_false] <;> decide +kernel
    · have e : ∀ x : Str, wgt (.tup [.str x, .str m]) = x.length + 1 + (m.length + 1 + 0) := fun _ => rfl
      show wgt (.tup [_, _]) ≤ 31 * 1 - 1
      rw [e]
      have l2 : (if b = true then (Str.ofString "at") else (Str.ofString "off")).length ≤ 4 := by cases b <;> decide +kernel
      have := hw.2.1
      omega
  | .seq b ps, h => by
    obtain ⟨h1, h2⟩ := pts_rp ps fun q hq => okP_kids h hq
    refine ⟨?_, ?_⟩
    · cases b <;> simp only [ptD, rp, rps, h1, Bool.and_true, if_true, Bool.false_eq_true, if_false] <;> decide +kernel
    · have e : ∀ x : Str, wgt (.tup [.str x, .tup (ptDs ps)]) = x.length + 1 + (wgts (ptDs ps) + 1 + 0) := fun _ => rfl
      show wgt (.tup [_, _]) ≤ 31 * ((Pt.alls ps).length + 1) - 1
      rw [e]
      have l2 : (if b = true then (Str.ofString "then") else (Str.ofString "either")).length ≤ 6 := by cases b <;> decide +kernel
      omega
  | .many p, h => by
    obtain ⟨h1, h2⟩ := pt_rp p (okP_kids h (List.mem_singleton.mpr rfl))
    refine ⟨?_, ?_⟩
    · simp only [ptD, rp, rps, h1, Bool.and_true]
      decide +kernel
    · have e : ∀ x : Str, wgt (.tup [.str x, ptD p]) = x.length + 1 + (wgt (ptD p) + 1 + 0) := fun _ => rfl
      show wgt (.tup [_, _]) ≤ 31 * ((Pt.all p).length + 1) - 1
      rw [e]
      have l2 : (Str.ofString "many").length = 4 := by decide +kernel
      omega
theorem pts_rp : ∀ (ps : List Pt), (∀ p ∈ ps, p.okP Nm) → rps (ptDs ps) = true ∧ wgts (ptDs ps) ≤ 31 * (Pt.alls ps).length
  | [], _ => ⟨rfl, Nat.le_refl _⟩
  | p :: ps, h => by
    obtain ⟨a1, a2⟩ := pt_rp p (h p (List.mem_cons_self ..))
    obtain ⟨b1, b2⟩ := pts_rp ps fun q hq => h q (List.mem_cons_of_mem _ hq)
    refine ⟨?_, ?_⟩
    · show (rp (ptD p) && rps (ptDs ps)) = true
      rw [a1, b1]; rfl
    · show wgt (ptD p) + 1 + wgts (ptDs ps) ≤ 31 * (Pt.all p ++ Pt.alls ps).length
      have := p.all_pos
      rw [List.length_append]
      omega
end
end Dt
set_option maxRecDepth 100000
set_option maxHeartbeats 4000000
/-! Sh: what many laws have: draws, names, leaves, patterns. -/
namespace Sh
open PySem PySem.Spec L2 Dt
def sp_l_names : DSp := fun ds S Q _ => ∃ (p : Addr) (m n : Nat) (o : Ob), ds = [.ref p, .int (m : Nat)] ∧ m ≤ 8 ∧ S p = some o ∧ FeedOb n o ∧ n < 2 ^ 90 ∧
  ∀ (ys : List Str) (o' : Ob), ys.length = m → (∀ y ∈ ys, Nm y) → ys.Nodup → FeedOb (n + 12) o' → Q (.rol (ys.map D.str)) (upo S p o')
theorem sp_l_names_mono : SpMono sp_l_names := fun ds S Q Q' E E' k _ ⟨p, m, n, o, h1, h2, h3, h4, h5, h⟩ => ⟨p, m, n, o, h1, h2, h3, h4, h5, fun ys o' a b c d => k _ _ (h ys o' a b c d)⟩
/-- words and marks by draws -/
structure Nms (ws ms : List Str) : Prop where
  w1 : 1 ≤ ws.length
  w8 : ws.length ≤ 8
  m1 : 1 ≤ ms.length
  m8 : ms.length ≤ 8
  w : ∀ w ∈ ws, Nm w
  m : ∀ m ∈ ms, Nm m
abbrev nmsD (e0 : D) (ws ms : List Str) : D := .rol [e0, .rol (ws.map D.str), .rol (ms.map D.str)]
def IsLf (ws ms : List Str) (d : D) : Prop := d = .tup [.str "stay"] ∨ (∃ a m : Str, (a = "at" ∨ a = "off") ∧ m ∈ ms ∧ d = .tup [.str a, .str m]) ∨ ∃ s w : Str, (s = "on" ∨ s = "back") ∧ (w = "*" ∨ w ∈ ws) ∧ d = .tup [.str "step", .str s, .str w]
def sp_l_leaf : DSp := fun ds S Q _ => ∃ (p : Addr) (e0 : D) (ws ms : List Str) (n : Nat) (o : Ob), ds = [.ref p, nmsD e0 ws ms] ∧ Nms ws ms ∧ S p = some o ∧ FeedOb n o ∧ n < 2 ^ 90 ∧
  ∀ (d : D) (o' : Ob), IsLf ws ms d → FeedOb (n + 3) o' → Q d (upo S p o')
theorem sp_l_leaf_mono : SpMono sp_l_leaf := fun ds S Q Q' E E' k _ ⟨p, e0, ws, ms, n, o, h1, h2, h3, h4, h5, h⟩ => ⟨p, e0, ws, ms, n, o, h1, h2, h3, h4, h5, fun d o' a b => k _ _ (h d o' a b)⟩
/-- patterns of so much within one another -/
def IsPat (ws ms : List Str) : Nat → D → Prop
  | 0, d => IsLf ws ms d
  | n + 1, d => IsLf ws ms d ∨ (∃ e, d = .tup [.str "many", e] ∧ IsPat ws ms n e) ∨ ∃ (h : Str) (es : List D), d = .tup [.str h, .tup es] ∧ (h = "then" ∨ h = "either") ∧ es.length ≤ 3 ∧ ∀ e ∈ es, IsPat ws ms n e
theorem IsLf.pat {ws ms : List Str} {d : D} (h : IsLf ws ms d) : ∀ n, IsPat ws ms n d
  | 0 => h
  | _ + 1 => .inl h
def costP : Nat → Nat
  | 0 => 4
  | n + 1 => 5 + 3 * costP n
def sp_l_pattern (k : Nat) : DSp := fun ds S Q _ => ∃ (p : Addr) (e0 : D) (j : Nat) (ws ms : List Str) (n : Nat) (o : Ob), ds = [.ref p, nmsD e0 ws ms, .int (j : Nat)] ∧ Nms ws ms ∧ j ≤ k ∧ S p = some o ∧ FeedOb n o ∧ n + costP k < 2 ^ 90 ∧
  ∀ (d : D) (o' : Ob), IsPat ws ms k d → FeedOb (n + costP k) o' → Q d (upo S p o')
theorem sp_l_pattern_mono (k : Nat) : SpMono (sp_l_pattern k) := fun ds S Q Q' E E' kk _ ⟨p, e0, j, ws, ms, n, o, h1, h0, h2, h3, h4, h5, h⟩ => ⟨p, e0, j, ws, ms, n, o, h1, h0, h2, h3, h4, h5, fun d o' a b => kk _ _ (h d o' a b)⟩
def t_l_cell_at : DTS := (dSeq (dIf (dTest (dOp rLt (dVar 1) (dCB cLen (dCons (dVar 0) dNil))))
      (dRet (dOp dIxS (dVar 0) (dVar 1)))
      dNx)
    (dSeq (dAsg (dC (.int 0)) (dGN 2))
    (dSeq (dIf (dTest (dOp rGt (dCB cLen (dCons (dVar 0) dNil)) (dC (.int 0))))
      (dAsg (dOp dIxS (dVar 0) (dOp rMod (dVar 1) (dCB cLen (dCons (dVar 0) dNil)))) (dGN 2))
      dNx)
    (dRet (dOp dAddF (dOp dAddF (dOp dMul (dOp rMod (dVar 2) (dC (.int 1000003))) (dC (.int 48271))) (dOp dMul (dC (.int 7919)) (dVar 1))) (dC (.int 1)))))))
abbrev N_l_cell_at : List Str := ["_law_script", "_law_k", "_law_seed"]
def t_l_feed : DTS := (dRet (dDisp [("left", (dCB cMax2 (dCons (dC (.int 0)) (dCons (dOp rSub (dVar 0) (dOp rPow (dC (.int 10)) (dC (.int 18)))) dNil)))), ("seed", (dOp rMod (dVar 0) (dC (.int 1000003)))), ("drawn", (dC (.int 0)))]))
abbrev N_l_feed : List Str := ["_law_cell"]
def t_l_next : DTS := (dSeq (dPut (dVar 0) (dC (.str "drawn")) (dOp dAddF (dOp dIxS (dVar 0) (dC (.str "drawn"))) (dC (.int 1))))
    (dSeq (dIf (dTest (dOp rGt (dOp dIxS (dVar 0) (dC (.str "left"))) (dC (.int 0))))
      (dSeq (dAsg (dOp rMod (dOp dIxS (dVar 0) (dC (.str "left"))) (dVar 1)) (dGN 2))
    (dSeq (dPut (dVar 0) (dC (.str "left")) (dOp rFdiv (dOp dIxS (dVar 0) (dC (.str "left"))) (dVar 1)))
    (dRet (dVar 2))))
      dNx)
    (dSeq (dAsg (dOp rMod (dOp dMul (dOp dAddF (dOp dIxS (dVar 0) (dC (.str "seed"))) (dC (.int 1))) (dOp dAddF (dOp dMul (dOp dIxS (dVar 0) (dC (.str "drawn"))) (dOp dIxS (dVar 0) (dC (.str "drawn")))) (dC (.int 48271)))) (dC (.int 65537))) (dGN 3))
    (dSeq (dAsg (dOp rMod (dOp dAddF (dOp dMul (dVar 3) (dVar 3)) (dOp dMul (dC (.int 30269)) (dOp dIxS (dVar 0) (dC (.str "drawn"))))) (dC (.int 65521))) (dGN 4))
    (dRet (dOp rMod (dOp rMod (dOp dAddF (dOp dMul (dVar 4) (dVar 4)) (dOp dMul (dC (.int 40503)) (dVar 3))) (dC (.int 65519))) (dVar 1)))))))
abbrev N_l_next : List Str := ["_law_feed_here", "_law_many", "_law_found", "_law_one", "_law_two"]
def t_l_names : DTS := (dSeq (dAsg (dC (.str "abcdefghijklmnopqrstuvwxyz")) (dGN 2))
    (dSeq (dAsg (dBM "str" mJoin (dC (.str "")) (dCons (dFz (dLc (dRng1 (dCons (dC (.int 8)) dNil)) (dGN 9) dYes (dOp dIxS (dVar 2) (dCall sp_l_next (dCons (dVar 0) (dCons (dC (.int 26)) dNil)))) [9])) dNil)) (dGN 3))
    (dSeq (dAsg (dCall sp_l_next (dCons (dVar 0) (dCons (dC (.int 3)) dNil))) (dGN 4))
    (dSeq (dAsg (dCall sp_l_next (dCons (dVar 0) (dCons (dC (.int 8)) dNil))) (dGN 5))
    (dSeq (dIf (dTest (dOp (dEq false) (dVar 4) (dC (.int 0))))
      (dAsg (dLc (dRng1 (dCons (dC (.int 8)) dNil)) (dGN 9) dYes (dSlF (dVar 3) dNoP (dSoP (dOp dAddF (dVar 9) (dC (.int 1))))) [9]) (dGN 6))
      (dIf (dTest (dOp (dEq false) (dVar 4) (dC (.int 1))))
      (dAsg (dLst (dCons (dC (.str "on")) (dCons (dC (.str "back")) (dCons (dC (.str "at")) (dCons (dC (.str "off")) (dCons (dC (.str "stay")) (dCons (dC (.str "many")) (dCons (dC (.str "then")) (dCons (dC (.str "either")) dNil))))))))) (dGN 6))
      (dSeq (dAsg (dCall sp_l_next (dCons (dVar 0) (dCons (dOp dAddF (dVar 5) (dC (.int 1))) dNil))) (dGN 7))
    (dSeq (dAsg (dCall sp_l_next (dCons (dVar 0) (dCons (dC (.int 26)) dNil))) (dGN 8))
    (dSeq (dAsg (dLst dNil) (dGN 6))
    (dFor (dRng1 (dCons (dC (.int 8)) dNil)) (dGN 9)
      (dSeq (dAsg (dOp dIxS (dVar 2) (dOp rMod (dOp dAddF (dVar 8) (dOp dMul (dC (.int 5)) (dVar 9))) (dC (.int 26)))) (dGN 10))
    (dDrop (dBM "list" mAppend (dVar 6) (dCons (dOp dAddF (dOp dAddF (dSlF (dVar 3) dNoP (dSoP (dVar 7))) (dVar 10)) (dSlF (dVar 3) (dSoP (dOp dAddF (dVar 7) (dC (.int 1)))) (dSoP (dOp dAddF (dVar 5) (dC (.int 1)))))) dNil))))))))))
    (dRet (dSlF (dOp dAddF (dSlF (dVar 6) (dSoP (dVar 5)) dNoP) (dSlF (dVar 6) dNoP (dSoP (dVar 5)))) dNoP (dSoP (dVar 1)))))))))
abbrev N_l_names : List Str := ["_law_feed_here", "_law_many", "_law_letters", "_law_word", "_law_way", "_law_turn", "_law_names_here", "_law_place", "_law_start", "_law_k", "_law_sign"]
def t_l_leaf : DTS := (dSeq (dAsg (dCall sp_l_next (dCons (dVar 0) (dCons (dC (.int 8)) dNil))) (dGN 2))
    (dSeq (dIf (dTest (dOp (dEq false) (dVar 2) (dC (.int 0))))
      (dRet (dTup (dCons (dC (.str "stay")) dNil)))
      dNx)
    (dSeq (dIf (dTest (dOp rLt (dVar 2) (dC (.int 3))))
      (dRet (dTup (dCons (dOp dIxS (dLstF (dCons (dC (.str "at")) (dCons (dC (.str "off")) dNil))) (dOp rSub (dVar 2) (dC (.int 1)))) (dCons (dOp dIxS (dOp dIxS (dVar 1) (dC (.int 2))) (dCall sp_l_next (dCons (dVar 0) (dCons (dCB cLen (dCons (dOp dIxS (dVar 1) (dC (.int 2))) dNil)) dNil)))) dNil))))
      dNx)
    (dSeq (dAsg (dOp dIxS (dOp dAddF (dLstF (dCons (dC (.str "*")) dNil)) (dOp dIxS (dVar 1) (dC (.int 1)))) (dCall sp_l_next (dCons (dVar 0) (dCons (dOp dAddF (dC (.int 1)) (dCB cLen (dCons (dOp dIxS (dVar 1) (dC (.int 1))) dNil))) dNil)))) (dGN 3))
    (dRet (dTup (dCons (dC (.str "step")) (dCons (dOp dIxS (dLstF (dCons (dC (.str "on")) (dCons (dC (.str "on")) (dCons (dC (.str "back")) dNil)))) (dCall sp_l_next (dCons (dVar 0) (dCons (dC (.int 3)) dNil)))) (dCons (dVar 3) dNil)))))))))
abbrev N_l_leaf : List Str := ["_law_feed_here", "_law_names_here", "_law_way", "_law_word"]
def t_l_pattern (spR : DSp) : DTS := (dSeq (dAsg (dCall sp_l_next (dCons (dVar 0) (dCons (dC (.int 8)) dNil))) (dGN 3))
    (dSeq (dIf (dOr (dTest (dOp (dEq false) (dVar 2) (dC (.int 0)))) (dTest (dOp rLt (dVar 3) (dC (.int 2)))))
      (dRet (dCall sp_l_leaf (dCons (dVar 0) (dCons (dVar 1) dNil))))
      dNx)
    (dSeq (dIf (dTest (dOp rLt (dVar 3) (dC (.int 4))))
      (dRet (dTup (dCons (dC (.str "many")) (dCons (dCall spR (dCons (dVar 0) (dCons (dVar 1) (dCons (dOp rSub (dVar 2) (dC (.int 1))) dNil)))) dNil))))
      dNx)
    (dSeq (dAsg (dOp dIxS (dLstF (dCons (dC (.int 2)) (dCons (dC (.int 1)) (dCons (dC (.int 3)) (dCons (dC (.int 0)) (dCons (dC (.int 2)) (dCons (dC (.int 2)) dNil))))))) (dCall sp_l_next (dCons (dVar 0) (dCons (dC (.int 6)) dNil)))) (dGN 4))
    (dSeq (dAsg (dCB cTuple (dCons (dFz (dLc (dRng1 (dCons (dVar 4) dNil)) (dGN 6) dYes (dCall spR (dCons (dVar 0) (dCons (dVar 1) (dCons (dOp rSub (dVar 2) (dC (.int 1))) dNil)))) [6])) dNil)) (dGN 5))
    (dRet (dTup (dCons (dOp dIxS (dLstF (dCons (dC (.str "then")) (dCons (dC (.str "either")) dNil))) (dOp rMod (dVar 3) (dC (.int 2)))) (dCons (dVar 5) dNil)))))))))
abbrev N_l_pattern : List Str := ["_law_feed_here", "_law_names_here", "_law_deep", "_law_way", "_law_many", "_law_parts", "_law_k"]
theorem r_l_feed (ds S Q E) (h : sp_l_feed ds S Q E) : t_l_feed (dEnd Q E) (dstart N_l_feed ds) S := by
  obtain ⟨c, rfl, h⟩ := h
  have c1 : CPow 10 18 := by unfold CPow; decide
  simp [t_l_feed, dstart, c1, mergeD, pt, lk, upo_upo]
  intro p hp
  simp [upo_upo]
  refine .same (h p _ hp ⟨_, _, _, rfl, ?_, Int.emod_nonneg _ (by decide), Int.emod_lt_of_pos _ (by decide), by decide, by decide⟩)
  split <;> omega
theorem r_l_leaf (ds S Q E) (h : sp_l_leaf ds S Q E) : t_l_leaf (dEnd Q E) (dstart N_l_leaf ds) S := by
  obtain ⟨p, e0, ws, ms, n, o, rfl, nm, hp, fo, hn, h⟩ := h
  unfold t_l_leaf
  refine dSeq_gen fun R hR => ?_
  simp [dstart]
  refine ⟨p, 8, n, o, rfl, by decide, by decide, hp, fo, by omega, fun v o1 v0 v1 fo1 => ?_⟩
  subst hR
  by_cases c0 : v = 0
  · simp [c0]
    exact .same (h _ o1 (.inl rfl) (fo1.more (by omega)))
  by_cases c1 : v < 3
  · simp [c0, c1]
    refine opt_at (by omega) (by simp; omega) fun y hy => ?_
    refine ⟨p, ms.length, n + 1, o1, rfl, by have := nm.m1; omega, by have := nm.m8; omega, by simp, fo1, by omega, fun u o2 u0 u1 fo2 => ?_⟩
    simp
    refine opt_at u0 (by simpa using u1) fun z hz => ?_
    obtain ⟨m, hm, rfl⟩ := List.mem_map.mp hz
    refine .same (h _ o2 (.inr (.inl ?_)) (fo2.more (by omega)))
    simp at hy
    rcases hy with rfl | rfl
    · exact ⟨"at", m, .inl rfl, hm, rfl⟩
    · exact ⟨"off", m, .inr rfl, hm, rfl⟩
  · simp [c0, c1, catD]
    refine ⟨by have := nm.w8; omega, p, 1 + ws.length, n + 1, o1, rfl, by omega, by have := nm.w8; omega, by simp, fo1, by omega, fun u o2 u0 u1 fo2 => ?_⟩
    simp
    refine opt_at u0 (by simp; omega) fun z hz => ?_
    refine ⟨p, 3, n + 2, o2, rfl, by decide, by decide, by simp, fo2, by omega, fun u' o3 u0' u1' fo3 => ?_⟩
    simp
    refine opt_at u0' (by simpa using u1') fun y hy => ?_
    refine .same (h _ o3 (.inr (.inr ?_)) (fo3.more (by omega)))
    obtain ⟨w, hw, rfl⟩ : ∃ w : Str, (w = "*" ∨ w ∈ ws) ∧ z = .str w := by
      rcases List.mem_cons.mp hz with rfl | hz
      · exact ⟨"*", .inl rfl, rfl⟩
      · obtain ⟨w, hw, rfl⟩ := List.mem_map.mp hz
        exact ⟨w, .inr hw, rfl⟩
    simp at hy
    rcases hy with rfl | rfl
    · exact ⟨"on", w, .inl rfl, hw, rfl⟩
    · exact ⟨"back", w, .inr rfl, hw, rfl⟩
theorem r_l_pattern (k : Nat) (ds S Q E) (h : sp_l_pattern k ds S Q E) : t_l_pattern (prevSp sp_l_pattern k) (dEnd Q E) (dstart N_l_pattern ds) S := by
  obtain ⟨p, e0, j, ws, ms, n, o, rfl, nm, hj, hp, fo, hn, h⟩ := h
  have c4 : 4 ≤ costP k := by cases k <;> simp [costP]; omega
  unfold t_l_pattern
  refine dSeq_gen fun R hR => ?_
  simp [dstart]
  refine ⟨p, 8, n, o, rfl, by decide, by decide, hp, fo, by omega, fun v o1 v0 v1 fo1 => ?_⟩
  subst hR
  refine dSeq_gen fun R hR => ?_
  have leaf : sp_l_leaf [.ref p, nmsD e0 ws ms] (upo S p o1) (Rt Q) fun C fs S' => ∃ S'', Sub S'' S' ∧ E C fs S'' :=
    ⟨p, e0, ws, ms, n + 1, o1, rfl, nm, upo_same, fo1, by omega, fun d o' a b => .same (by rw [upo_upo]; exact h d o' (a.pat k) (b.more (by omega)))⟩
  by_cases c0 : j = 0
  · simp [c0]
    exact leaf
  by_cases c1 : v < 2
  · simp [c0, c1]
    exact leaf
  simp [c0, c1]
  subst hR
  obtain ⟨m, rfl⟩ : ∃ m, k = m + 1 := ⟨k - 1, by omega⟩
  have hc : costP (m + 1) = 5 + 3 * costP m := rfl
  have ej : (j : Int) - 1 = ((j - 1 : Nat) : Int) := by omega
  by_cases c2 : v < 4
  · simp [c2, ej]
    refine ⟨p, e0, j - 1, ws, ms, n + 1, o1, rfl, nm, by omega, by simp, fo1, by omega, fun d o' a b => ?_⟩
    simp
    exact .same (h _ o' (.inr (.inl ⟨d, rfl, a⟩)) (b.more (by omega)))
  simp [c2]
  refine ⟨p, 6, n + 1, o1, rfl, by decide, by decide, by simp, fo1, by omega, fun u o2 u0 u1 fo2 => ?_⟩
  simp
  refine opt_at u0 (by simpa using u1) fun y hy => ?_
  obtain ⟨M, hM, rfl⟩ : ∃ M : Nat, M ≤ 3 ∧ y = .int (M : Nat) := by
    simp only [List.mem_cons, List.not_mem_nil, or_false] at hy
    rcases hy with rfl | rfl | rfl | rfl | rfl | rfl
    · exact ⟨2, by decide, rfl⟩
    · exact ⟨1, by decide, rfl⟩
    · exact ⟨3, by decide, rfl⟩
    · exact ⟨0, by decide, rfl⟩
    · exact ⟨2, by decide, rfl⟩
    · exact ⟨2, by decide, rfl⟩
  simp
  refine ⟨by omega, ?_⟩
  refine lcF_inv (fun i acc S1 => acc.length = i ∧ (∀ e ∈ acc, IsPat ws ms m e) ∧ ∃ o3, S1 = upo S p o3 ∧ FeedOb (n + 2 + i * costP m) o3) ⟨rfl, (fun _ z => nomatch z), o2, rfl, fo2.more (by omega)⟩ (fun _ _ _ _ _ _ _ => trivial) ?_ (by simp [rngD]; omega) ?_
  · rintro i d acc S1 q N hd ⟨g1, g2, o3, rfl, fo3⟩ hq ha hN
    have hi : i < M := by
      have := (List.getElem?_eq_some_iff.mp hd).1
      simp [rngD] at this
      exact this
    have im : i * costP m + costP m ≤ 3 * costP m := by
      rw [← Nat.succ_mul]
      exact Nat.mul_le_mul_right _ (by omega)
    have npq : p ≠ q := fun z => by subst z; simp at hq
    simp [ej]
    refine ⟨p, e0, j - 1, ws, ms, n + 2 + i * costP m, o3, rfl, nm, by omega, by rw [upo_ne npq]; simp, fo3, by omega, fun d' o4 a b => ?_⟩
    rw [upo_comm npq.symm]
    simp
    refine ⟨ha, hN _ _ ?_ ⟨by simp [g1], fun z hz => ?_, o4, rfl, ?_⟩ (by simp)⟩
    · rw [upo_ne npq.symm]
      rw [upo_ne npq.symm] at hq
      exact hq
    · rcases List.mem_append.mp hz with z' | z'
      · exact g2 z z'
      · rw [List.mem_singleton.mp z']; exact a
    · rw [Nat.succ_mul, ← Nat.add_assoc]; exact b
  · rintro acc S1 ⟨g1, g2, o3, rfl, fo3⟩
    have g1' : acc.length = M := by rw [g1]; simp [rngD]
    have im : M * costP m ≤ 3 * costP m := Nat.mul_le_mul_right _ hM
    simp
    refine opt_at (by omega) (by simp; omega) fun y hy => ?_
    refine .same (h _ o3 (.inr (.inr ?_)) (fo3.more (by simp [rngD]; omega)))
    simp at hy
    rcases hy with rfl | rfl
    · exact ⟨"then", acc, rfl, .inl rfl, by omega, g2⟩
    · exact ⟨"either", acc, rfl, .inr rfl, by omega, g2⟩
theorem upo_none {S : DH} {p q : Addr} {o : Ob} (h : upo S p o q = none) : q ≠ p ∧ S q = none := by
  unfold upo at h
  split at h
  · cases h
  · rename_i e
    exact ⟨e, h⟩
theorem r_l_names (ds S Q E) (h : sp_l_names ds S Q E) : t_l_names (dEnd Q E) (dstart N_l_names ds) S := by
  obtain ⟨p, m, n, o, rfl, hm, hp, fo, hn, h⟩ := h
  have l26 : (Str.ofString "abcdefghijklmnopqrstuvwxyz").cps.toList.length = 26 := by decide +kernel
  have l26' : (Str.ofString "abcdefghijklmnopqrstuvwxyz").length = 26 := by decide +kernel
  have l0 : (Str.ofString "").length = 0 := by decide +kernel
  unfold t_l_names
  refine dSeq_gen fun R hR => ?_
  simp [dstart]
  subst hR
  refine dSeq_gen fun R hR => ?_
  simp
  refine lcF_inv (fun i acc S1 => ∃ ys : List Str, acc = ys.map D.str ∧ ys.length = i ∧ (∀ y ∈ ys, ∃ c, y = ⟨#[c]⟩ ∧ 97 ≤ c ∧ c ≤ 122) ∧ ∃ o1, S1 = upo S p o1 ∧ FeedOb (n + i) o1) ⟨[], rfl, rfl, (fun _ h => nomatch h), o, (upo_id hp).symm, fo⟩ (fun _ _ _ _ _ _ _ => trivial) ?_ (by simp [rngD]) ?_
  · rintro i d acc S1 q N hd ⟨ys, rfl, e2, e3, o1, rfl, fo1⟩ hq ha hN
    obtain ⟨j', hj', rfl⟩ := rng_at hd (by omega)
    have hj : i < 8 := by
      have := (List.getElem?_eq_some_iff.mp hd).1
      simpa [rngD] using this
    have npq : p ≠ q := fun z => by subst z; simp at hq
    have hq' : S q = none := by rw [upo_ne npq.symm] at hq; exact hq
    simp
    refine ⟨p, 26, n + i, o1, rfl, by decide, by decide, by rw [upo_ne npq]; simp, fo1, by omega, fun v o2 v0 v1 fo2 => ?_⟩
    rw [upo_comm npq.symm]
    simp
    refine ⟨by rw [l26']; decide, opt_at v0 (by rw [l26]; omega) fun c hc => ?_⟩
    have hcc := List.all_eq_true.mp (show ((Str.ofString "abcdefghijklmnopqrstuvwxyz").cps.toList.all fun c => decide (97 ≤ c ∧ c ≤ 122)) = true by decide +kernel) c hc
    refine ⟨by simpa using ha, hN _ _ (by rw [upo_ne npq.symm]; exact hq') ⟨ys ++ [⟨#[c]⟩], by simp, by simp [e2], fun y hy => ?_, o2, rfl, fo2⟩ (by simp)⟩
    rcases List.mem_append.mp hy with z | z
    · exact e3 y z
    · exact ⟨c, List.mem_singleton.mp z, of_decide_eq_true hcc⟩
  rintro acc S1 ⟨ys, rfl, e2, e3, o1, rfl, fo1⟩
  have e2' : ys.length = 8 := by simpa [rngD] using e2
  obtain ⟨w, hw⟩ : ∃ w : Str, w = Txt.join (.ofString "") ys := ⟨_, rfl⟩
  have hwl : w.cps.toList.length = 8 ∧ ∀ c ∈ w.cps.toList, 97 ≤ c ∧ c ≤ 122 := by
    have := join_one ys e3
    rw [e2', ← hw] at this
    exact this
  have wl : w.length = 8 := by rw [str_len, hwl.1]
  have hsum : (ys.map (·.length)).sum ≤ 8 := by
    rw [← e2']
    exact sum_le1 ys fun y hy => by
      obtain ⟨c, rfl, _⟩ := e3 y hy
      exact Nat.le_refl 1
  refine ⟨_, _, ys, rfl, rfl, .inl rfl, by rw [l0]; omega, ?_⟩
  rw [← hw]
  subst hR
  refine dSeq_gen fun R hR => ?_
  simp
  refine ⟨p, 3, n + 8, o1, rfl, by decide, by decide, by simp, by simpa [rngD] using fo1, by omega, fun v1 o6 v10 v11 fo6 => ?_⟩
  simp
  subst hR
  refine dSeq_gen fun R hR => ?_
  simp
  refine ⟨p, 8, n + 9, o6, rfl, by decide, by decide, by simp, fo6, by omega, fun t o7 t0 t1 fo7 => ?_⟩
  simp
  obtain ⟨T, rfl⟩ := Int.eq_ofNat_of_zero_le t0
  have hT : T < 8 := by omega
  subst hR
  refine dSeq_gen fun R hR => ?_
  have tail : ∀ (o8 : Ob) (r : Addr) (L : List Str) (a3 a4 a7 a8 a9 a10 : Option D), S r = none → FeedOb (n + 12) o8 → L.length = 8 → (∀ y ∈ L, Nm y) → L.Nodup →
      R (dEnd Q E) [some (.ref p), some (.int (m : Nat)), some (.str "abcdefghijklmnopqrstuvwxyz"), a3, a4, some (.int (T : Nat)), some (.ref r), a7, a8, a9, a10] (upo (upo S p o8) r (.lst (L.map D.str))) := by
    intro o8 r L a3 a4 a7 a8 a9 a10 hr fo8 hl hy hd
    have npr : p ≠ r := fun z => by subst z; rw [hp] at hr; cases hr
    subst hR
    simp [catD]
    refine ⟨by omega, .keep (S := upo S p o8) (Sub.new (by rw [upo_ne npr.symm]; exact hr)) ?_⟩
    have := h (((L.drop T) ++ (L.take T)).take m) o8 (by simp; omega) (fun y hy' => ?_) ?_ fo8
    · simpa using this
    · have := List.mem_of_mem_take hy'
      rcases List.mem_append.mp this with z | z
      · exact hy y (List.mem_of_mem_drop z)
      · exact hy y (List.mem_of_mem_take z)
    · refine List.Sublist.nodup (List.take_sublist _ _) ?_
      have : (L.drop T ++ L.take T).Perm L := List.perm_append_comm.trans (by rw [List.take_append_drop])
      exact this.nodup_iff.mpr hd
  clear hR
  by_cases c0 : v1 = 0
  · simp [c0]
    intro r hr
    obtain ⟨nrp, hr⟩ := upo_none hr
    refine lc_map (fun d => match d with | .int i => .str (cutS w none (some (i + 1))) | _ => .non) _ (by simp) (fun _ => trivial) (fun d hd acc N' hN' hacc => ?_) (by simp [rngD]) ?_
    · simp only [rngD, List.mem_map] at hd
      obtain ⟨k, hk, rfl⟩ := hd
      simp at hN' ⊢
      exact ⟨by rw [wl]; decide, hacc, hN'⟩
    · have eL : (rngD 0 8).map (fun d => match d with | .int i => D.str (cutS w none (some (i + 1))) | _ => D.non) = ((List.range 8).map fun k : Nat => cutS w none (some ((k + 1 : Nat) : Int))).map D.str := by
        simp only [rngD, List.map_map]
        refine List.map_congr_left fun k _ => ?_
        simp
      rw [eL]
      have lens : ∀ k : Nat, k < 8 → (cutS w none (some ((k + 1 : Nat) : Int))).length = k + 1 := fun k hk => by
        rw [str_len, cutS_take, List.length_take, hwl.1]
        omega
      rw [upo_upo]
      refine tail o7 r _ _ _ _ _ _ _ hr (fo7.more (by omega)) (by simp) (fun y hy => ?_) ?_
      · obtain ⟨k, hk, rfl⟩ := List.mem_map.mp hy
        rw [List.mem_range] at hk
        refine ⟨by rw [lens k hk]; omega, by rw [lens k hk]; omega, fun c hc => hwl.2 c ?_⟩
        rw [cutS_take] at hc
        exact List.mem_of_mem_take hc
      · refine nodup_of_map (fun y : Str => y.length) ?_
        rw [List.map_map]
        have e : (List.range 8).map ((fun y : Str => y.length) ∘ fun k : Nat => cutS w none (some ((k + 1 : Nat) : Int))) = (List.range 8).map (· + 1) := List.map_congr_left fun k hk => lens k (List.mem_range.mp hk)
        rw [e]
        decide
  by_cases c1 : v1 = 1
  · simp [c1]
    intro r hr
    obtain ⟨nrp, hr⟩ := upo_none hr
    refine tail o7 r ["on", "back", "at", "off", "stay", "many", "then", "either"] _ _ _ _ _ _ hr (fo7.more (by omega)) rfl (fun y hy => ?_) (by decide +kernel)
    have := List.all_eq_true.mp (show (["on", "back", "at", "off", "stay", "many", "then", "either"] : List Str).all (fun y => decide (1 ≤ y.length) && decide (y.length ≤ 8) && y.cps.toList.all fun c => decide (97 ≤ c ∧ c ≤ 122)) = true by decide +kernel) y hy
    simp only [Bool.and_eq_true, decide_eq_true_eq, List.all_eq_true] at this
    exact ⟨this.1.1, this.1.2, this.2⟩
  · show dIf _ _ _ { dEnd Q E with nx := R (dEnd Q E) } _ _
    simp only [dIf, dTest, dOp, dVar, dC, dEq_int, List.getElem?_cons_succ, List.getElem?_cons_zero, Bool.false_eq_true, if_false]
    simp only [beq_iff_eq, c0, c1, if_false]
    refine dSeq_gen fun R2 hR2 => ?_
    simp
    refine ⟨p, (T : Int) + 1, n + 10, o7, rfl, by omega, by omega, upo_same, fo7, by omega, fun pl o8 pl0 pl1 fo8 => ?_⟩
    subst hR2
    refine dSeq_gen fun R2 hR2 => ?_
    simp
    refine ⟨p, 26, n + 11, o8, rfl, by decide, by decide, upo_same, fo8, by omega, fun st o9 st0 st1 fo9 => ?_⟩
    subst hR2
    simp
    obtain ⟨P, rfl⟩ := Int.eq_ofNat_of_zero_le pl0
    obtain ⟨s0, rfl⟩ := Int.eq_ofNat_of_zero_le st0
    intro r hr
    obtain ⟨nrp, hr⟩ := upo_none hr
    have hP : P ≤ T := by omega
    have hs0 : s0 < 26 := by omega
    obtain ⟨Y, hY⟩ : ∃ Y : Nat → Str, Y = fun k => cutS w none (some (P : Int)) ++ (⟨#[97 + (s0 + 5 * k) % 26]⟩ : Str) ++ cutS w (some ((P + 1 : Nat) : Int)) (some ((T + 1 : Nat) : Int)) := ⟨_, rfl⟩
    have tlY : ∀ k, (Y k).cps.toList = w.cps.toList.take P ++ [97 + (s0 + 5 * k) % 26] ++ (w.cps.toList.drop (P + 1)).take (T + 1 - (P + 1)) := fun k => by
      rw [hY, app_tl, app_tl, cutS_take, cutS_mid _ _ _ (by omega) (by rw [hwl.1]; omega)]
    have lnY : ∀ k, (Y k).length = T + 1 := fun k => by
      rw [str_len, tlY]
      simp [hwl.1]
      omega
    refine loop_inv (fun i τ S' => ∃ a9 a10, τ = [some (.ref p), some (.int (m : Nat)), some (.str "abcdefghijklmnopqrstuvwxyz"), some (.str w), some (.int v1), some (.int (T : Nat)), some (.ref r), some (.int (P : Nat)), some (.int (s0 : Nat)), a9, a10] ∧ S' = upo (upo S p o9) r (.lst (((List.range i).map Y).map D.str)))
      ⟨none, none, rfl, rfl⟩ (fun _ _ _ _ _ => trivial) ?_ ?_
    · rintro i d τ S7 N hd ⟨a9, a10, rfl, rfl⟩ hN
      have hi : i < 8 := by
        have := (List.getElem?_eq_some_iff.mp hd).1
        simpa [rngD] using this
      have ed : d = .int (i : Nat) := by
        obtain ⟨h1, h2⟩ := List.getElem?_eq_some_iff.mp hd
        simp [rngD] at h2
        exact h2.symm
      subst ed
      obtain ⟨J, hJ⟩ : ∃ J, J = (s0 + 5 * i) % 26 := ⟨_, rfl⟩
      have hc : ((s0 : Int) + 5 * (i : Int)) % 26 = (J : Int) := by omega
      have hl := letter_at J (by omega)
      have c1' : CMulW 5 (i : Int) := (show Bd 5 5 by unfold Bd; decide).cm (show Bd 5 (i : Int) by unfold Bd; omega)
      have q1 : (cutS w none (some (P : Int))).length ≤ 8 := Nat.le_trans (cutS_length w _ _) (by rw [wl]; decide)
      have q2 : ∀ lo hi, (cutS w lo hi).length ≤ 8 := fun lo hi => Nat.le_trans (cutS_length w _ _) (by rw [wl]; decide)
      have q3 : (cutS w none (some (P : Int)) ++ (⟨#[97 + J]⟩ : Str)).length ≤ 9 := by
        rw [str_len, app_tl, List.length_append, ← str_len]
        simpa using q1
      simp [c1', hc, l26', atI_nat hl, wl]
      refine ⟨by have := q1; show _ + 1 ≤ _; omega, by have := q2 (some ((P : Int) + 1)) (some ((T : Int) + 1)); omega, by omega, hN _ _ ⟨_, _, rfl, ?_⟩⟩
      rw [List.range_succ, List.map_append, List.map_append, hY]
      simp only [List.map_cons, List.map_nil, List.map_map]
      rw [← hJ]
      rfl
    · rintro τ S7 ⟨a9, a10, rfl, rfl⟩
      refine tail o9 r _ _ _ _ _ _ _ hr (fo9.more (by omega)) (by simp [rngD]) (fun y hy => ?_) ?_
      · obtain ⟨k, hk, rfl⟩ := List.mem_map.mp hy
        refine ⟨by rw [lnY]; omega, by rw [lnY]; omega, fun c hc => ?_⟩
        rw [tlY] at hc
        rcases List.mem_append.mp hc with z | z
        · rcases List.mem_append.mp z with z | z
          · exact hwl.2 c (List.mem_of_mem_take z)
          · rw [List.mem_singleton.mp z]; omega
        · exact hwl.2 c (List.mem_of_mem_drop (List.mem_of_mem_take z))
      · refine nodup_of_map (fun y : Str => y.cps.toList.getD P 0) ?_
        rw [List.map_map, show (rngD 0 8).length = 8 by simp [rngD]]
        have e : (List.range 8).map ((fun y : Str => y.cps.toList.getD P 0) ∘ Y) = (List.range 8).map fun k => 97 + (s0 + 5 * k) % 26 := List.map_congr_left fun k _ => by
          show (Y k).cps.toList.getD P 0 = _
          have hPl : (w.cps.toList.take P).length = P := by rw [List.length_take, hwl.1]; omega
          rw [tlY, List.append_assoc, List.getD_eq_getElem?_getD, List.getElem?_append_right (by omega), hPl, Nat.sub_self]
          rfl
        rw [e]
        exact signs_apart s0 hs0
end Sh
set_option maxRecDepth 100000
set_option maxHeartbeats 4000000
/-! ShP: what stands in a pattern. -/
namespace Sh
open PySem PySem.Spec L2 Dt
@[simp] theorem ptD_0 (p : Pt) : ∃ r, ptD p = .tup r := by cases p <;> exact ⟨_, rfl⟩
def sp_parts_of : DSp := fun ds S Q _ => ∃ p : Pt, ds = [ptD p] ∧ Q (.rol (ptDs p.kids)) S
def sp_all_parts : DSp := fun ds S Q _ => ∃ p : Pt, ds = [ptD p] ∧ p.all.length ≤ 100000 ∧ ∀ L : List Pt, L.Perm p.all → Q (.rol (ptDs L)) S
def sp_parts_in : DSp := fun ds S Q _ => ∃ p : Pt, ds = [ptD p] ∧ p.all.length ≤ 100000 ∧ Q (.int (p.all.length : Nat)) S
def sp_leaves_in : DSp := fun ds S Q _ => ∃ p : Pt, ds = [ptD p] ∧ p.all.length ≤ 100000 ∧ Q (.int ((p.all.filter Pt.isLeaf).length : Nat)) S
end Sh
namespace Dt
open PySem PySem.Spec L2
/-- the words of steps, the marks -/
def Pt.word? : Pt → Option Str
  | .step _ w => some w
  | _ => none
def Pt.mark? : Pt → Option Str
  | .mark _ m => some m
  | _ => none
def Pt.words (p : Pt) : List Str := (p.all.filterMap Pt.word?).filter fun w => !decide (w = "*")
def Pt.marks (p : Pt) : List Str := p.all.filterMap Pt.mark?
end Dt
namespace Sh
open PySem PySem.Spec L2 Dt
/-- new lists -/
def sp_words_in : DSp := fun ds S Q _ => ∃ p : Pt, ds = [ptD p] ∧ p.all.length ≤ 4000 ∧ p.okP Nm ∧ ∀ q, S q = none → Q (.ref q) (upo S q (.lst (ssD (p.words.map D.str))))
def sp_marks_in : DSp := fun ds S Q _ => ∃ p : Pt, ds = [ptD p] ∧ p.all.length ≤ 4000 ∧ p.okP Nm ∧ ∀ q, S q = none → Q (.ref q) (upo S q (.lst (ssD (p.marks.map D.str))))
def t_parts_of : DTS := (dSeq (dIf (dTest (dOp (dEq false) (dOp dIxS (dVar 0) (dC (.int 0))) (dC (.str "many"))))
      (dRet (dLstF (dCons (dOp dIxS (dVar 0) (dC (.int 1))) dNil)))
      dNx)
    (dSeq (dIf (dTest (dOp (dIn false) (dOp dIxS (dVar 0) (dC (.int 0))) (dTup (dCons (dC (.str "then")) (dCons (dC (.str "either")) dNil)))))
      (dRet (dCB cListF (dCons (dOp dIxS (dVar 0) (dC (.int 1))) dNil)))
      dNx)
    (dRet (dLstF dNil))))
abbrev N_parts_of : List Str := ["pattern"]
def t_all_parts : DTS := (dSeq (dAsg (dLst (dCons (dVar 0) dNil)) (dGN 1))
    (dSeq (dAsg (dC (.int 0)) (dGN 2))
    (dSeq (dWhile (dTest (dOp rLt (dVar 2) (dCB cLen (dCons (dVar 1) dNil))))
      (dSeq (dDrop (dBM "list" mExtend (dVar 1) (dCons (dCall sp_parts_of (dCons (dOp dIxS (dVar 1) (dVar 2)) dNil)) dNil)))
    (dAsg (dOp dAddF (dVar 2) (dC (.int 1))) (dGN 2))))
    (dRet (dVar 1)))))
abbrev N_all_parts : List Str := ["pattern", "found", "at"]
def t_parts_in : DTS := (dRet (dCB cLen (dCons (dCall sp_all_parts (dCons (dVar 0) dNil)) dNil)))
abbrev N_parts_in : List Str := ["pattern"]
def t_leaves_in : DTS := (dRet (dCB cLen (dCons (dFz (dLc (dSeqI (dCall sp_all_parts (dCons (dVar 0) dNil))) (dGN 1) (dTest (dOp (dIn false) (dOp dIxS (dVar 1) (dC (.int 0))) (dTup (dCons (dC (.str "stay")) (dCons (dC (.str "step")) (dCons (dC (.str "at")) (dCons (dC (.str "off")) dNil))))))) (dVar 1) [1])) dNil)))
abbrev N_leaves_in : List Str := ["pattern", "part"]
def t_words_in : DTS := (dSeq (dAsg (dFz (dLc (dSeqI (dCall sp_all_parts (dCons (dVar 0) dNil))) (dGN 2) (dTest (dOp (dEq false) (dOp dIxS (dVar 2) (dC (.int 0))) (dC (.str "step")))) (dOp dIxS (dVar 2) (dC (.int 2))) [2])) (dGN 1))
    (dRet (dSortSetM (dFz (dLc (dSeqI (dVar 1)) (dGN 3) (dTest (dOp (dEq true) (dVar 3) (dC (.str "*")))) (dVar 3) [3])))))
abbrev N_words_in : List Str := ["pattern", "words", "part", "word"]
def t_marks_in : DTS := (dRet (dSortSetM (dFz (dLc (dSeqI (dCall sp_all_parts (dCons (dVar 0) dNil))) (dGN 1) (dTest (dOp (dIn false) (dOp dIxS (dVar 1) (dC (.int 0))) (dTup (dCons (dC (.str "at")) (dCons (dC (.str "off")) dNil))))) (dOp dIxS (dVar 1) (dC (.int 1))) [1]))))
abbrev N_marks_in : List Str := ["pattern", "part"]
theorem ptDs_len (ps : List Pt) : (ptDs ps).length = ps.length := by rw [ptDs_map, List.length_map]
theorem ptDs_at {ps : List Pt} {j : Nat} (h : j < ps.length) : (ptDs ps)[j]? = some (ptD ps[j]) := by rw [ptDs_map, List.getElem?_map, List.getElem?_eq_getElem h]; rfl
theorem ptDs_app (ps qs : List Pt) : ptDs (ps ++ qs) = ptDs ps ++ ptDs qs := by simp [ptDs_map]
def hd0 (d : D) : D := match d with | .tup (x :: _) => x | _ => .non
def at1 (d : D) : D := match d with | .tup (_ :: x :: _) => x | _ => .non
def at2 (d : D) : D := match d with | .tup (_ :: _ :: x :: _) => x | _ => .non
def isStep (p : Pt) : Bool := match p with | .step _ _ => true | _ => false
def isMark (p : Pt) : Bool := match p with | .mark _ _ => true | _ => false
def theName (p : Pt) : Str := match p with | .step _ w => w | .mark _ m => m | _ => ""
/-! ### drawn patterns as trees -/
/-- how many a drawn pattern is of at most -/
def szP : Nat → Nat
  | 0 => 1
  | n + 1 => 1 + 3 * szP n
theorem deeps_le {b : Nat} : ∀ {ps : List Pt}, (∀ p ∈ ps, p.deep ≤ b) → Pt.deeps ps ≤ b
  | [], _ => by simp [Pt.deeps_nil]
  | p :: ps, h => by
    have h1 := h p (List.mem_cons_self ..)
    have h2 := deeps_le fun q hq => h q (List.mem_cons_of_mem _ hq)
    rw [Pt.deeps_cons]
    omega
theorem deeps_mem : ∀ {ps : List Pt} {p : Pt}, p ∈ ps → p.deep ≤ Pt.deeps ps
  | q :: ps, p, h => by
    rw [Pt.deeps_cons]
    rcases List.mem_cons.mp h with rfl | h
    · omega
    · have := deeps_mem h
      omega
theorem pt_dep {p : Pt} (h : p.okP Nm) : dep (ptD p) ≤ 2 * p.deep := by
  have := pt_sm p h
  exact this.2
theorem pt_Rp {p : Pt} (h : p.okP Nm) (h1 : p.deep ≤ 40) (h2 : p.all.length ≤ 30000) : Rp (ptD p) := by
  obtain ⟨a, b⟩ := pt_rp p h
  exact ⟨a, by omega, by have := pt_dep h; omega⟩
end Sh
set_option maxRecDepth 100000
set_option maxHeartbeats 4000000
/-! ShM: machines: stands, moves; come_to, stepped. -/
namespace Sh
open PySem PySem.Spec L2 Dt
/-- a plain text -/
def okS (x : Str) : Prop := PyData.strOk x = true
theorem okS.sm {x : Str} {n : Nat} (h : okS x) : Sm n (.str x) := ⟨h, Nat.zero_le _⟩
theorem int_sm (i : Int) (n : Nat) : Sm n (.int i) := ⟨rfl, Nat.zero_le _⟩
theorem Nm.okS {x : Str} (h : Nm x) : okS x := nm_ok h
/-- a move -/
structure Mv where
  a : Nat
  p : Pt
  b : Nat
def mvD (m : Mv) : D := .tup [.int m.a, ptD m.p, .int m.b]
abbrev natsD (xs : List Nat) : List D := xs.map fun x : Nat => D.int (x : Int)
abbrev strsD (xs : List Str) : List D := xs.map D.str
structure OkMv (m : Mv) : Prop where
  leaf : m.p.isLeaf = true
  ok : m.p.okP okS
def mcD (x y z : D) (mv : List Mv) : D := .tup [x, y, z, .tup (mv.map mvD)]
def holdsP (ms : List Str) (p : Pt) : Bool := match p with
  | .stay => true
  | .mark b m => decide (m ∈ ms) == b
  | _ => false
def fitsP (side word : Str) (p : Pt) : Bool := match p with
  | .step b w => decide ((if b then "on" else "back" : Str) = side) && (decide (w = "*") || decide (w = word))
  | _ => false
/-- what is come to without steps -/
inductive Come (mv : List Mv) (ms : List Str) (st : List Nat) : Nat → Prop
  | start {x : Nat} : x ∈ st → Come mv ms st x
  | move {m : Mv} : m ∈ mv → Come mv ms st m.a → holdsP ms m.p = true → Come mv ms st m.b
/-- what is come to by a step -/
def ByStep (mv : List Mv) (st : List Nat) (side word : Str) (x : Nat) : Prop := ∃ m ∈ mv, m.a ∈ st ∧ fitsP side word m.p = true ∧ m.b = x
/-! rows of numbers -/
theorem natsD_mem {xs : List Nat} {x : Nat} : D.int (x : Int) ∈ natsD xs ↔ x ∈ xs := by
  rw [List.mem_map]
  exact ⟨fun ⟨y, h, e⟩ => by cases e; exact h, fun h => ⟨x, h, rfl⟩⟩
/-! dicts as sets -/
def kset {κ : Type} (ks : List κ) : List (κ × D) := ks.map fun k => (k, .bl true)
section
variable {κ : Type} [DecidableEq κ]
end
abbrev nkeys (xs : List Nat) : List Key := xs.map fun x : Nat => Sum.inl (x : Int)
/-! specs -/
def sp_holds_at : DSp := fun ds S Q _ => ∃ (p : Pt) (ms : List Str), ds = [ptD p, .rol (strsD ms)] ∧ p.isLeaf = true ∧ p.okP okS ∧ (∀ m ∈ ms, okS m) ∧ Q (.bl (holdsP ms p)) S
def sp_is_step_by : DSp := fun ds S Q _ => ∃ (p : Pt) (side word : Str), ds = [ptD p, .str side, .str word] ∧ p.isLeaf = true ∧ Q (.bl (fitsP side word p)) S
def sp_come_to : DSp := fun ds S Q _ => ∃ (x y z : D) (mv : List Mv) (st : List Nat) (ms : List Str), ds = [mcD x y z mv, .tup (natsD st), .rol (strsD ms)] ∧ (∀ m ∈ mv, OkMv m) ∧ (∀ m ∈ ms, okS m) ∧ st.length + mv.length ≤ 100000 ∧
  ∀ L : List Nat, L.Pairwise (· < ·) → (∀ n, n ∈ L ↔ Come mv ms st n) → Q (.tup (natsD L)) S
def sp_stepped : DSp := fun ds S Q _ => ∃ (x y z : D) (mv : List Mv) (st : List Nat) (side word : Str), ds = [mcD x y z mv, .tup (natsD st), .str side, .str word] ∧ (∀ m ∈ mv, OkMv m) ∧ mv.length ≤ 100000 ∧
  ∀ L : List Nat, L.Pairwise (· < ·) → (∀ n, n ∈ L ↔ ByStep mv st side word n) → Q (.tup (natsD L)) S
def t_holds_at : DTS := (dSeq (dIf (dTest (dOp (dEq false) (dOp dIxS (dVar 0) (dC (.int 0))) (dC (.str "at"))))
      (dRet (dOp (dIn false) (dOp dIxS (dVar 0) (dC (.int 1))) (dVar 1)))
      dNx)
    (dSeq (dIf (dTest (dOp (dEq false) (dOp dIxS (dVar 0) (dC (.int 0))) (dC (.str "off"))))
      (dRet (dOp (dIn true) (dOp dIxS (dVar 0) (dC (.int 1))) (dVar 1)))
      dNx)
    (dRet (dOp (dEq false) (dOp dIxS (dVar 0) (dC (.int 0))) (dC (.str "stay"))))))
abbrev N_holds_at : List Str := ["leaf", "marks"]
def t_is_step_by : DTS := (dRet (dAndV (dOp (dEq false) (dOp dIxS (dVar 0) (dC (.int 0))) (dC (.str "step"))) (dAndV (dOp (dEq false) (dOp dIxS (dVar 0) (dC (.int 1))) (dVar 1)) (dOp (dIn false) (dOp dIxS (dVar 0) (dC (.int 2))) (dTup (dCons (dC (.str "*")) (dCons (dVar 2) dNil)))))))
abbrev N_is_step_by : List Str := ["leaf", "side", "word"]
def t_come_to : DTS := (dSeq (dAsg dDnK (dGN 3))
    (dSeq (dFor (dSeqI (dVar 1)) (dGN 4)
      (dPut (dVar 3) (dVar 4) (dC (.bl true))))
    (dSeq (dAsg (dCB cListA (dCons (dVar 3) dNil)) (dGN 5))
    (dSeq (dWhile (dTest (dOp (dEq true) (dVar 5) (dLstF dNil)))
      (dSeq (dAsg (dBM "list" mPop (dVar 5) dNil) (dGN 6))
    (dFor (dSeqI (dOp dIxS (dVar 0) (dC (.int 3)))) (dGTup 3 (dGCons (dGN 7) (dGCons (dGN 8) (dGCons (dGN 9) dGNil))))
      (dIf (dAnd (dTest (dOp (dEq false) (dVar 7) (dVar 6))) (dAnd (dTest (dOp (dIn true) (dVar 9) (dVar 3))) (dTest (dCall sp_holds_at (dCons (dVar 8) (dCons (dVar 2) dNil))))))
      (dSeq (dPut (dVar 3) (dVar 9) (dC (.bl true)))
    (dDrop (dBM "list" mAppend (dVar 5) (dCons (dVar 9) dNil))))
      dNx))))
    (dRet (dCB cTuple (dCons (dCB cSortAF (dCons (dVar 3) dNil)) dNil)))))))
abbrev N_come_to : List Str := ["machine", "stands", "marks", "met", "stand", "line", "here", "one", "leaf", "other"]
def t_stepped : DTS := (dSeq (dAsg dDnK (dGN 4))
    (dSeq (dFor (dSeqI (dOp dIxS (dVar 0) (dC (.int 3)))) (dGTup 3 (dGCons (dGN 5) (dGCons (dGN 6) (dGCons (dGN 7) dGNil))))
      (dIf (dAnd (dTest (dOp (dIn false) (dVar 5) (dVar 1))) (dTest (dCall sp_is_step_by (dCons (dVar 6) (dCons (dVar 2) (dCons (dVar 3) dNil))))))
      (dPut (dVar 4) (dVar 7) (dC (.bl true)))
      dNx))
    (dRet (dCB cTuple (dCons (dCB cSortAF (dCons (dVar 4) dNil)) dNil)))))
abbrev N_stepped : List Str := ["machine", "stands", "side", "word", "met", "one", "leaf", "other"]
theorem str_beq (a b : Str) : (a == b) = decide (a = b) := beq_dec a b
theorem take_mem {α : Type} {xs : List α} {i : Nat} (hi : i < xs.length) {x : α} : x ∈ xs.take (i + 1) ↔ x ∈ xs.take i ∨ x = xs[i] := by
  rw [List.take_succ, List.getElem?_eq_getElem hi, List.mem_append]
  simp
theorem natlist_sm (xs : List Nat) : ∀ e ∈ natsD xs, Sm 60 e := fun e he => by
  obtain ⟨x, _, rfl⟩ := List.mem_map.mp he
  exact int_sm _ _
theorem inF_nat (m : Nat) (st : List Nat) : inF (.int m) (natsD st) = decide (m ∈ st) := by
  rw [inF_pl rfl (by simp [flD]) rfl (fun e he => (natlist_sm st e he).1)]
  exact decide_eq_decide.mpr natsD_mem
end Sh
set_option maxRecDepth 100000
set_option maxHeartbeats 4000000
namespace Rc
open PySem PySem.Spec L2
open Sh
open Dt hiding nkeys
/-! ShPt: what is a pattern. -/
def nameB (w : Str) : Bool := decide (1 ≤ w.length) && decide (w.length ≤ 8) && w.cps.toList.all fun c => decide (c ∈ (Str.ofString "abcdefghijklmnopqrstuvwxyz").cps.toList)
theorem nameB_of {w : Str} (h : Nm w) : nameB w = true := by
  simp only [nameB, Bool.and_eq_true, decide_eq_true_eq, List.all_eq_true]
  refine ⟨⟨h.1, h.2.1⟩, fun c hc => ?_⟩
  obtain ⟨h1, h2⟩ := h.2.2 c hc
  have : ∀ c : Nat, c < 123 → 97 ≤ c → c ∈ (Str.ofString "abcdefghijklmnopqrstuvwxyz").cps.toList := by decide +kernel
  exact this c (by omega) h1
def sp_is_name : DSp := fun ds S Q _ => ∃ w : Str, ds = [.str w] ∧ w.length ≤ 1000000 ∧ Q (.bl (nameB w)) S
theorem sp_is_name_mono : SpMono sp_is_name := fun ds S Q Q' E E' k _ ⟨d, h1, h2, h⟩ => ⟨d, h1, h2, k _ _ h⟩
def sp_is_one_of : DSp := fun ds S Q _ => ∃ (x : Str) (l : List Str) (d : D), ds = [.str x, d] ∧ (d = .rol (strsD l) ∨ d = .tup (strsD l)) ∧ okS x ∧ (∀ y ∈ l, okS y) ∧ Q (.bl (decide (x ∈ l))) S
theorem sp_is_one_of_mono : SpMono sp_is_one_of := fun ds S Q Q' E E' k _ ⟨x, l, d, h1, h2, h3, h4, h⟩ => ⟨x, l, d, h1, h2, h3, h4, k _ _ h⟩
def sp_is_word : DSp := fun ds S Q _ => ∃ w : Str, ds = [.str w] ∧ w.length ≤ 1000000 ∧ okS w ∧ Q (.bl (nameB w || decide (w = "*"))) S
theorem sp_is_word_mono : SpMono sp_is_word := fun ds S Q Q' E E' k _ ⟨d, h1, h2, h3, h⟩ => ⟨d, h1, h2, h3, k _ _ h⟩
def sp_is_leaf : DSp := fun ds S Q _ => ∃ p : Pt, ds = [ptD p] ∧ p.okP Nm ∧ Q (.bl p.isLeaf) S
theorem sp_is_leaf_mono : SpMono sp_is_leaf := fun ds S Q Q' E E' k _ ⟨d, h1, h2, h⟩ => ⟨d, h1, h2, k _ _ h⟩
/-- not too much right within one -/
def Pt.few (p : Pt) : Prop := ∀ q ∈ p.all, q.kids.length ≤ 39
def sp_parts_right : DSp := fun ds S Q _ => ∃ p : Pt, ds = [ptD p] ∧ p.okP Nm ∧ p.kids.length ≤ 39 ∧ Q (.rol (ptDs p.kids)) S
theorem sp_parts_right_mono : SpMono sp_parts_right := fun ds S Q Q' E E' k _ ⟨d, h1, h2, h3, h⟩ => ⟨d, h1, h2, h3, k _ _ h⟩
def sp_is_pattern : DSp := fun ds S Q _ => ∃ p : Pt, ds = [ptD p] ∧ p.okP Nm ∧ Pt.few p ∧ p.all.length ≤ 40 ∧ p.deep ≤ 10 ∧ Q (.bl true) S
theorem sp_is_pattern_mono : SpMono sp_is_pattern := fun ds S Q Q' E E' k _ ⟨d, h1, h2, h3, h4, h5, h⟩ => ⟨d, h1, h2, h3, h4, h5, k _ _ h⟩
theorem all_inC {al x : Str} {E : DW} {a b : Option D} {S : DH} {Q : DK} {G : DH → Prop} (hG : ∀ S, G S) (hx : x.length ≤ 100) (h : Q (.bl (x.cps.toList.all fun c => decide (c ∈ al.cps.toList))) S) :
    newO S (.lst []) fun p S1 => dLcL (dGN 1) dYes (dOp (dInS false) (dVar 1) (dC (.str al))) E [a, b] G p (fzK (fun d S1 => cAll [d] S1 Q) (.ref p)) (x.cps.toList.map signD) S1 := by
  have hs : x.cps.toList.length = x.length := by simp [Str.length]
  refine lcF_map (fun d => match d with | .str s => .bl (!(Builtin.Str.occurrences al s 0 al.length 1).isEmpty) | _ => .non) (fun _ _ _ => hG _) (fun d hd acc p N hp hl hN => ?_) (by rw [List.length_map, hs]; exact Nat.lt_of_le_of_lt hx (by decide)) ?_
  · obtain ⟨c, hc, rfl⟩ := List.mem_map.mp hd
    simp [signD]
    exact ⟨hl, hN⟩
  · refine ⟨_, x.cps.toList.map fun c => decide (c ∈ al.cps.toList), rfl, ?_, ?_⟩
    · simp only [seqD_rol, List.map_map]
      refine congrArg some (List.map_congr_left fun c _ => ?_)
      simp only [Function.comp, signD]
      rw [PySem.StrLaws.found_one]
    · rw [List.all_map]
      exact h
theorem one_of {x : Str} {l : List Str} {S : DH} {Q : DK} {E : DXK} (hx : okS x) (hl : ∀ y ∈ l, okS y) (h : Q (.bl (decide (x ∈ l))) S) : sp_is_one_of [.str x, .rol (strsD l)] S Q E := ⟨x, l, _, rfl, .inl rfl, hx, hl, h⟩
theorem one_ofT {x : Str} {l : List Str} {S : DH} {Q : DK} {E : DXK} (hx : okS x) (hl : ∀ y ∈ l, okS y) (h : Q (.bl (decide (x ∈ l))) S) : sp_is_one_of [.str x, .tup (strsD l)] S Q E := ⟨x, l, _, rfl, .inr rfl, hx, hl, h⟩
theorem okS_lit : okS "stay" ∧ okS "step" ∧ okS "at" ∧ okS "off" ∧ okS "on" ∧ okS "back" ∧ okS "many" ∧ okS "then" ∧ okS "either" := by
  unfold okS
  decide +kernel
theorem okS_star : okS "*" := by unfold okS; decide +kernel
theorem dSeqWhile_gen {c : DTT} {tb r : DTS} {A : DEnds} {τ : DSt} {S : DH} (h : ∀ B R, B = tb → R = r → dSeq (dWhile c B) R A τ S) : dSeq (dWhile c tb) r A τ S := h tb r rfl rfl
theorem inF_strsC {w : Str} {ms : List Str} : inF (.str w) (strsD ms) = decide (w ∈ ms) := by
  induction ms with
  | nil => simp [inF]
  | cons a ms ih =>
    simp only [strsD, List.map_cons, inF, List.any_cons] at ih ⊢
    rw [ih]
    simp [eqF]
    rw [str_beq]
    by_cases e : a = w
    · simp [e]
    · simp [e, Ne.symm e]
theorem deeps_mem {k : Pt} : ∀ {ps : List Pt}, k ∈ ps → k.deep ≤ Pt.deeps ps
  | p :: ps, h => by
    rw [Pt.deeps_cons]
    rcases List.mem_cons.mp h with rfl | z
    · omega
    · have := deeps_mem z
      omega
theorem kid_deep {t k : Pt} (h : k ∈ t.kids) : k.deep + 1 ≤ t.deep := by
  cases t with
  | seq b ps => have := deeps_mem (ps := ps) h; rw [Pt.deep_seq]; omega
  | many p => rw [List.mem_singleton.mp h, Pt.deep_many]; omega
  | _ => cases h
def t_is_name : DTS := (dSeq (dIf (dOr (dNot (dTest (dIsi "str" (dVar 0)))) (dOr (dTest (dOp rLt (dCB cLen (dCons (dVar 0) dNil)) (dC (.int 1)))) (dTest (dOp rGt (dCB cLen (dCons (dVar 0) dNil)) (dC (.int 8))))))
      (dRet (dC (.bl false)))
      dNx)
    (dRet (dCB cAll (dCons (dFz (dLc (dSeqI (dVar 0)) (dGN 1) dYes (dOp (dInS false) (dVar 1) (dC (.str "abcdefghijklmnopqrstuvwxyz"))) [1])) dNil))))
abbrev N_is_name : List Str := ["thing", "sign"]
def t_is_one_of : DTS := (dRet (dAndV (dIsi "str" (dVar 0)) (dOp (dIn false) (dVar 0) (dVar 1))))
abbrev N_is_one_of : List Str := ["thing", "some"]
def t_is_word : DTS := (dRet (dOrV (dCall sp_is_name (dCons (dVar 0) dNil)) (dAndV (dIsi "str" (dVar 0)) (dOp (dEq false) (dVar 0) (dC (.str "*"))))))
abbrev N_is_word : List Str := ["thing"]
def t_is_leaf : DTS := (dSeq (dIf (dOr (dNot (dTest (dIsi "tuple" (dVar 0)))) (dTest (dOp (dEq false) (dCB cLen (dCons (dVar 0) dNil)) (dC (.int 0)))))
      (dRet (dC (.bl false)))
      dNx)
    (dSeq (dIf (dTest (dCall sp_is_one_of (dCons (dOp dIxS (dVar 0) (dC (.int 0))) (dCons (dLstF (dCons (dC (.str "stay")) dNil)) dNil))))
      (dRet (dOp (dEq false) (dCB cLen (dCons (dVar 0) dNil)) (dC (.int 1))))
      dNx)
    (dSeq (dIf (dTest (dCall sp_is_one_of (dCons (dOp dIxS (dVar 0) (dC (.int 0))) (dCons (dLstF (dCons (dC (.str "step")) dNil)) dNil))))
      (dRet (dAndV (dOp (dEq false) (dCB cLen (dCons (dVar 0) dNil)) (dC (.int 3))) (dAndV (dCall sp_is_one_of (dCons (dOp dIxS (dVar 0) (dC (.int 1))) (dCons (dC (.tup [.str "on", .str "back"])) dNil))) (dCall sp_is_word (dCons (dOp dIxS (dVar 0) (dC (.int 2))) dNil)))))
      dNx)
    (dRet (dAndV (dCall sp_is_one_of (dCons (dOp dIxS (dVar 0) (dC (.int 0))) (dCons (dLstF (dCons (dC (.str "at")) (dCons (dC (.str "off")) dNil))) dNil))) (dAndV (dOp (dEq false) (dCB cLen (dCons (dVar 0) dNil)) (dC (.int 2))) (dCall sp_is_name (dCons (dOp dIxS (dVar 0) (dC (.int 1))) dNil))))))))
abbrev N_is_leaf : List Str := ["thing"]
def t_parts_right : DTS := (dSeq (dIf (dTest (dCall sp_is_leaf (dCons (dVar 0) dNil)))
      (dRet (dLstF dNil))
      dNx)
    (dSeq (dIf (dOr (dNot (dTest (dIsi "tuple" (dVar 0)))) (dTest (dOp (dEq true) (dCB cLen (dCons (dVar 0) dNil)) (dC (.int 2)))))
      (dRet (dC .non))
      dNx)
    (dSeq (dIf (dTest (dCall sp_is_one_of (dCons (dOp dIxS (dVar 0) (dC (.int 0))) (dCons (dLstF (dCons (dC (.str "many")) dNil)) dNil))))
      (dRet (dLstF (dCons (dOp dIxS (dVar 0) (dC (.int 1))) dNil)))
      dNx)
    (dSeq (dIf (dOr (dNot (dTest (dCall sp_is_one_of (dCons (dOp dIxS (dVar 0) (dC (.int 0))) (dCons (dLstF (dCons (dC (.str "then")) (dCons (dC (.str "either")) dNil))) dNil))))) (dNot (dTest (dIsi "tuple" (dOp dIxS (dVar 0) (dC (.int 1)))))))
      (dRet (dC .non))
      dNx)
    (dSeq (dIf (dTest (dOp rGt (dCB cLen (dCons (dOp dIxS (dVar 0) (dC (.int 1))) dNil)) (dC (.int 39))))
      (dRet (dC .non))
      dNx)
    (dRet (dCB cListAF (dCons (dOp dIxS (dVar 0) (dC (.int 1))) dNil))))))))
abbrev N_parts_right : List Str := ["thing"]
def t_is_pattern : DTS := (dSeq (dAsg (dLst (dCons (dTup (dCons (dVar 0) (dCons (dC (.int 1)) dNil))) dNil)) (dGN 1))
    (dSeq (dAsg (dC (.int 0)) (dGN 2))
    (dSeq (dWhile (dTest (dOp rGt (dCB cLen (dCons (dVar 1) dNil)) (dC (.int 0))))
      (dSeq (dAsg (dBM "list" mPop (dVar 1) dNil) (dGTupA 2 (dGCons (dGN 3) (dGCons (dGN 4) dGNil))))
    (dSeq (dAsg (dOp dAddF (dVar 2) (dC (.int 1))) (dGN 2))
    (dSeq (dAsg (dCall sp_parts_right (dCons (dVar 3) dNil)) (dGN 5))
    (dSeq (dIf (dOr (dTest (dOp (dIsN false) (dVar 5) (dC .non))) (dOr (dTest (dOp rGt (dVar 4) (dC (.int 10)))) (dTest (dOp rGt (dVar 2) (dC (.int 40))))))
      (dRet (dC (.bl false)))
      dNx)
    (dDrop (dBM "list" mExtend (dVar 1) (dCons (dFz (dLc (dSeqI (dVar 5)) (dGN 6) dYes (dTup (dCons (dVar 6) (dCons (dOp dAddF (dVar 4) (dC (.int 1))) dNil))) [6])) dNil))))))))
    (dRet (dC (.bl true))))))
abbrev N_is_pattern : List Str := ["thing", "left", "count", "part", "deep", "some", "one"]
theorem r_is_name (ds S Q E) (h : sp_is_name ds S Q E) : t_is_name (dEnd Q E) (dstart N_is_name ds) S := by
  obtain ⟨x, rfl, hx, h⟩ := h
  simp [t_is_name, dstart]
  refine ⟨by omega, ?_⟩
  by_cases c1 : x.length < 1
  · rw [if_pos (by omega)]
    have : nameB x = false := by simp [nameB]; omega
    rw [this] at h
    exact .same h
  rw [if_neg (by omega)]
  refine ⟨by omega, ?_⟩
  by_cases c2 : 8 < x.length
  · rw [if_pos (by omega)]
    have : nameB x = false := by simp [nameB]; omega
    rw [this] at h
    exact .same h
  rw [if_neg (by omega)]
  refine all_inC (fun _ => trivial) (by omega) (.same ?_)
  have e : (x.cps.toList.all fun c => decide (c ∈ (Str.ofString "abcdefghijklmnopqrstuvwxyz").cps.toList)) = nameB x := by
    have a1 : 1 ≤ x.length := by omega
    have a2 : x.length ≤ 8 := by omega
    simp only [nameB, a1, a2, decide_true, Bool.true_and]
  rw [e]
  exact h
theorem r_is_one_of (ds S Q E) (h : sp_is_one_of ds S Q E) : t_is_one_of (dEnd Q E) (dstart N_is_one_of ds) S := by
  obtain ⟨x, l, d, rfl, hd, hx, hl, h⟩ := h
  have hin : decide (D.str x ∈ strsD l) = decide (x ∈ l) := by
    refine decide_eq_decide.mpr ?_
    simp [strsD]
  have hs : ∀ e ∈ strsD l, Sm 60 e := fun e he => by
    obtain ⟨y, hy, rfl⟩ := List.mem_map.mp he
    exact Sm_str.mpr (hl y hy)
  rcases hd with rfl | rfl
  · simp [t_is_one_of, dstart]
    refine dInQ_sm (Sm_str.mpr hx) hs ?_
    simp only [Bool.false_eq_true, ↓reduceIte, hin]
    exact .same h
  · simp [t_is_one_of, dstart]
    rw [inF_strsC]
    exact .same h
theorem r_is_word (ds S Q E) (h : sp_is_word ds S Q E) : t_is_word (dEnd Q E) (dstart N_is_word ds) S := by
  obtain ⟨x, rfl, hx, ho, h⟩ := h
  simp [t_is_word, dstart]
  refine ⟨x, rfl, hx, ?_⟩
  cases hb : nameB x
  · simp
    rw [hb] at h
    exact .same (by simpa [str_beq] using h)
  · rw [hb] at h
    exact .same h
theorem r_is_leaf (ds S Q E) (h : sp_is_leaf ds S Q E) : t_is_leaf (dEnd Q E) (dstart N_is_leaf ds) S := by
  obtain ⟨p, rfl, ho, h⟩ := h
  have hs := ho _ (Pt.self_all p)
  obtain ⟨o1, o2, o3, o4, o5, o6, o7, o8, o9⟩ := okS_lit
  have m1 : ∀ y ∈ ([Str.ofString "stay"] : List Str), okS y := by simpa using o1
  have m2 : ∀ y ∈ ([Str.ofString "step"] : List Str), okS y := by simpa using o2
  have m3 : ∀ y ∈ ([Str.ofString "at", Str.ofString "off"] : List Str), okS y := by simpa using ⟨o3, o4⟩
  have m4 : ∀ y ∈ ([Str.ofString "on", Str.ofString "back"] : List Str), okS y := by simpa using ⟨o5, o6⟩
  unfold t_is_leaf
  cases p with
  | stay =>
    simp [dstart, ptD]
    refine one_of (l := [Str.ofString "stay"]) o1 m1 ?_
    simp
    exact .same h
  | step b w =>
    have hw : okS w ∧ w.length ≤ 1000000 ∧ (nameB w || decide (w = "*")) = true := by
      rcases hs with rfl | hs
      · exact ⟨okS_star, by decide +kernel, by decide +kernel⟩
      · exact ⟨nm_ok hs, by have := hs.2.1; omega, by rw [nameB_of hs]; rfl⟩
    simp [dstart, ptD]
    refine one_of (l := [Str.ofString "stay"]) o2 m1 ?_
    simp
    refine one_of (l := [Str.ofString "step"]) o2 m2 ?_
    simp
    refine one_ofT (l := [Str.ofString "on", Str.ofString "back"]) (by cases b <;> assumption) m4 ?_
    cases b
    all_goals
      simp
      refine ⟨w, rfl, hw.2.1, hw.1, ?_⟩
      rw [hw.2.2]
      exact .same h
  | mark b m =>
    have hs' : Nm m := hs
    simp [dstart, ptD]
    refine one_of (l := [Str.ofString "stay"]) (by cases b <;> assumption) m1 ?_
    cases b
    all_goals
      simp
      refine one_of (l := [Str.ofString "step"]) (by assumption) m2 ?_
      simp
      refine one_of (l := [Str.ofString "at", Str.ofString "off"]) (by assumption) m3 ?_
      simp
      refine ⟨m, rfl, by have := hs'.2.1; omega, ?_⟩
      rw [nameB_of hs']
      exact .same h
  | seq b ps =>
    simp [dstart, ptD]
    refine one_of (l := [Str.ofString "stay"]) (by cases b <;> assumption) m1 ?_
    cases b
    all_goals
      simp
      refine one_of (l := [Str.ofString "step"]) (by assumption) m2 ?_
      simp
      refine one_of (l := [Str.ofString "at", Str.ofString "off"]) (by assumption) m3 ?_
      simp
      exact .same h
  | many p =>
    simp [dstart, ptD]
    refine one_of (l := [Str.ofString "stay"]) (by assumption) m1 ?_
    simp
    refine one_of (l := [Str.ofString "step"]) (by assumption) m2 ?_
    simp
    refine one_of (l := [Str.ofString "at", Str.ofString "off"]) (by assumption) m3 ?_
    simp
    exact .same h
theorem r_parts_right (ds S Q E) (h : sp_parts_right ds S Q E) : t_parts_right (dEnd Q E) (dstart N_parts_right ds) S := by
  obtain ⟨p, rfl, ho, hk, h⟩ := h
  obtain ⟨o1, o2, o3, o4, o5, o6, o7, o8, o9⟩ := okS_lit
  have m1 : ∀ y ∈ ([Str.ofString "many"] : List Str), okS y := by simpa using o7
  have m3 : ∀ y ∈ ([Str.ofString "then", Str.ofString "either"] : List Str), okS y := by simpa using ⟨o8, o9⟩
  unfold t_parts_right
  refine dSeqIf_gen fun A B R hA hB hR => ?_
  simp [dstart]
  refine ⟨p, rfl, ho, ?_⟩
  cases hl : p.isLeaf
  · simp
    subst hB
    simp
    subst hR
    cases p with
    | seq b ps =>
      have hk' : ps.length ≤ 39 := hk
      simp [ptD]
      refine one_of (l := [Str.ofString "many"]) (by cases b <;> assumption) m1 ?_
      cases b
      all_goals
        simp
        refine one_of (l := [Str.ofString "then", Str.ofString "either"]) (by assumption) m3 ?_
        simp [ptDs_len]
        rw [if_neg (by omega)]
        exact .same h
    | many p =>
      simp [ptD]
      refine one_of (l := [Str.ofString "many"]) (by assumption) m1 ?_
      simp
      exact .same h
    | _ => simp [Pt.isLeaf] at hl
  · simp
    subst hA
    simp
    cases p <;> simp [Pt.isLeaf] at hl <;> exact .same h
theorem r_is_pattern (ds S Q E) (h : sp_is_pattern ds S Q E) : t_is_pattern (dEnd Q E) (dstart N_is_pattern ds) S := by
  obtain ⟨p, rfl, ho, hf, h40, h10, h⟩ := h
  unfold t_is_pattern
  refine dSeq_gen fun R hR => ?_
  simp [dstart]
  intro l hl
  subst hR
  refine dSeq_gen fun R hR => ?_
  simp
  subst hR
  refine dSeqWhile_gen fun B R hB hR => ?_
  refine while_inv (fun τ S' => ∃ (L : List (Pt × Nat)) (c : Nat) (x3 x4 x5 x6 : Option D), τ = [some (ptD p), some (.ref l), some (.int (c : Nat)), x3, x4, x5, x6] ∧ S' = upo S l (.lst (L.map fun e => .tup [ptD e.1, .int (e.2 : Nat)])) ∧
      c + (L.flatMap fun e => e.1.all).length = p.all.length ∧ ∀ e ∈ L, e.1.okP Nm ∧ Pt.few e.1 ∧ e.2 + e.1.deep ≤ 11)
    (fun (τ : DSt) _ => match τ[2]? with | some (some (D.int j)) => (200000 - j).toNat | _ => 0) ⟨[(p, 1)], 0, none, none, none, none, rfl, rfl, by simp, by simp; exact ⟨ho, hf, by omega⟩⟩ ?_
  rintro τ S2 N ⟨L, c, x3, x4, x5, x6, rfl, rfl, hc, hL⟩ hN
  rcases List.eq_nil_or_concat L with rfl | ⟨L0, ⟨t, dp⟩, rfl⟩
  · simp
    subst hR
    simp
    exact .keep (S := S) (Sub.new hl) h
  · have hte := hL (t, dp) (by simp)
    have htk : t.kids.length ≤ 39 := hte.2.1 t (Pt.self_all t)
    simp
    subst hB
    refine dSeq_gen fun R' hR' => ?_
    simp
    subst hR'
    refine dSeq_gen fun R' hR' => ?_
    simp
    subst hR'
    refine dSeq_gen fun R' hR' => ?_
    simp
    refine ⟨t, rfl, hte.1, htk, ?_⟩
    subst hR'
    refine dSeqIf_gen fun A B R' hA hB hR' => ?_
    have hlen : c + 1 + ((L0.flatMap fun e => e.1.all).length + (t.all.length - 1)) = p.all.length := by
      have := Pt.all_pos t
      have e1 : ([(t, dp)].flatMap fun e : Pt × Nat => e.1.all).length = t.all.length := by simp
      rw [List.concat_eq_append, List.flatMap_append, List.length_append, e1] at hc
      omega
    have hdd : dp ≤ 10 := by
      have h1 := hte.2.2
      have h2 : 1 ≤ t.deep := by cases t <;> simp [Pt.deep]
      simp at h1
      omega
    simp
    rw [if_neg (by omega), if_neg (by omega)]
    subst hB
    simp
    subst hR'
    have hk : (t.kids.flatMap Pt.all).length + 1 = t.all.length := by rw [Pt.all_kids t]; simp
    simp
    refine lcF_map (G := fun _ => True) (fun d => .tup [d, .int ((dp : Int) + 1)]) (fun _ _ _ => trivial) (fun d hd acc p N hp hl hN => ?_) (by rw [ptDs_len]; exact Nat.lt_of_le_of_lt htk (by decide)) ?_
    · simp
      exact ⟨by simpa using hl, hN⟩
    · simp
      have hpl : p.all.length ≤ 40 := h40
      have hL0 : L0.length ≤ 40 := by
        have : ∀ M : List (Pt × Nat), M.length ≤ (M.flatMap fun e => e.1.all).length := fun M => by
          induction M with
          | nil => simp
          | cons e M ih => rw [List.flatMap_cons, List.length_append, List.length_cons]; have := Pt.all_pos e.1; omega
        have := this L0
        omega
      have hkid : ∀ (ks : List Pt) (m : Nat), ((ks.map fun k => (k, m)).flatMap fun e : Pt × Nat => e.1.all) = ks.flatMap Pt.all := fun ks m => by
        rw [List.flatMap_map]
      refine ⟨by rw [ptDs_len]; omega, hN _ _ ⟨L0 ++ t.kids.map fun k => (k, dp + 1), c + 1, _, _, _, _, rfl, ?_, ?_, fun e he => ?_⟩ ?_⟩
      · congr 2
        rw [List.map_append, ptDs_map]
        simp
      · rw [List.flatMap_append, hkid, List.length_append]
        omega
      · rcases List.mem_append.mp he with he | he
        · exact hL e (by rw [List.concat_eq_append]; exact List.mem_append_left _ he)
        · obtain ⟨k, hk1, rfl⟩ := List.mem_map.mp he
          refine ⟨okP_kids hte.1 hk1, fun r hr => hte.2.1 r (by rw [Pt.all_kids]; exact List.mem_cons_of_mem _ (List.mem_flatMap.mpr ⟨k, hk1, hr⟩)), ?_⟩
          have := hte.2.2
          have h3 : k.deep + 1 ≤ t.deep := kid_deep hk1
          simp at this ⊢
          omega
      · simp
        omega
end Rc
set_option maxRecDepth 100000
set_option maxHeartbeats 4000000
namespace Dt
open PySem PySem.Spec L2 PySem.W PyProof.Rows
section
variable {X : Cx} {pins : List (Addr × Obj)} {σ : L2.St} {H : Hp} {s : Shared} {a : Addr} {u : HO}
theorem LeH.thaw {H' : Hp} (le : LeH H H') (e : H a = some u) (mu : Mut (some u)) {v : HO} : LeH H (upd H' a v) :=
  ⟨fun p xs z => by rw [upd_ne (fun q => by rw [q, e] at z; cases z; exact mu)]; exact le.tup p xs z, fun p o w z => by rw [upd_ne (fun q => by rw [q, e] at z; cases z; exact mu)]; exact le.fz p o w z⟩
theorem LeW.thaw {o : Obj} (e : H a = some (.frz o u)) (mu : Mut (some u)) (nl : ∀ xs, u ≠ .lst xs) {v : HO} : LeW H (upd H a v) :=
  ⟨fun p xs z => by rw [upd_ne (fun q => by rw [q, e] at z; cases z)]; exact z, fun p o xs z => by rw [upd_ne (fun q => by rw [q, e] at z; cases z; exact nl _ rfl)]; exact z, fun p o xs z => by rw [upd_ne (fun q => by rw [q, e] at z; cases z; exact mu)]; exact z⟩
/-- the keys of the locked dict at d, as a row -/
def Itz (d : Addr) (o : Obj) (u : HO) (xs : List V) : It :=
  ⟨fun i H => H d = some (.frz o u) ∧ i < xs.length, fun i H x H' => H' = H ∧ xs[i]? = some x, fun i H => H d = some (.frz o u) ∧ xs.length ≤ i⟩
/-- for x in d: d is not written in the meantime -/
def iZ (X : Cx) (td : TE) : TI := fun σ H R => td σ H fun x H1 => ∃ d ob ks, x = .ref d ∧ ROb X.w X.K H1 d ob ∧ keysO ob = some ks ∧
  ∀ o u xs, H1 d = some u → Mut (some u) → RDs X.K H1 ks xs → (∀ o' u', X.H_0 d ≠ some (.frz o' u')) → R (Itz d o u xs) (upd H1 d (.frz o u))
end
section
variable {X : Cx} {elt tg iter : Expr} {ifs : List Expr} {scope : Scope} {own : List (Str × Nat)} {pos spos py : Pos} {g : DTG} {tt : DTT} {te tl : DTE}
/-- [.. for x in d if ..], d a dict that is not written in the meantime (nor read) -/
@[simp] def dLcK (tl : DTE) (g : DTG) (tt : DTT) (te : DTE) (vs : List Nat) : DTE := fun E τ S Q => tl E τ S fun d S1 => match d with
  | .ref a => (match S1 a with
    | some ob => opt (keysO ob) fun ks => ∀ p, S1 p = none → dLcL g tt te DW0 (wipeD τ vs) (fun _ => True) p (fun S' => Q (.ref p) (upo S' a ob)) ks (upo (delo S1 a) p (.lst []))
    | none => False)
  | _ => False
/-- what the comprehension leaves, ahead of the thaw -/
def QZ (X : Cx) (Q : VK) : VK := fun v H' => ∃ (a : Addr) (o : Obj) (u : HO), H' a = some (.frz o u) ∧ (∀ o' u', X.H_0 a ≠ some (.frz o' u')) ∧ Q v (upd H' a u)
end
end Dt
set_option maxRecDepth 100000
set_option maxHeartbeats 4000000
namespace Dt
open PySem PySem.Spec L2 PyProof.Rows
section
variable {X : Cx}
/-! ### count, index, remove: plain data -/
def mCount : RMD := fun d ds S Q => ∃ (y : D) (xs : List D), ds = [y] ∧ seqD S d = some xs ∧ Sm 60 y ∧ (∀ x ∈ xs, Sm 60 x) ∧ Q (.int (xs.count y : Nat)) S
theorem countP_P {y : D} (hy : pl y = true) : ∀ {xs : List D}, (∀ x ∈ xs, pl x = true) → ((toPs xs).countP fun z => PyData.eqv z (toP y)) = xs.count y
  | [], _ => rfl
  | x :: xs, h => by
    have ih := countP_P hy (xs := xs) fun z hz => h z (List.mem_cons_of_mem _ hz)
    simp only [toPs, List.countP_cons, List.count_cons, ih, eqv_P x y (h x (List.mem_cons_self ..)) hy, deq_dec]
    by_cases e : x = y <;> simp [e]
theorem Sm.all_pl {n : Nat} {xs : List D} (h : ∀ x ∈ xs, Sm n x) : ∀ x ∈ xs, pl x = true := fun x hx => (h x hx).1
theorem plainAll_of : ∀ {ps : List PyData}, PyData.canLayAll0 ps = true → PyData.plainAll ps = true := fun {ps} h => by
  have := PyData.plain_of_canLay0 (.list ps) (by simpa [PyData.canLay0] using h)
  simpa [PyData.plain] using this
def mIndex : RMD := fun d ds S Q => ∃ (y : D) (xs : List D) (j : Nat), ds = [y] ∧ seqD S d = some xs ∧ Sm 60 y ∧ (∀ x ∈ xs, Sm 60 x) ∧ xs[j]? = some y ∧ (∀ m, m < j → xs[m]? ≠ some y) ∧ Q (.int j) S
def mRemove : RMD := fun d ds S Q => mLst ds d S fun xs up => ∃ (y : D) (j : Nat), ds = [y] ∧ Sm 60 y ∧ (∀ x ∈ xs, Sm 60 x) ∧ xs[j]? = some y ∧ (∀ m, m < j → xs[m]? ≠ some y) ∧ Q .non (up (xs.eraseIdx j))
@[simp] def mClear : RMD := fun d ds S Q => mLst ds d S fun xs up => match ds with | [] => Q .non (up []) | _ => False
@[simp] def mPopAt : RMD := fun d ds S Q => mLst ds d S fun xs up => match ds with | [.int i] => (-(2 ^ 63) ≤ i ∧ i < 2 ^ 63) ∧ opt (seqIndex? i xs.length) fun k => opt xs[k]? fun y => Q y (up (xs.eraseIdx k)) | _ => False
/-! ### texts -/
@[simp] def mSplit : RMD := fun d ds S Q => match d, ds with | .str a, [.str b] => (b.length == 0) = false ∧ a.length + 2 ≤ sizeLine ∧ newO S (.lst ((Txt.split a b).map D.str)) fun p S' => Q (.ref p) S' | _, _ => False
@[simp] def cStr : RCD := fun ds S Q => match ds with | [.int i] => i.natAbs.log2 < 1920 ∧ Q (.str (toString i)) S | [.str a] => Q (.str a) S | _ => False
theorem cd_str : CallD X (.type "str") cStr := by
  refine ⟨fun ds S Q Q' k h => ?_, fun pins s σ H vs us Q I rv ⟨ds, S, rep, rd, h⟩ => ?_⟩
  · match ds, h with
    | [.int i], h => exact ⟨h.1, k _ _ h.2⟩
    | [.str i], h => exact k _ _ h
  · match ds, h with
    | [.int i], h =>
      obtain ⟨v, rfl, r⟩ := rds1 rd
      cases r
      exact call_str_int pins s σ H _ us Q I rv ⟨i, rfl, h.1, h.2 _ H (LeH.refl H) rep rfl⟩
    | [.str i], h =>
      obtain ⟨v, rfl, r⟩ := rds1 rd
      cases r
      exact SkE.call_str_str pins s σ H _ us Q I rv ⟨i, rfl, h _ H (LeH.refl H) rep rfl⟩
@[simp] def cIntS : RCD := fun ds S Q => match ds with | [.int i] => Q (.int i) S | [.bl b] => Q (.int (if b then 1 else 0)) S | [.str a] => a.length ≤ 640 ∧ opt (PySem.intText? a) fun n => Q (.int n) S | _ => False
theorem cd_intS : CallD X (.type "int") cIntS := by
  refine ⟨fun ds S Q Q' k h => ?_, fun pins s σ H vs us Q I rv ⟨ds, S, rep, rd, h⟩ => ?_⟩
  · match ds, h with
    | [.int i], h => exact k _ _ h
    | [.bl i], h => exact k _ _ h
    | [.str a], h => exact ⟨h.1, opt_mono (fun _ z => k _ _ z) h.2⟩
  · match ds, h with
    | [.int i], h => exact cd_int.run pins s σ H vs us Q I rv ⟨[.int i], S, rep, rd, h⟩
    | [.bl i], h => exact cd_int.run pins s σ H vs us Q I rv ⟨[.bl i], S, rep, rd, h⟩
    | [.str a], h =>
      obtain ⟨v, rfl, r⟩ := rds1 rd
      cases r
      obtain ⟨n, e, z⟩ := opt_ex h.2
      exact call_int_str pins s σ H _ us Q I rv ⟨a, n, rfl, e, h.1, z _ H (LeH.refl H) rep rfl⟩
end
section
variable {X : Cx} {tg l : Expr} {tl : DTE} {p pos : Pos}
@[simp] def dRev (tl : DTE) : DTI := fun E τ S R => tl E τ S fun d S1 => match d with
  | .tup ds => R (fun _ => True) ds.reverse S1
  | .rol ds => R (fun _ => True) ds.reverse S1
  | .ref a => (match S1 a with | some (.lst ds) => R (fun S => S a = some (.lst ds)) ds.reverse S1 | _ => False)
  | _ => False
/-! ### e[::-1] of a list -/
@[simp] def dRevL (tl : DTE) : DTE := fun E τ S Q => tl E τ S fun d S1 => opt (seqD S1 d) fun xs => newO S1 (.lst xs.reverse) fun p S' => Q (.ref p) S'
@[simp] def dRevLF (tl : DTE) : DTE := fun E τ S Q => tl E τ S fun d S1 => opt (seqD S1 d) fun xs => Q (.rol xs.reverse) S1
/-! ### tuple(reversed(e)), e a list -/
@[simp] def dTupRev (tl : DTE) : DTE := fun E τ S Q => tl E τ S fun d S1 => opt (seqD S1 d) fun xs => Q (.tup xs.reverse) S1
end
theorem hu65 {A : Around} (h : A.units + 120 < cLine) : A.units + 65 < cLine := by omega
end Dt
set_option maxRecDepth 100000
set_option maxHeartbeats 4000000
namespace Dt
open PySem PySem.Spec L2 PyProof.Rows
section
variable {prog : Program} {w : World} {A : Around} {E : Value → Shared → Prop} {s : Shared} {R : Result → Shared → Prop}
end
section
variable {prog : Program} {w : World} {A : Around} {E : Value → Shared → Prop} {s : Shared} {R : Result → Shared → Prop}
end
section
variable {X : Cx} {l : Expr} {tl : DTE} {te : TE} {p p2 pos pos2 : Pos}
/-- tuple(reversed(x)), x a list or a tuple -/
def tTupRevA (K : PySem.W.Frag) (te : TE) : TE := fun σ H Q => te σ H fun v H1 => ∃ (a : Addr) (xs : List V), v = .ref a ∧ SqT K H1 a xs ∧ ∀ q i n, H1 q = none → Q (.ref q) (upd H1 q (tupO i n xs.reverse))
@[simp] def dTupRevT (tl : DTE) : DTE := fun E τ S Q => tl E τ S fun d S1 => match d with | .tup xs => Q (.tup xs.reverse) S1 | _ => False
end
end Dt
set_option maxRecDepth 100000
set_option maxHeartbeats 4000000
namespace Dt
open PySem PySem.Spec L2 PyProof.Rows
section
variable {prog : Program} {w : World} {A : Around} {E : Value → Shared → Prop} {s : Shared} {R : Result → Shared → Prop}
end
section
variable {X : Cx} {l : Expr} {tl : DTE} {te : TE} {p p2 pos pos2 : Pos}
/-- list(reversed(x)), x a tuple -/
def tLstRevA (K : PySem.W.Frag) (te : TE) : TE := fun σ H Q => te σ H fun v H1 => ∃ (a : Addr) (xs : List V), v = .ref a ∧ SqT K H1 a xs ∧ ∀ q, H1 q = none → Q (.ref q) (upd H1 q (.lst xs.reverse))
@[simp] def dLstRevT (tl : DTE) : DTE := fun E τ S Q => tl E τ S fun d S1 => match d with | .tup xs => newO S1 (.lst xs.reverse) fun p S' => Q (.ref p) S' | _ => False
@[simp] def dLstRevTF (tl : DTE) : DTE := fun E τ S Q => tl E τ S fun d S1 => match d with | .tup xs => Q (.rol xs.reverse) S1 | _ => False
end
end Dt
set_option maxRecDepth 100000
set_option maxHeartbeats 4000000
/-! DatE: exceptions: made, raised, caught, asked. -/
namespace Dt
open PySem PySem.Spec L2 PyProof.Rows
/-! ### an exception that is being made -/
/-- the base's __init__ is ValueError's -/
structure BaseI (K : PySem.W.Frag) (B : Addr) : Prop where
  rd : PySem.W.readsIn K B (.type "type") = true
  ga : PySem.W.specialIn K (.ref B) "__getattribute__" = some (some (.builtin "type.__getattribute__"))
  ini : PySem.W.findCls K (.ref B) (.type "type") "__init__" = some (.val (.builtin "ValueError.__init__"))
/-- B.__init__(self, ..) -/
@[simp] def dVeI (C : Addr) (t : DTA) : DTE := fun E τ S Q => t E τ S fun ds S1 => match ds with
  | .ref a :: ws => ws.length ≤ 1000 ∧ S1 a = some (.ex0 C) ∧ Q .non S1
  | _ => False
/-- self.f = e -/
def dPutXK (C : Addr) (f : Str) (y : D) (N : DH → Prop) : D → DH → Prop := fun d S2 => match d with
  | .ref a => (match S2 a with
    | some (.ex0 C') => C' = C ∧ newO S2 (.xm [(f, y)]) fun dx S3 => N (upo S3 a (.ex1 C dx))
    | some (.ex1 C' dx) => C' = C ∧ (match S2 dx with | some (.xm fs) => fs.length ≤ 900 ∧ N (upo S2 dx (.xm ((f, y) :: fs))) | _ => False)
    | _ => False)
  | _ => False
@[simp] def dPutX (C : Addr) (f : Str) (to te : DTE) : DTS := fun A τ S => te A.xe τ S fun y S1 => to A.xe τ S1 (dPutXK C f y (A.nx τ))
section
variable {X : Cx} {B C : Addr} {o e : Expr} {es : List Expr} {x f : Str} {t : DTA} {to te : DTE} {p p' p1 p2 pos : Pos}
end
/-! ### C(..), an exception -/
section
variable {X : Cx} {pins : List (Addr × Obj)} {σ : L2.St}
variable {k : Nat} {fI C : Addr} {fd : FuncData} {ps : List Str} {sp : DSp} {s : Shared}
end
/-! ### what is known of such a class -/
def xfactB (K : PySem.W.Frag) (C fI : Addr) (fl : List Str) : Bool :=
  decide (PySem.W.findIn K (.ref C) "__setattr__" = some (some (.builtin "object.__setattr__"))) && (decide (PySem.W.subIn K (.ref C) (.type "BaseException") = some true) && (decide (PySem.W.typeIn K (.ref C) = some (.type "type")) && (PySem.W.keepIn K (.ref C) &&
  (decide (PySem.W.findIn K (.ref C) "__init__" = some (some (.ref fI))) && (decide (PySem.W.typeIn K (.ref fI) = some (.type "function")) && (decide (PySem.W.findIn K (.ref C) "__getattribute__" = some (some (.builtin "BaseException.__getattribute__"))) && (decide (PySem.W.findIn K (.ref C) "__getattr__" = some none) &&
  (PySem.W.hasDictIn K C && (decide (PySem.W.findIn K (.ref C) "__class__" = some (some (.builtin "object.__class__"))) && (decide (PySem.W.specialIn K (.builtin "object.__class__") "__get__" = some (some (.builtin "getset_descriptor.__get__"))) && (decide (PySem.W.takesIn K (.builtin "object.__class__") = some true) &&
  (decide (PySem.W.mroIn K C (.type "object") = some true) && fl.all fun f => decide (PySem.W.findIn K (.ref C) f = some none)))))))))))))
/-- an own class of exceptions: fI its __init__, fl its fields -/
structure ExT (K : PySem.W.Frag) (C fI : Addr) (fl : List Str) : Prop where
  oc : OexC K C
  ini : PySem.W.findIn K (.ref C) "__init__" = some (some (.ref fI))
  ty : PySem.W.typeIn K (.ref fI) = some (.type "function")
  xf : XfC K C
  ec : ExcC K C
  no : ∀ f ∈ fl, NoAttr K C f
def basefB (K : PySem.W.Frag) (B : Addr) : Bool := PySem.W.readsIn K B (.type "type") && (decide (PySem.W.specialIn K (.ref B) "__getattribute__" = some (some (.builtin "type.__getattribute__"))) && decide (PySem.W.findIn K (.ref B) "__init__" = some (some (.builtin "ValueError.__init__"))))
/-- isinstance of such exceptions: the answers by their class -/
def kitfB (K : PySem.W.Frag) (c : Value) (subs : List (Addr × Bool)) : Bool := subs.all fun p => decide (PySem.W.kitOne K (.ref p.1) c = some p.2)
def kitsB (K : PySem.W.Frag) (cs : List Value) (subs : List (Addr × Bool)) : Bool := subs.all fun p => decide (PySem.W.kitAny K (.ref p.1) cs = some p.2)
/-- except c: the answers by their class -/
def exmfB (K : PySem.W.Frag) (c : Value) (subs : List (Addr × Bool)) : Bool := subs.all fun p => decide (PySem.W.exmOne K (.ref p.1) c = some p.2)
/-! ### raise C(..), C(..) as a value -/
@[simp] def dRaise (C : Addr) (sp : DSp) (t : DTA) : DTS := fun A τ S => t A.xe τ S fun ds S1 => ds.length ≤ 1000 ∧ ∀ a, S1 a = none → sp (.ref a :: ds) (upo S1 a (.ex0 C))
  (fun d S' => d = .non ∧ ∃ dx fs, dx ≠ a ∧ S' a = some (.ex1 C dx) ∧ S' dx = some (.xm fs) ∧ A.xe C fs τ (delo (delo S' a) dx)) fun _ _ _ => False
@[simp] def dMakeX (C : Addr) (sp : DSp) (t : DTA) : DTE := fun E τ S Q => t E τ S fun ds S1 => ds.length ≤ 1000 ∧ ∀ a, S1 a = none → sp (.ref a :: ds) (upo S1 a (.ex0 C))
  (fun d S' => d = .non ∧ ∃ dx fs, dx ≠ a ∧ S' a = some (.ex1 C dx) ∧ S' dx = some (.xm fs) ∧ Q (.ref a) (upo (upo (delo (delo S' a) dx) dx (.xd fs)) a (.exc C dx))) fun _ _ _ => False
section
variable {X : Cx} {k : Nat} {fI C : Addr} {fd : FuncData} {ps fl : List Str} {sp : DSp} {x : Str} {e : Expr} {es : List Expr} {t : DTA} {p pos pos' : Pos}
end
/-! ### asking an exception -/
def dFldXK (Cs : List Addr) (f : Str) (Q : DK) : DK := fun d S1 => match d with
  | .ref a => (match S1 a with
    | some (.exc C dd) => C ∈ Cs ∧ (match S1 dd with | some (.xd fs) => opt (fs.lookup f) fun v => Q v S1 | _ => False)
    | _ => False)
  | _ => False
/-- e.f -/
@[simp] def dFldX (Cs : List Addr) (f : Str) (te : DTE) : DTE := fun E τ S Q => te E τ S (dFldXK Cs f Q)
/-- isinstance(e, c): the answers by e's class -/
def dIsEK (subs : List (Addr × Bool)) (Q : DK) : DK := fun d S1 => match d with
  | .ref a => (match S1 a with | some (.exc C dd) => (∃ fs, S1 dd = some (.xd fs)) ∧ ∃ b, (C, b) ∈ subs ∧ Q (.bl b) S1 | _ => False)
  | _ => False
@[simp] def dIsE (subs : List (Addr × Bool)) (te : DTE) : DTE := fun E τ S Q => te E τ S (dIsEK subs Q)
section
variable {X : Cx} {pins : List (Addr × Obj)} {σ : L2.St} {H : Hp} {s : Shared} {a C dd : Addr}
end
section
variable {X : Cx} {e : Expr} {te : DTE} {f x : Str} {p p2 pos : Pos} {Cs : List Addr} {subs : List (Addr × Bool)} {C : Addr}
def rIsX (K : PySem.W.Frag) (c : V) (cv : Value) : List V → Hp → VK → Prop := fun xs H Q => ∃ (a C dd : Addr) (fs : List (Str × V)) (b : Bool), xs = [.ref a, c] ∧ ExcC K C ∧ H a = some (excHO C dd a) ∧ H dd = some (.xd fs) ∧ PySem.W.kitOne K (.ref C) cv = some b ∧ Q (.bl b) H
/-- class names, one by one -/
@[simp] def dCs (cs : List Addr) : DTA := fun _ _ S Q => Q (cs.map D.ref) S
def rIsXs (K : PySem.W.Frag) (cs : List Addr) : List V → Hp → VK → Prop := fun xs H Q => ∃ (a C dd : Addr) (fs : List (Str × V)) (b : Bool) (tp : Addr), xs = [.ref a, .ref tp] ∧ ExcC K C ∧ H a = some (excHO C dd a) ∧ H dd = some (.xd fs) ∧ SqT K H tp (cs.map V.ref) ∧ PySem.W.kitAny K (.ref C) (cs.map Value.ref) = some b ∧ Q (.bl b) H
end
/-! ### defs that may be called where an exception is handled -/
structure DFnT (P : Program) (w : World) (K : PySem.W.Frag) (mg : Str → Option Value) (base : Heap) (k : Nat) (f : Addr) (fd : FuncData) (ps : List Str) (sp : DSp) : Prop where
  mono : ∀ ds S (Q Q' : DK) (E E' : DXK), (∀ d S', Q d S' → Q' d S') → (∀ C fs S', E C fs S' → E' C fs S') → sp ds S Q E → sp ds S Q' E'
  len : ∀ ds S Q E, sp ds S Q E → ds.length = ps.length
  run : ∀ (A : Around) (outer : List Env) (s : Shared) (H : Hp) (args : Args) (us : List Value) (vs : List V) (Q : VK) (E : XK), L2H.RoomH k A → A.guards = some [] → Env0 P w K mg base A outer s H → BindsTo s fd args (ps.zip us) → Vals vs us →
    upSp w K sp vs H Q E → codeAny (model P w) A (.call (.ref f) args) (CR (L2.CX P w) outer P w H s Q E) s
/-- the context of a def's body, an exception handled ahead of it or not -/
def cxN (P : Program) (w : World) (K : PySem.W.Frag) (mg : Str → Option Value) (base : Heap) (N : List Str) (qual : Str) (scope : Scope) (f : Addr) (cd : Value) (A : Around) (outer : List Env) (s : Shared) (H : Hp) (E : XK) : Cx :=
  { cxOf (L2.CX P w) P w K mg base N qual scope f cd A outer s H E with calm := false }
section
variable {X : Cx} {k : Nat} {f : Addr} {fd : FuncData} {ps : List Str} {sp : DSp} {x : Str} {p pos : Pos} {e : Expr} {es : List Expr} {t : DTA}
end
/-! ### try: body / except x as n: suite -/
section
variable {X : Cx} {pins : List (Addr × Obj)} {σ : L2.St} {H : Hp} {s : Shared}
end
/-- the ends of a suite that has an exception's name in slot i -/
def sufA (A : DEnds) (i : Nat) : DEnds where
  nx := fun τ S => A.nx (τ.set i none) S
  rt := A.rt
  bk := fun τ S => A.bk (τ.set i none) S
  ct := fun τ S => A.ct (τ.set i none) S
@[simp] theorem sufA_nx (A : DEnds) (i : Nat) (τ : DSt) (S : DH) : (sufA A i).nx τ S = A.nx (τ.set i none) S := rfl
@[simp] theorem sufA_rt (A : DEnds) (i : Nat) : (sufA A i).rt = A.rt := rfl
/-- what a try's body wishes of an exception: subs says which classes the clause takes -/
def tryX (subs : List (Addr × Bool)) (i : Nat) (ts : DTS) (A : DEnds) : DW := fun C fs τ S => ∃ b, (C, b) ∈ subs ∧ (b = true → ∀ a dd, S a = none → S dd = none → a ≠ dd → ts (sufA A i) (τ.set i (some (.ref a))) (upo (upo S dd (.xd fs)) a (.exc C dd))) ∧ (b = false → A.xe C fs τ S)
@[simp] def dTry (subs : List (Addr × Bool)) (i : Nat) (tb ts : DTS) : DTS := fun A τ S => tb { A with xe := tryX subs i ts A } τ S
section
variable {X : Cx} {x n : Str} {c : Value} {i : Nat} {body suite : List Stmt} {b₀ : Stmt} {np pos pos' : Pos} {tb ts : DTS} {subs : List (Addr × Bool)}
end
/-! ### small things -/
theorem _root_.L2H.RoomH.units {A : Around} {k : Nat} (hr : L2H.RoomH k A) : A.units + 64 < cLine := by
  have := hr.un
  omega
def basexB (K : PySem.W.Frag) (B : Addr) : Bool := PySem.W.readsIn K B (.type "type") && (decide (PySem.W.specialIn K (.ref B) "__getattribute__" = some (some (.builtin "type.__getattribute__"))) &&
  match PySem.W.findCls K (.ref B) (.type "type") "__init__" with | some (.val v) => decide (v = .builtin "ValueError.__init__") | _ => false)
section
variable {K : PySem.W.Frag} {f : Str} {C fI : Addr} {fl : List Str} {Cs : List Addr} {b : Bool} {subs : List (Addr × Bool)}
end
/-- d[k] of a written dict of texts' -/
def dKixK (tbl : List (Str × D)) (Q : DK) : DK := fun d S => match d with | .str z => opt (tbl.lookup z) fun y => Q y S | _ => False
@[simp] def dKix (tbl : List (Str × D)) (tk : DTE) : DTE := fun E τ S Q => tk E τ S (dKixK tbl Q)
/-- what a written dict holds -/
structure KTbl (K : PySem.W.Frag) (w : World) (a : Addr) (tbl : List (Str × D)) : Prop where
  at_ : ∀ z y, tbl.lookup z = some y → ∃ v, KDct K w a z v ∧ ∀ H, RD K H y v
section
variable {X : Cx} {x : Str} {a : Addr} {tbl : List (Str × D)} {b : Expr} {tb : DTE} {p pos : Pos}
end
/-! count, index of truths in a list of truths -/
def mCountB : RMD := fun d ds S Q => ∃ (y : Bool) (xs : List Bool), ds = [.bl y] ∧ seqD S d = some (xs.map .bl) ∧ Q (.int (xs.count y : Nat)) S
def mIndexB : RMD := fun d ds S Q => ∃ (y : Bool) (xs : List Bool) (j : Nat), ds = [.bl y] ∧ seqD S d = some (xs.map .bl) ∧ xs[j]? = some y ∧ (∀ m, m < j → xs[m]? ≠ some y) ∧ Q (.int j) S
section
variable {X : Cx}
/-- str(x), x an int, a text or a tuple of data -/
@[simp] def cStrG : RCD := fun ds S Q => match ds with
  | [.int i] => i.natAbs.log2 < 1920 ∧ Q (.str (toString i)) S
  | [.str a] => Q (.str a) S
  | [.tup xs] => cRepr [.tup xs] S Q
  | _ => False
end
end Dt
set_option maxRecDepth 100000
set_option maxHeartbeats 4000000
namespace Rc
open PySem PySem.Spec L2
open Sh
open Dt hiding nkeys
/-! ShBk: patterns backwards. -/
mutual
def bk : Pt → Pt
  | .step b w => .step (!b) w
  | .seq b ps => .seq b (if b then (bks ps).reverse else bks ps)
  | .many p => .many (bk p)
  | .stay => .stay
  | .mark b m => .mark b m
def bks : List Pt → List Pt
  | [] => []
  | p :: ps => bk p :: bks ps
end
theorem bks_map (ps : List Pt) : bks ps = ps.map bk := by
  induction ps with
  | nil => rfl
  | cons p ps ih => show bk p :: bks ps = _; rw [ih]; rfl
def sp_backwards (k : Nat) : DSp := fun ds S Q _ => ∃ p : Pt, ds = [ptD p] ∧ p.deep ≤ k + 1 ∧ (∀ q ∈ p.all, q.kids.length ≤ 1000) ∧ Q (ptD (bk p)) S
theorem kids_few {n : Nat} {p q : Pt} (h : ∀ r ∈ p.all, r.kids.length ≤ n) (hq : q ∈ p.kids) : ∀ r ∈ q.all, r.kids.length ≤ n := fun r hr => h r (by
  rw [Pt.all_kids]
  exact List.mem_cons_of_mem _ (List.mem_flatMap.mpr ⟨q, hq, hr⟩))
def t_backwards (spR : DSp) : DTS := (dSeq (dIf (dTest (dOp (dEq false) (dOp dIxS (dVar 0) (dC (.int 0))) (dC (.str "step"))))
      (dRet (dTup (dCons (dC (.str "step")) (dCons (dKix [("on", .str "back"), ("back", .str "on")] (dOp dIxS (dVar 0) (dC (.int 1)))) (dCons (dOp dIxS (dVar 0) (dC (.int 2))) dNil)))))
      dNx)
    (dSeq (dIf (dTest (dOp (dEq false) (dOp dIxS (dVar 0) (dC (.int 0))) (dC (.str "many"))))
      (dRet (dTup (dCons (dC (.str "many")) (dCons (dCall spR (dCons (dOp dIxS (dVar 0) (dC (.int 1))) dNil)) dNil))))
      dNx)
    (dSeq (dIf (dTest (dOp (dEq false) (dOp dIxS (dVar 0) (dC (.int 0))) (dC (.str "then"))))
      (dRet (dTup (dCons (dC (.str "then")) (dCons (dCB cTuple (dCons (dFz (dLc (dRev (dOp dIxS (dVar 0) (dC (.int 1)))) (dGN 1) dYes (dCall spR (dCons (dVar 1) dNil)) [1])) dNil)) dNil))))
      dNx)
    (dSeq (dIf (dTest (dOp (dEq false) (dOp dIxS (dVar 0) (dC (.int 0))) (dC (.str "either"))))
      (dRet (dTup (dCons (dC (.str "either")) (dCons (dCB cTuple (dCons (dFz (dLc (dSeqI (dOp dIxS (dVar 0) (dC (.int 1)))) (dGN 1) dYes (dCall spR (dCons (dVar 1) dNil)) [1])) dNil)) dNil))))
      dNx)
    (dRet (dVar 0))))))
abbrev N_backwards : List Str := ["pattern", "one"]
end Rc
set_option maxRecDepth 100000
set_option maxHeartbeats 4000000
namespace Rc
open PySem PySem.Spec L2
open Sh
open Dt hiding nkeys
/-! ShC: the draws of the laws k60-k75. -/
/-- the feed -/
def FeedC (n : Nat) (o : Ob) : Prop := ∃ (cs : List Int) (a l : Int), o = .dK [(.inr "cells", .rol (cs.map D.int)), (.inr "at", .int a), (.inr "left", .int l)] ∧ 0 ≤ a ∧ a ≤ n ∧ 0 ≤ l
theorem FeedC.more {n m : Nat} {o : Ob} (h : FeedC n o) (l : n ≤ m) : FeedC m o := by
  obtain ⟨cs, a, k, rfl, h1, h2, h3⟩ := h
  exact ⟨cs, a, k, rfl, h1, by omega, h3⟩
theorem FeedC.nl {n : Nat} {o : Ob} (h : FeedC n o) {q : Addr} {S : DH} (e : S q = some o) : ∀ ds, S q ≠ some (.lst ds) := fun ds z => by
  obtain ⟨cs, a, k, rfl, _⟩ := h
  rw [e] at z
  cases z
def sp_l_feed : DSp := fun ds S Q _ => ∃ ns : List Int, ds = [.rol (ns.map D.int)] ∧ ns.length ≤ 63 ∧ ∀ p o, S p = none → FeedC 0 o → Q (.ref p) (upo S p o)
theorem sp_l_feed_mono : SpMono sp_l_feed := fun ds S Q Q' E E' k _ ⟨a, h1, h2, h⟩ => ⟨a, h1, h2, fun p o e f => k _ _ (h p o e f)⟩
def sp_l_draw : DSp := fun ds S Q _ => ∃ (p : Addr) (m n : Nat) (o : Ob), ds = [.ref p, .int (m : Nat)] ∧ 0 < m ∧ m < 1000000 ∧ S p = some o ∧ FeedC n o ∧ n < 2 ^ 90 ∧
  ∀ (v : Nat) o', v < m → FeedC (n + 1) o' → Q (.int (v : Nat)) (upo S p o')
theorem sp_l_draw_mono : SpMono sp_l_draw := fun ds S Q Q' E E' k _ ⟨p, m, n, o, h1, h2, h3, h4, h5, h6, h⟩ => ⟨p, m, n, o, h1, h2, h3, h4, h5, h6, fun v o' a b => k _ _ (h v o' a b)⟩
def cNames : List (List Str) := [["a", "ab", "abc", "b", "ba", "bab", "c"], ["on", "back", "at", "stay", "many", "then", "tie"], ["k", "w", "xxxxxxxx", "xxxxxxx", "m", "q", "z"]]
def sp_l_names : DSp := fun ds S Q _ => ∃ (p : Addr) (m n : Nat) (o : Ob), ds = [.ref p, .int (m : Nat)] ∧ m ≤ 7 ∧ S p = some o ∧ FeedC n o ∧ n < 2 ^ 80 ∧
  ∀ (ys : List Str) (o' : Ob), ys.length = m → (∀ y ∈ ys, Nm y) → ys.Nodup → FeedC (n + 2) o' → Q (.rol (strsD ys)) (upo S p o')
/-- a pattern over these words and marks -/
def OkC (ws ms : List Str) (p : Pt) : Prop := ∀ q ∈ p.all, match q with | .step _ w => w = "*" ∨ w ∈ ws | .mark _ m => m ∈ ms | .seq _ ps => ps.length ≤ 4 | _ => True
def sp_l_leaf : DSp := fun ds S Q _ => ∃ (p : Addr) (ws ms : List Str) (n : Nat) (o : Ob), ds = [.ref p, .rol (strsD ws), .rol (strsD ms)] ∧ ws.length ≤ 100 ∧ ms.length ≤ 100 ∧ (∀ m ∈ ms, Nm m) ∧ S p = some o ∧ FeedC n o ∧ n < 2 ^ 80 ∧
  ∀ (t : Pt) (o' : Ob), t.isLeaf = true → OkC ws ms t → FeedC (n + 2) o' → Q (ptD t) (upo S p o')
theorem sp_l_leaf_mono : SpMono sp_l_leaf := fun ds S Q Q' E E' k _ ⟨p, ws, ms, n, o, h1, h2, h3, h4, h5, h6, h7, h⟩ => ⟨p, ws, ms, n, o, h1, h2, h3, h4, h5, h6, h7, fun t o' a b c => k _ _ (h t o' a b c)⟩
/-- what a pattern is drawn from: a bag, of which each part takes one -/
def sp_l_pattern (k : Nat) : DSp := fun ds S Q _ => ∃ (p q : Addr) (ws ms : List Str) (j b n : Nat) (o : Ob), ds = [.ref p, .rol (strsD ws), .rol (strsD ms), .ref q, .int (j : Nat)] ∧ ws.length ≤ 100 ∧ ms.length ≤ 100 ∧ (∀ m ∈ ms, Nm m) ∧ j ≤ k ∧ S p = some o ∧ FeedC n o ∧ 1 ≤ b ∧ b ≤ 1000 ∧ S q = some (.lst [.int (b : Nat)]) ∧ n + 4 * b < 2 ^ 80 ∧
  ∀ (t : Pt) (o' : Ob) (c : Nat), OkC ws ms t → t.deep ≤ k + 1 → t.all.length + c = b → FeedC (n + 4 * (b - c)) o' → Q (ptD t) (upo (upo S p o') q (.lst [.int (c : Nat)]))
theorem sp_l_pattern_mono (k : Nat) : SpMono (sp_l_pattern k) := fun ds S Q Q' E E' kk _ ⟨p, q, ws, ms, j, b, n, o, h1, h2, h3, h4, h5, h6, h7, h8, h9, h10, h11, h⟩ => ⟨p, q, ws, ms, j, b, n, o, h1, h2, h3, h4, h5, h6, h7, h8, h9, h10, h11, fun t o' c a1 a2 a3 a4 => kk _ _ (h t o' c a1 a2 a3 a4)⟩
theorem sp_l_names_mono : SpMono sp_l_names := fun ds S Q Q' E E' k _ ⟨p, m, n, o, h1, h2, h3, h4, h5, h⟩ => ⟨p, m, n, o, h1, h2, h3, h4, h5, fun ys o' a b c d => k _ _ (h ys o' a b c d)⟩
def t_l_feed : DTS := (dRet (dDisp [("cells", (dCB cListAF (dCons (dSlF (dVar 0) dNoP (dSoP (dC (.int 63)))) dNil))), ("at", (dC (.int 0))), ("left", (dC (.int 0)))]))
abbrev N_l_feed : List Str := ["_law_script"]
def t_l_draw : DTS := (dSeq (dIf (dTest (dOp rGt (dOp dIxS (dVar 0) (dC (.str "left"))) (dC (.int 0))))
      (dSeq (dAsg (dOp rMod (dOp dIxS (dVar 0) (dC (.str "left"))) (dVar 1)) (dGN 2))
    (dSeq (dPut (dVar 0) (dC (.str "left")) (dOp rFdiv (dOp dIxS (dVar 0) (dC (.str "left"))) (dVar 1)))
    (dRet (dVar 2))))
      dNx)
    (dSeq (dAsg (dOp dIxS (dVar 0) (dC (.str "at"))) (dGN 3))
    (dSeq (dPut (dVar 0) (dC (.str "at")) (dOp dAddF (dVar 3) (dC (.int 1))))
    (dSeq (dAsg (dVar 3) (dGN 4))
    (dSeq (dIf (dTest (dOp (dEq true) (dOp dIxS (dVar 0) (dC (.str "cells"))) (dLstF dNil)))
      (dAsg (dOp dIxS (dOp dIxS (dVar 0) (dC (.str "cells"))) (dOp rMod (dVar 3) (dCB cLen (dCons (dOp dIxS (dVar 0) (dC (.str "cells"))) dNil)))) (dGN 4))
      dNx)
    (dSeq (dIf (dTest (dOp rGe (dVar 4) (dOp rPow (dC (.int 10)) (dC (.int 18)))))
      (dSeq (dPut (dVar 0) (dC (.str "left")) (dOp rFdiv (dVar 4) (dVar 1)))
    (dRet (dOp rMod (dVar 4) (dVar 1))))
      dNx)
    (dSeq (dAsg (dOp rMod (dOp dMul (dOp dAddF (dOp dAddF (dOp dAddF (dOp rMod (dVar 4) (dC (.int 1000003))) (dOp dMul (dOp dMul (dC (.int 7)) (dVar 3)) (dVar 3))) (dOp dMul (dC (.int 31)) (dVar 3))) (dC (.int 1))) (dC (.int 48271))) (dC (.int 999983))) (dGN 5))
    (dSeq (dAsg (dOp rMod (dOp dMul (dOp dAddF (dOp dMul (dVar 5) (dVar 5)) (dVar 3)) (dC (.int 30269))) (dC (.int 2147483629))) (dGN 5))
    (dRet (dOp rMod (dOp rFdiv (dVar 5) (dC (.int 7))) (dVar 1)))))))))))
abbrev N_l_draw : List Str := ["_law_feed_here", "_law_many", "_law_found", "_law_at", "_law_cell", "_law_number"]
def t_l_names : DTS := (dSeq (dAsg (dLst (dCons (dLstF (dCons (dC (.str "a")) (dCons (dC (.str "ab")) (dCons (dC (.str "abc")) (dCons (dC (.str "b")) (dCons (dC (.str "ba")) (dCons (dC (.str "bab")) (dCons (dC (.str "c")) dNil)))))))) (dCons (dLstF (dCons (dC (.str "on")) (dCons (dC (.str "back")) (dCons (dC (.str "at")) (dCons (dC (.str "stay")) (dCons (dC (.str "many")) (dCons (dC (.str "then")) (dCons (dC (.str "tie")) dNil)))))))) dNil))) (dGN 2))
    (dSeq (dDrop (dBM "list" mAppend (dVar 2) (dCons (dLstF (dCons (dC (.str "k")) (dCons (dC (.str "w")) (dCons (dC (.str "xxxxxxxx")) (dCons (dC (.str "xxxxxxx")) (dCons (dC (.str "m")) (dCons (dC (.str "q")) (dCons (dC (.str "z")) dNil)))))))) dNil)))
    (dSeq (dAsg (dOp dIxS (dVar 2) (dCall sp_l_draw (dCons (dVar 0) (dCons (dC (.int 3)) dNil)))) (dGN 3))
    (dSeq (dAsg (dCall sp_l_draw (dCons (dVar 0) (dCons (dC (.int 7)) dNil))) (dGN 4))
    (dRet (dSlF (dOp dAddF (dSlF (dVar 3) (dSoP (dVar 4)) dNoP) (dSlF (dVar 3) dNoP (dSoP (dVar 4)))) dNoP (dSoP (dVar 1))))))))
abbrev N_l_names : List Str := ["_law_feed_here", "_law_many", "_law_some", "_law_names_here", "_law_at"]
def t_l_leaf : DTS := (dSeq (dAsg (dCall sp_l_draw (dCons (dVar 0) (dCons (dC (.int 9)) dNil))) (dGN 3))
    (dSeq (dIf (dTest (dOp (dEq false) (dVar 3) (dC (.int 0))))
      (dRet (dTup (dCons (dC (.str "stay")) dNil)))
      dNx)
    (dSeq (dIf (dAnd (dTest (dOp rLt (dVar 3) (dC (.int 3)))) (dTest (dOp (dEq true) (dVar 2) (dLstF dNil))))
      (dRet (dTup (dCons (dOp dIxS (dLstF (dCons (dC (.str "at")) (dCons (dC (.str "off")) dNil))) (dOp rSub (dVar 3) (dC (.int 1)))) (dCons (dOp dIxS (dVar 2) (dCall sp_l_draw (dCons (dVar 0) (dCons (dCB cLen (dCons (dVar 2) dNil)) dNil)))) dNil))))
      dNx)
    (dRet (dTup (dCons (dC (.str "step")) (dCons (dOp dIxS (dLstF (dCons (dC (.str "on")) (dCons (dC (.str "on")) (dCons (dC (.str "back")) dNil)))) (dOp rMod (dVar 3) (dC (.int 3)))) (dCons (dOp dIxS (dOp dAddF (dVar 1) (dLstF (dCons (dC (.str "*")) dNil))) (dCall sp_l_draw (dCons (dVar 0) (dCons (dOp dAddF (dCB cLen (dCons (dVar 1) dNil)) (dC (.int 1))) dNil)))) dNil))))))))
abbrev N_l_leaf : List Str := ["_law_feed_here", "_law_words", "_law_marks", "_law_way"]
def t_l_pattern (spR : DSp) : DTS := (dSeq (dPut (dVar 3) (dC (.int 0)) (dOp rSub (dOp dIxS (dVar 3) (dC (.int 0))) (dC (.int 1))))
    (dSeq (dAsg (dCall sp_l_draw (dCons (dVar 0) (dCons (dC (.int 8)) dNil))) (dGN 5))
    (dSeq (dIf (dOr (dTest (dOp rLt (dVar 5) (dC (.int 3)))) (dOr (dTest (dOp rLt (dOp dIxS (dVar 3) (dC (.int 0))) (dC (.int 1)))) (dTest (dOp (dEq false) (dVar 4) (dC (.int 0))))))
      (dRet (dCall sp_l_leaf (dCons (dVar 0) (dCons (dVar 1) (dCons (dVar 2) dNil)))))
      dNx)
    (dSeq (dIf (dTest (dOp (dEq false) (dVar 5) (dC (.int 3))))
      (dRet (dTup (dCons (dC (.str "many")) (dCons (dCall spR (dCons (dVar 0) (dCons (dVar 1) (dCons (dVar 2) (dCons (dVar 3) (dCons (dOp rSub (dVar 4) (dC (.int 1))) dNil)))))) dNil))))
      dNx)
    (dSeq (dAsg (dLst dNil) (dGN 6))
    (dSeq (dFor (dRng1 (dCons (dOp dIxS (dLstF (dCons (dC (.int 2)) (dCons (dC (.int 3)) (dCons (dC (.int 0)) (dCons (dC (.int 1)) (dCons (dC (.int 2)) (dCons (dC (.int 2)) (dCons (dC (.int 4)) (dCons (dC (.int 3)) dNil))))))))) (dCall sp_l_draw (dCons (dVar 0) (dCons (dC (.int 8)) dNil)))) dNil)) (dGN 7)
      (dIf (dTest (dOp rGt (dOp dIxS (dVar 3) (dC (.int 0))) (dC (.int 0))))
      (dDrop (dBM "list" mAppend (dVar 6) (dCons (dCall spR (dCons (dVar 0) (dCons (dVar 1) (dCons (dVar 2) (dCons (dVar 3) (dCons (dOp rSub (dVar 4) (dC (.int 1))) dNil)))))) dNil)))
      dNx))
    (dRet (dTup (dCons (dOp dIxS (dLstF (dCons (dC (.str "then")) (dCons (dC (.str "either")) dNil))) (dOp rMod (dVar 5) (dC (.int 2)))) (dCons (dCB cTuple (dCons (dVar 6) dNil)) dNil))))))))))
abbrev N_l_pattern : List Str := ["_law_feed_here", "_law_words", "_law_marks", "_law_bag", "_law_deep", "_law_way", "_law_some", "_law_k"]
theorem ints_cut63 (ns : List Int) (h : ns.length ≤ 63) : cutD (ns.map D.int) none (some 63) = ns.map D.int := by
  have := cutD_take (ns.map D.int) 63
  rw [List.take_of_length_le (by simpa using h)] at this
  exact this
theorem r_l_feed (ds S Q E) (h : sp_l_feed ds S Q E) : t_l_feed (dEnd Q E) (dstart N_l_feed ds) S := by
  obtain ⟨ns, rfl, hl, h⟩ := h
  simp [t_l_feed, dstart]
  intro p hp
  simp [mergeD, pt, lk, ints_cut63 ns hl, upo_upo]
  exact .same (h p _ hp ⟨ns, 0, 0, rfl, by decide, by decide, by decide⟩)
theorem r_l_draw (ds S Q E) (h : sp_l_draw ds S Q E) : t_l_draw (dEnd Q E) (dstart N_l_draw ds) S := by
  obtain ⟨p, m, n, o, rfl, h2, h3, h4, ⟨cs, a, l, rfl, h5, h6, h7⟩, h8, h⟩ := h
  have b1 : Bd 91 a := Bd.nat (n := n) h5 h6 (by omega)
  have bm : ∀ (x : Int) (m : Int), 0 < m → m < 2147483648 → Bd 32 (x % m) := fun x m m0 m1 => Bd.mod m0 (by unfold Bd; omega)
  have c0 : CPow 10 18 := by unfold CPow; decide
  have hm : ((m : Nat) : Int) ≠ 0 := by omega
  have c1 : ∀ x : Int, CDivW x (m : Nat) := fun x => wide_div (by omega) (b := 100) (by omega) (by decide) (by decide)
  have c1' : ∀ x : Int, CDivW x 7 := fun x => wide_div (by omega) (b := 100) (by omega) (by decide) (by decide)
  have c2 := (show Bd 3 7 by unfold Bd; decide).cm b1
  have c3 := ((show Bd 3 7 by unfold Bd; decide).mul b1).cm b1
  have c4 := (show Bd 5 31 by unfold Bd; decide).cm b1
  have b2 : ∀ c : Int, Bd 190 (c % 1000003 + 7 * a * a + 31 * a + 1) := fun c => Bd.add (a := 189) (Bd.add (a := 188) (Bd.add (a := 187) ((bm c 1000003 (by decide) (by decide)).mono (by decide)) ((((show Bd 3 7 by unfold Bd; decide).mul b1).mul b1).mono (by decide))) (((show Bd 5 31 by unfold Bd; decide).mul b1).mono (by decide))) (show Bd 189 1 by unfold Bd; decide)
  have c5 := fun c => (b2 c).cm (show Bd 16 48271 by unfold Bd; decide)
  have b3 : ∀ x : Int, Bd 32 (x % 999983) := fun x => bm x 999983 (by decide) (by decide)
  have c6 := fun x => (b3 x).cm (b3 x)
  have b4 : ∀ x : Int, Bd 192 (x % 999983 * (x % 999983) + a) := fun x => Bd.add (a := 191) (((b3 x).mul (b3 x)).mono (by decide)) (b1.mono (by decide))
  have c7 := fun x => (b4 x).cm (show Bd 15 30269 by unfold Bd; decide)
  have fin : ∀ (x a' l' : Int), 0 ≤ a' → a' ≤ n + 1 → 0 ≤ l' → Rt Q (.int (x % (m : Nat))) (upo S p (.dK [(.inr "cells", .rol (cs.map D.int)), (.inr "at", .int a'), (.inr "left", .int l')])) := fun x a' l' g1 g2 g3 => by
    obtain ⟨v, hv⟩ := Int.eq_ofNat_of_zero_le (Int.emod_nonneg x hm)
    have hv2 := Int.emod_lt_of_pos x (show (0 : Int) < (m : Nat) by omega)
    rw [hv] at hv2 ⊢
    exact .same (h v _ (by omega) ⟨cs, a', l', rfl, g1, by omega, g3⟩)
  unfold t_l_draw
  refine dSeqIf_gen fun A B R hA hB hR => ?_
  simp [dstart, h4, lk]
  split
  · subst hA
    simp [h4, lk, pt, h2, c1]
    exact fin l a (l / (m : Nat)) h5 (by omega) (Int.ediv_nonneg h7 (by omega))
  · subst hB
    simp
    subst hR
    refine dSeq_gen fun R hR => ?_
    simp [h4, lk]
    subst hR
    refine dSeq_gen fun R hR => ?_
    simp [h4, lk, pt]
    have up : ∀ o', upo (upo S p (.dK [(.inr "cells", .rol (cs.map D.int)), (.inr "at", .int (a + 1)), (.inr "left", .int l)])) p o' = upo S p o' := fun o' => upo_upo
    generalize hS1 : upo S p (.dK [(.inr "cells", .rol (cs.map D.int)), (.inr "at", .int (a + 1)), (.inr "left", .int l)]) = S1 at up ⊢
    have e1 : S1 p = some (.dK [(.inr "cells", .rol (cs.map D.int)), (.inr "at", .int (a + 1)), (.inr "left", .int l)]) := by rw [← hS1]; simp
    subst hR
    refine dSeq_gen fun R hR => ?_
    simp
    subst hR
    refine dSeqIf_gen fun A B R hA hB hR => ?_
    have tail : ∀ c : Int, R (dEnd Q E) [some (.ref p), some (.int (m : Nat)), none, some (.int a), some (.int c), none] S1 := by
      intro c
      subst hR
      refine dSeqIf_gen fun A B R hA hB hR => ?_
      simp [c0]
      split
      · subst hA
        simp [e1, lk, pt, h2, c1, up]
        exact fin c (a + 1) (c / (m : Nat)) (by omega) (by omega) (Int.ediv_nonneg (by omega) (by omega))
      · subst hB
        simp
        subst hR
        simp [c2, c3, c4, c5, c6, c7, c1', h2]
        have := fin ((((c % 1000003 + 7 * a * a + 31 * a + 1) * 48271 % 999983) * ((c % 1000003 + 7 * a * a + 31 * a + 1) * 48271 % 999983) + a) * 30269 % 2147483629 / 7) (a + 1) l (by omega) (by omega) h7
        rw [hS1] at this
        exact this
    simp [e1, lk]
    refine dEq_sm (Sm_rol.mpr fun d hd => ?_) (Sm_rol.mpr fun d hd => nomatch hd) ?_
    · obtain ⟨i, _, rfl⟩ := List.mem_map.mp hd
      exact int_sm i 59
    · by_cases hc : cs = []
      · subst hc
        simp
        subst hB
        simp
        exact tail a
      · have hne : ¬ cs.map D.int = [] := by simpa using hc
        simp [hc]
        subst hA
        have hl0 : 0 < cs.length := List.length_pos_iff.mpr hc
        simp [e1, lk, hl0]
        have hj0 := Int.emod_nonneg a (show ((cs.length : Nat) : Int) ≠ 0 by omega)
        have hj1 := Int.emod_lt_of_pos a (show (0 : Int) < (cs.length : Nat) by omega)
        refine opt_at hj0 (by simpa using hj1) fun d hd => ?_
        obtain ⟨c, _, rfl⟩ := List.mem_map.mp hd
        exact tail c
theorem leaf_okc {ws ms : List Str} {t : Pt} (hl : t.isLeaf = true) (h : match t with | .step _ w => w = "*" ∨ w ∈ ws | .mark _ m => m ∈ ms | _ => True) : OkC ws ms t := fun q hq => by
  cases t <;> simp [Pt.all, Pt.isLeaf] at hq hl <;> subst hq <;> first | exact h | trivial
theorem r_l_leaf (ds S Q E) (h : sp_l_leaf ds S Q E) : t_l_leaf (dEnd Q E) (dstart N_l_leaf ds) S := by
  obtain ⟨p, ws, ms, n, o, rfl, hw, hm, hmn, hp, fo, hn, h⟩ := h
  unfold t_l_leaf
  refine dSeq_gen fun R hR => ?_
  simp [dstart]
  refine ⟨p, 9, n, o, rfl, by decide, by decide, hp, fo, by omega, fun v o1 v1 fo1 => ?_⟩
  subst hR
  refine dSeqIf_gen fun A B R hA hB hR => ?_
  simp
  by_cases c0 : v = 0
  · subst hA
    simp [c0]
    exact .same (h .stay o1 rfl (leaf_okc rfl trivial) (fo1.more (by omega)))
  · subst hB
    simp [c0]
    subst hR
    refine dSeqIf_gen fun A B R hA hB hR => ?_
    have tail : R (dEnd Q E) [some (.ref p), some (.rol (strsD ws)), some (.rol (strsD ms)), some (.int (v : Nat))] (upo S p o1) := by
      subst hR
      simp [catD]
      refine opt_at (by omega) (by simp; omega) fun d hd => ?_
      obtain ⟨b, rfl⟩ : ∃ b : Bool, d = .str (if b then "on" else "back") := by
        simp at hd
        rcases hd with rfl | rfl
        · exact ⟨true, rfl⟩
        · exact ⟨false, rfl⟩
      refine ⟨by omega, p, ws.length + 1, n + 1, o1, by simp, by omega, by omega, by simp, fo1, by omega, fun u o2 u1 fo2 => ?_⟩
      refine opt_at (by omega) (by simp; omega) fun z hz => ?_
      obtain ⟨w, hw, rfl⟩ : ∃ w : Str, (w = "*" ∨ w ∈ ws) ∧ z = .str w := by
        rcases List.mem_append.mp hz with hz | hz
        · obtain ⟨w, hw, rfl⟩ := List.mem_map.mp hz
          exact ⟨w, .inr hw, rfl⟩
        · exact ⟨"*", .inl rfl, List.mem_singleton.mp hz⟩
      rw [upo_upo]
      exact .same (h (.step b w) o2 rfl (leaf_okc rfl hw) (fo2.more (by omega)))
    simp
    by_cases c1 : (v : Int) < 3
    · simp [c1]
      refine dEq_sm (Sm_rol.mpr fun d hd => ?_) (Sm_rol.mpr fun d hd => nomatch hd) ?_
      · obtain ⟨i, hi, rfl⟩ := List.mem_map.mp hd
        exact Sm_str.mpr (nm_ok (hmn i hi))
      · by_cases hc : ms = []
        · subst hc
          simp
          subst hB
          simp
          exact tail
        · simp [hc]
          subst hA
          simp
          refine opt_at (by omega) (by simp; omega) fun d hd => ?_
          obtain ⟨b, rfl⟩ : ∃ b : Bool, d = .str (if b then "at" else "off") := by
            simp at hd
            rcases hd with rfl | rfl
            · exact ⟨true, rfl⟩
            · exact ⟨false, rfl⟩
          have hl0 : 0 < ms.length := List.length_pos_iff.mpr hc
          refine ⟨p, ms.length, n + 1, o1, rfl, hl0, by omega, by simp, fo1, by omega, fun u o2 u1 fo2 => ?_⟩
          refine opt_at (by omega) (by simp; omega) fun z hz => ?_
          obtain ⟨m, hm, rfl⟩ := List.mem_map.mp hz
          rw [upo_upo]
          exact .same (h (.mark b m) o2 rfl (leaf_okc rfl hm) (fo2.more (by omega)))
    · simp [c1]
      subst hB
      simp
      exact tail
theorem cNames_ok : ∀ L ∈ cNames, L.length = 7 ∧ (∀ y ∈ L, Nm y) ∧ L.Nodup := by
  intro L hL
  simp only [cNames, List.mem_cons, List.not_mem_nil, or_false] at hL
  rcases hL with rfl | rfl | rfl
  all_goals refine ⟨rfl, fun y hy => ?_, by decide +kernel⟩
  all_goals
    simp only [List.mem_cons, List.not_mem_nil, or_false] at hy
    rcases hy with rfl | rfl | rfl | rfl | rfl | rfl | rfl <;> exact ⟨by decide +kernel, by decide +kernel, by decide +kernel⟩
theorem r_l_names (ds S Q E) (h : sp_l_names ds S Q E) : t_l_names (dEnd Q E) (dstart N_l_names ds) S := by
  obtain ⟨p, m, n, o, rfl, hm, hp, fo, hn, h⟩ := h
  unfold t_l_names
  refine dSeq_gen fun R hR => ?_
  simp [dstart]
  intro q hq
  have npq : p ≠ q := fun z => by subst z; rw [hp] at hq; cases hq
  subst hR
  refine dSeq_gen fun R hR => ?_
  simp [upo_upo]
  rw [show ([D.rol [D.str "a", D.str "ab", D.str "abc", D.str "b", D.str "ba", D.str "bab", D.str "c"], D.rol [D.str "on", D.str "back", D.str "at", D.str "stay", D.str "many", D.str "then", D.str "tie"], D.rol [D.str "k", D.str "w", D.str "xxxxxxxx", D.str "xxxxxxx", D.str "m", D.str "q", D.str "z"]] : List D) = cNames.map (fun L => D.rol (strsD L)) from rfl]
  have hcl : (cNames.map (fun L => D.rol (strsD L))).length = 3 := rfl
  have hcm : ∀ d ∈ cNames.map (fun L => D.rol (strsD L)), ∃ L ∈ cNames, d = D.rol (strsD L) := fun d hd => by
    obtain ⟨L, hL, rfl⟩ := List.mem_map.mp hd
    exact ⟨L, hL, rfl⟩
  generalize cNames.map (fun L => D.rol (strsD L)) = CN at hcl hcm ⊢
  subst hR
  refine dSeq_gen fun R hR => ?_
  simp
  refine ⟨p, 3, n, o, by simp, by decide, by decide, by rw [upo_ne npq]; exact hp, fo, by omega, fun v o1 v1 fo1 => ?_⟩
  rw [upo_comm npq.symm]
  simp
  refine opt_at (by omega) (by rw [hcl]; omega) fun d hd => ?_
  obtain ⟨L, hL, rfl⟩ := hcm d hd
  obtain ⟨l7, lnm, lnd⟩ := cNames_ok L hL
  subst hR
  refine dSeq_gen fun R hR => ?_
  simp
  refine ⟨p, 7, n + 1, o1, by simp, by decide, by decide, by rw [upo_ne npq]; simp, fo1, by omega, fun T o2 T1 fo2 => ?_⟩
  subst hR
  rw [upo_comm npq.symm, upo_upo]
  simp [catD]
  refine ⟨by omega, .keep (S := upo S p o2) (Sub.new (by rw [upo_ne npq.symm]; exact hq)) ?_⟩
  have := h (((L.drop T) ++ (L.take T)).take m) o2 (by simp; omega) (fun y hy' => ?_) ?_ (fo2.more (by omega))
  · simpa [strsD] using this
  · have := List.mem_of_mem_take hy'
    rcases List.mem_append.mp this with z | z
    · exact lnm y (List.mem_of_mem_drop z)
    · exact lnm y (List.mem_of_mem_take z)
  · refine List.Sublist.nodup (List.take_sublist _ _) ?_
    have : (L.drop T ++ L.take T).Perm L := List.perm_append_comm.trans (by rw [List.take_append_drop])
    exact this.nodup_iff.mpr lnd
theorem OkC.many {ws ms : List Str} {t : Pt} (h : OkC ws ms t) : OkC ws ms (.many t) := fun q hq => by
  rw [Pt.all_many] at hq
  rcases List.mem_cons.mp hq with rfl | z
  · trivial
  · exact h q z
theorem OkC.seq {ws ms : List Str} {b : Bool} {ts : List Pt} (hl : ts.length ≤ 4) (h : ∀ t ∈ ts, OkC ws ms t) : OkC ws ms (.seq b ts) := fun q hq => by
  rw [Pt.all_seq, Pt.alls_flat] at hq
  rcases List.mem_cons.mp hq with rfl | z
  · exact hl
  · obtain ⟨t, ht, z⟩ := List.mem_flatMap.mp z
    exact h t ht q z
theorem deeps_le {ts : List Pt} {k : Nat} (h : ∀ t ∈ ts, t.deep ≤ k) : Pt.deeps ts ≤ k := by
  induction ts with
  | nil => exact Nat.zero_le _
  | cons t ts ih =>
    rw [Pt.deeps_cons]
    have := h t List.mem_cons_self
    have := ih fun u hu => h u (List.mem_cons_of_mem _ hu)
    omega
theorem leaf_all {t : Pt} (h : t.isLeaf = true) : t.all.length = 1 ∧ t.deep = 1 := by
  cases t <;> simp [Pt.isLeaf] at h <;> exact ⟨rfl, rfl⟩
theorem r_l_pattern (k : Nat) (ds S Q E) (h : sp_l_pattern k ds S Q E) : t_l_pattern (prevSp sp_l_pattern k) (dEnd Q E) (dstart N_l_pattern ds) S := by
  obtain ⟨p, q, ws, ms, j, b, n, o, rfl, hw, hm, hmn, hj, hp, fo, hb1, hb2, hq, hn, h⟩ := h
  have npq : p ≠ q := fun z => by subst z; exact fo.nl hp _ hq
  unfold t_l_pattern
  refine dSeq_gen fun R hR => ?_
  simp [dstart, hq]
  have eb : (b : Int) - 1 = ((b - 1 : Nat) : Int) := by omega
  rw [eb, show ixN 1 0 = some 0 from rfl]
  simp
  subst hR
  refine dSeq_gen fun R hR => ?_
  simp
  refine ⟨p, 8, n, o, by simp, by decide, by decide, by rw [upo_ne npq]; exact hp, fo, by omega, fun v o1 v1 fo1 => ?_⟩
  rw [upo_comm npq.symm]
  subst hR
  refine dSeqIf_gen fun A B R hA hB hR => ?_
  have leaf : A { nx := R (dEnd Q E), rt := Rt Q, xe := fun C fs x S' => ∃ S'', Dt.Sub S'' S' ∧ E C fs S'' } [some (.ref p), some (.rol (strsD ws)), some (.rol (strsD ms)), some (.ref q), some (.int (j : Nat)), some (.int (v : Nat)), none, none] (upo (upo S p o1) q (.lst [.int ((b - 1 : Nat) : Int)])) := by
    subst hA
    simp
    refine ⟨p, ws, ms, n + 1, o1, rfl, hw, hm, hmn, by rw [upo_ne npq]; simp, fo1, by omega, fun t o2 hl ho fo2 => ?_⟩
    obtain ⟨l1, l2⟩ := leaf_all hl
    rw [upo_comm npq.symm, upo_upo]
    exact .same (h t o2 (b - 1) ho (by omega) (by omega) (fo2.more (by omega)))
  simp
  split
  · exact leaf
  rename_i v3
  split
  · exact leaf
  rename_i b2
  split
  · exact leaf
  rename_i j0
  clear leaf
  subst hB
  simp
  subst hR
  obtain ⟨m, rfl⟩ : ∃ m, k = m + 1 := ⟨k - 1, by omega⟩
  have ej : (j : Int) - 1 = ((j - 1 : Nat) : Int) := by omega
  refine dSeqIf_gen fun A B R hA hB hR => ?_
  simp
  by_cases c2 : (v : Int) = 3
  · subst hA
    simp [c2, ej]
    refine ⟨p, q, ws, ms, j - 1, b - 1, n + 1, o1, by simp [ej], hw, hm, hmn, by omega, by rw [upo_ne npq]; simp, fo1, by omega, by omega, by simp, by omega, fun t o2 c a1 a2 a3 a4 => ?_⟩
    rw [upo_comm npq.symm, upo_upo, upo_upo]
    exact .same (h (.many t) o2 c a1.many (by rw [Pt.deep_many]; omega) (by rw [Pt.all_many, List.length_cons]; omega) (a4.more (by omega)))
  · subst hB
    simp [c2]
    subst hR
    refine dSeq_gen fun R hR => ?_
    simp
    intro s hs
    have nps : p ≠ s := fun z => by subst z; rw [upo_ne npq] at hs; simp at hs
    have nqs : q ≠ s := fun z => by subst z; simp at hs
    have hs' : S s = none := by rw [upo_ne nqs.symm, upo_ne nps.symm] at hs; exact hs
    subst hR
    refine dSeqFor_gen fun B R hB hR => ?_
    simp
    refine ⟨p, 8, n + 1, o1, by simp, by decide, by decide, by rw [upo_ne nps, upo_ne npq]; simp, fo1, by omega, fun u o2 u1 fo2 => ?_⟩
    rw [upo_comm nps.symm, upo_comm npq.symm, upo_upo]
    refine opt_at (by omega) (by simp; omega) fun d hd => ?_
    obtain ⟨M, hM, rfl⟩ : ∃ M : Nat, M ≤ 4 ∧ d = .int (M : Nat) := by
      simp only [List.mem_cons, List.not_mem_nil, or_false] at hd
      rcases hd with rfl | rfl | rfl | rfl | rfl | rfl | rfl | rfl
      · exact ⟨2, by decide, rfl⟩
      · exact ⟨3, by decide, rfl⟩
      · exact ⟨0, by decide, rfl⟩
      · exact ⟨1, by decide, rfl⟩
      · exact ⟨2, by decide, rfl⟩
      · exact ⟨2, by decide, rfl⟩
      · exact ⟨4, by decide, rfl⟩
      · exact ⟨3, by decide, rfl⟩
    simp
    refine ⟨by omega, ?_⟩
    refine loop_inv (fun i τ S' => ∃ (ts : List Pt) (c : Nat) (o3 : Ob) (x7 : Option D), τ = [some (.ref p), some (.rol (strsD ws)), some (.rol (strsD ms)), some (.ref q), some (.int (j : Nat)), some (.int (v : Nat)), some (.ref s), x7] ∧
      S' = upo (upo (upo S p o3) q (.lst [.int (c : Nat)])) s (.lst (ptDs ts)) ∧ ts.length ≤ i ∧ (Pt.alls ts).length + c = b - 1 ∧ FeedC (n + 2 + 4 * (b - 1 - c)) o3 ∧ (∀ t ∈ ts, OkC ws ms t) ∧ ∀ t ∈ ts, t.deep ≤ m + 1)
      ⟨[], b - 1, o2, none, rfl, rfl, Nat.le_refl _, by simp [Pt.alls], fo2.more (by omega), (fun _ z => nomatch z), fun _ z => nomatch z⟩ (fun _ _ _ _ _ => trivial) ?_ ?_
    · rintro i d τ S1 N hd ⟨ts, c, o3, x7, rfl, rfl, g1, g2, fo3, g4, g5⟩ hN
      obtain ⟨hi, rfl⟩ : i < M ∧ d = .int (i : Nat) := by
        have h1 := (List.getElem?_eq_some_iff.mp hd).1
        simp [rngD] at h1 hd
        exact ⟨h1, by rw [List.getElem?_eq_getElem (by simpa using h1)] at hd; simp at hd; exact hd.symm⟩
      subst hB
      have e0 : upo (upo (upo S p o3) q (.lst [.int (c : Nat)])) s (.lst (ptDs ts)) q = some (.lst [.int (c : Nat)]) := by rw [upo_ne nqs]; simp
      simp [e0, ej]
      split
      · rename_i hc
        refine ⟨p, q, ws, ms, j - 1, c, n + 2 + 4 * (b - 1 - c), o3, by simp [ej], hw, hm, hmn, by omega, by rw [upo_ne nps, upo_ne npq]; simp, fo3, by omega, by omega, e0, by omega, fun t o4 c' a1 a2 a3 a4 => ?_⟩
        rw [upo_comm nps.symm, upo_comm npq.symm, upo_upo, upo_comm nqs.symm, upo_upo]
        have hd1 := ptDs_len ts
        have hd2 := Pt.all_pos t
        simp [upo_upo]
        refine ⟨by omega, hN _ _ ⟨ts ++ [t], c', o4, _, rfl, by rw [ptDs_app]; rfl, by simp; omega, ?_, a4.more (by omega), fun z hz => ?_, fun z hz => ?_⟩⟩
        · rw [Pt.alls_flat, List.flatMap_append, ← Pt.alls_flat]
          simp
          omega
        · rcases List.mem_append.mp hz with hz | hz
          · exact g4 z hz
          · rw [List.mem_singleton.mp hz]; exact a1
        · rcases List.mem_append.mp hz with hz | hz
          · exact g5 z hz
          · rw [List.mem_singleton.mp hz]; exact a2
      · exact hN _ _ ⟨ts, c, o3, _, rfl, rfl, by omega, g2, fo3, g4, g5⟩
    · rintro τ S1 ⟨ts, c, o3, x7, rfl, rfl, g1, g2, fo3, g4, g5⟩
      have hM' : ts.length ≤ M := by simpa [rngD] using g1
      subst hR
      simp
      refine opt_at (by omega) (by simp; omega) fun d hd => ?_
      obtain ⟨bb, rfl⟩ : ∃ bb : Bool, d = .str (if bb then "then" else "either") := by
        simp at hd
        rcases hd with rfl | rfl
        · exact ⟨true, rfl⟩
        · exact ⟨false, rfl⟩
      refine .keep (S := upo (upo S p o3) q (.lst [.int (c : Nat)])) (Sub.new (by rw [upo_ne nqs.symm, upo_ne nps.symm]; exact hs')) ?_
      exact h (.seq bb ts) o3 c (OkC.seq (by omega) g4) (by rw [Pt.deep_seq]; have := deeps_le g5; omega) (by rw [Pt.all_seq, List.length_cons]; omega) (fo3.more (by omega))
end Rc
set_option maxRecDepth 100000
set_option maxHeartbeats 4000000
namespace L63
open PySem PySem.Spec L2
open Rc
open Sh hiding N_l_feed N_l_leaf N_l_names N_l_pattern deeps_le deeps_mem r_l_feed r_l_leaf r_l_names r_l_pattern sp_l_leaf sp_l_leaf_mono sp_l_names sp_l_names_mono sp_l_pattern sp_l_pattern_mono t_l_feed t_l_leaf t_l_names t_l_pattern
open Dt hiding nkeys sp_l_feed sp_l_feed_mono
/-! K63: the plain law. -/
theorem pt_ind {P : Pt → Prop} (h1 : P .stay) (h2 : ∀ b w, P (.step b w)) (h3 : ∀ b m, P (.mark b m)) (h4 : ∀ b ps, (∀ p ∈ ps, P p) → P (.seq b ps)) (h5 : ∀ p, P p → P (.many p)) : ∀ p : Pt, P p := by
  intro p
  induction hn : p.all.length using Nat.strongRecOn generalizing p with
  | ind n ih =>
    subst hn
    cases p with
    | stay => exact h1
    | step b w => exact h2 b w
    | mark b m => exact h3 b m
    | seq b ps =>
      refine h4 b ps fun q hq => ih q.all.length ?_ q rfl
      rw [Pt.all_seq, List.length_cons, Pt.alls_flat]
      have : q.all.length ≤ (ps.flatMap Pt.all).length := by
        obtain ⟨a, c, rfl⟩ := List.append_of_mem hq
        simp
        omega
      omega
    | many q => exact h5 q (ih q.all.length (by rw [Pt.all_many, List.length_cons]; omega) q rfl)
theorem bk_bk : ∀ p : Pt, bk (bk p) = p := by
  refine pt_ind rfl (fun b w => by simp [bk]) (fun _ _ => rfl) (fun b ps ih => ?_) (fun p ih => by simp [bk, ih])
  have e : (ps.map bk).map bk = ps := by
    rw [List.map_map]
    exact (List.map_congr_left (g := id) fun p hp => ih p hp).trans (List.map_id _)
  cases b
  · simp only [bk, bks_map, Bool.false_eq_true, ↓reduceIte, e]
  · simp only [bk, bks_map, ↓reduceIte, ← List.map_reverse]
    rw [List.reverse_reverse, e]
def hd (p : Pt) : Str := match p with | .stay => "stay" | .step _ _ => "step" | .mark b _ => if b then "at" else "off" | .seq b _ => if b then "then" else "either" | .many _ => "many"
theorem flat_perm {α β : Type} {f g : α → List β} : ∀ {ps : List α}, (∀ p ∈ ps, (f p).Perm (g p)) → (ps.flatMap f).Perm (ps.flatMap g)
  | [], _ => .nil
  | p :: ps, h => by
    rw [List.flatMap_cons, List.flatMap_cons]
    exact (h p List.mem_cons_self).append (flat_perm fun q hq => h q (List.mem_cons_of_mem _ hq))
theorem bk_all : ∀ p : Pt, (bk p).all.Perm (p.all.map bk) := by
  refine pt_ind (.refl _) (fun b w => .refl _) (fun _ _ => .refl _) (fun b ps ih => ?_) (fun p ih => ?_)
  · have e : ((ps.map bk).flatMap Pt.all).Perm ((ps.flatMap Pt.all).map bk) := by
      rw [List.flatMap_map, List.map_flatMap]
      exact flat_perm ih
    have e2 : ∀ qs : List Pt, qs.Perm (ps.map bk) → (Pt.all (.seq b qs)).Perm ((Pt.all (.seq b ps)).map bk) → True := fun _ _ _ => trivial
    have e3 : bk (.seq b ps) = .seq b (if b then (ps.map bk).reverse else ps.map bk) := by rw [bk, bks_map]
    rw [e3, Pt.all_seq, Pt.all_seq, List.map_cons, e3, Pt.alls_flat, Pt.alls_flat]
    refine List.Perm.cons _ ?_
    refine List.Perm.trans ?_ e
    cases b
    · exact .refl _
    · exact (List.reverse_perm _).flatMap_right _
  · rw [bk, Pt.all_many, Pt.all_many, List.map_cons, bk]
    exact ih.cons _
theorem bk_deep : ∀ p : Pt, (bk p).deep = p.deep := by
  have le : ∀ p : Pt, (bk p).deep ≤ p.deep := by
    refine pt_ind (Nat.le_refl _) (fun b w => Nat.le_refl _) (fun _ _ => Nat.le_refl _) (fun b ps ih => ?_) (fun p ih => ?_)
    · rw [bk, bks_map, Pt.deep_seq, Pt.deep_seq]
      have : Pt.deeps (if b = true then (ps.map bk).reverse else ps.map bk) ≤ Pt.deeps ps := deeps_le fun t ht => by
        have ht : t ∈ ps.map bk := by
          cases b
          · exact ht
          · exact List.mem_reverse.mp ht
        obtain ⟨q, hq, rfl⟩ := List.mem_map.mp ht
        exact Nat.le_trans (ih q hq) (deeps_mem hq)
      omega
    · rw [bk, Pt.deep_many, Pt.deep_many]
      omega
  intro p
  have := le p
  have h2 := le (bk p)
  rw [bk_bk] at h2
  omega
theorem bk_hd (p : Pt) : hd (bk p) = hd p := by cases p <;> rfl
theorem bk_kids (p : Pt) : (bk p).kids.length = p.kids.length := by
  cases p with
  | seq b ps => rw [bk, bks_map]; cases b <;> simp [Pt.kids]
  | _ => rfl
theorem bk_okc {ws ms : List Str} {p : Pt} (h : OkC ws ms p) : OkC ws ms (bk p) := fun q hq => by
  obtain ⟨r, hr, rfl⟩ := List.mem_map.mp ((bk_all p).mem_iff.mp hq)
  have h1 := h r hr
  have hk := bk_kids r
  cases r with
  | seq b ps => simp only [bk] at hk ⊢; exact hk ▸ h1
  | _ => exact h1
theorem okc_okp {ws ms : List Str} {p : Pt} (h : OkC ws ms p) (hw : ∀ w ∈ ws, Nm w) (hm : ∀ m ∈ ms, Nm m) : p.okP Nm := fun q hq => by
  have h1 := h q hq
  cases q with
  | step b w => exact h1.imp id (hw w)
  | mark b m => exact hm m h1
  | _ => trivial
theorem okc_few {ws ms : List Str} {p : Pt} (h : OkC ws ms p) : ∀ q ∈ p.all, q.kids.length ≤ 4 := fun q hq => by
  have h1 := h q hq
  cases q with
  | seq b ps => exact h1
  | many p => simp [Pt.kids]
  | _ => simp [Pt.kids]
/-- so often as one will -/
inductive St (R : Nat → Nat → Prop) : Nat → Nat → Prop
  | nil (i : Nat) : St R i i
  | cons {i k j : Nat} : R i k → St R k j → St R i j
theorem St.app {R : Nat → Nat → Prop} {i k j : Nat} (h : St R i k) (h2 : St R k j) : St R i j := by
  induction h with
  | nil => exact h2
  | cons a _ ih => exact .cons a (ih h2)
theorem St.snoc {R : Nat → Nat → Prop} {i k j : Nat} (h : St R i k) (h2 : R k j) : St R i j := h.app (.cons h2 (.nil _))
/-- a line: marks at each place, steps between -/
abbrev Ln := List (List Str) × List (Bool × Str)
mutual
/-- the pattern goes from the i-th place of a line to the j-th -/
def F (L : Ln) : Pt → Nat → Nat → Prop
  | .stay, i, j => i = j
  | .mark b m, i, j => i = j ∧ (decide (m ∈ L.1.getD i []) = b)
  | .step b w, i, j => j = i + 1 ∧ ∃ t, L.2[i]? = some t ∧ t.1 = b ∧ (w = "*" ∨ w = t.2)
  | .seq true ps, i, j => Fs L ps i j
  | .seq false ps, i, j => Fo L ps i j
  | .many p, i, j => St (F L p) i j
def Fs (L : Ln) : List Pt → Nat → Nat → Prop
  | [], i, j => i = j
  | p :: ps, i, j => ∃ k, F L p i k ∧ Fs L ps k j
def Fo (L : Ln) : List Pt → Nat → Nat → Prop
  | [], _, _ => False
  | p :: ps, i, j => F L p i j ∨ Fo L ps i j
end
theorem Fo_iff {L : Ln} {i j : Nat} : ∀ {ps : List Pt}, Fo L ps i j ↔ ∃ p ∈ ps, F L p i j
  | [] => by simp [Fo]
  | p :: ps => by
    show F L p i j ∨ Fo L ps i j ↔ _
    rw [Fo_iff]
    simp
theorem Fs_app {L : Ln} {j : Nat} : ∀ {ps qs : List Pt} {i : Nat}, Fs L (ps ++ qs) i j ↔ ∃ k, Fs L ps i k ∧ Fs L qs k j
  | [], qs, i => by
    show Fs L qs i j ↔ ∃ k, i = k ∧ Fs L qs k j
    simp
  | p :: ps, qs, i => by
    show (∃ k, F L p i k ∧ Fs L (ps ++ qs) k j) ↔ ∃ k, (∃ k', F L p i k' ∧ Fs L ps k' k) ∧ Fs L qs k j
    constructor
    · rintro ⟨k, h1, h2⟩
      obtain ⟨k', h3, h4⟩ := Fs_app.mp h2
      exact ⟨k', ⟨k, h1, h3⟩, h4⟩
    · rintro ⟨k, ⟨k', h1, h2⟩, h3⟩
      exact ⟨k', h1, Fs_app.mpr ⟨k, h2, h3⟩⟩
def OkL (L : Ln) : Prop := L.1.length = L.2.length + 1
def flp (t : Bool × Str) : Bool × Str := (!t.1, t.2)
def bkL (L : Ln) : Ln := (L.1.reverse, L.2.reverse.map flp)
theorem bkL_bkL (L : Ln) : bkL (bkL L) = L := by
  obtain ⟨M, T⟩ := L
  simp only [bkL, List.reverse_reverse, Prod.mk.injEq, true_and]
  rw [← List.map_reverse, List.reverse_reverse, List.map_map]
  rw [List.map_congr_left (g := id) fun t _ => by obtain ⟨b, w⟩ := t; simp [flp], List.map_id]
theorem bkL_ok {L : Ln} (h : OkL L) : OkL (bkL L) := by
  unfold OkL bkL at *
  simpa using h
theorem F_in {L : Ln} (hL : OkL L) : ∀ (p : Pt) (i j : Nat), i ≤ L.2.length → F L p i j → j ≤ L.2.length := by
  refine pt_ind ?_ ?_ ?_ ?_ ?_
  · intro i j hi h
    exact h ▸ hi
  · rintro b w i j hi ⟨rfl, t, ht, _⟩
    exact (List.getElem?_eq_some_iff.mp ht).1
  · rintro b m i j hi ⟨rfl, _⟩
    exact hi
  · intro b ps ih i j hi h
    cases b
    · obtain ⟨p, hp, h⟩ := Fo_iff.mp h
      exact ih p hp i j hi h
    · have go : ∀ (qs : List Pt) (i : Nat), (∀ q ∈ qs, q ∈ ps) → i ≤ L.2.length → Fs L qs i j → j ≤ L.2.length := by
        intro qs
        induction qs with
        | nil => intro i _ hi h; exact (show i = j from h) ▸ hi
        | cons q qs ihq =>
          rintro i hq hi ⟨k, h1, h2⟩
          exact ihq k (fun r hr => hq r (List.mem_cons_of_mem _ hr)) (ih q (hq q List.mem_cons_self) i k hi h1) h2
      exact go ps i (fun _ z => z) hi h
  · intro p ih i j hi h
    have h' : St (F L p) i j := h
    induction h' with
    | nil => exact hi
    | cons a s ih2 => exact ih2 (ih _ _ hi a) s
/-- there and back -/
theorem F_bk {L : Ln} (hL : OkL L) : ∀ (p : Pt) (i j : Nat), i ≤ L.2.length → j ≤ L.2.length → F L p i j → F (bkL L) (bk p) (L.2.length - j) (L.2.length - i) := by
  refine pt_ind ?_ ?_ ?_ ?_ ?_
  · intro i j hi hj h
    exact (show i = j from h) ▸ rfl
  · rintro b w i j hi hj ⟨rfl, t, ht, hb, hw⟩
    refine ⟨by omega, flp t, ?_, by rw [← hb]; rfl, hw⟩
    have hi' := (List.getElem?_eq_some_iff.mp ht).1
    show (L.2.reverse.map flp)[L.2.length - (i + 1)]? = some (flp t)
    rw [List.getElem?_map, List.getElem?_reverse (by omega), show L.2.length - 1 - (L.2.length - (i + 1)) = i by omega, ht]
    rfl
  · rintro b m i j hi hj ⟨rfl, h⟩
    refine ⟨rfl, ?_⟩
    have hl : L.1.length = L.2.length + 1 := hL
    have e : (bkL L).1.getD (L.2.length - i) [] = L.1.getD i [] := by
      show L.1.reverse.getD (L.2.length - i) [] = _
      rw [List.getD_eq_getElem?_getD, List.getD_eq_getElem?_getD, List.getElem?_reverse (by omega), show L.1.length - 1 - (L.2.length - i) = i by omega]
    rw [e]
    exact h
  · intro b ps ih i j hi hj h
    rw [bk, bks_map]
    cases b
    · obtain ⟨p, hp, h⟩ := Fo_iff.mp h
      exact Fo_iff.mpr ⟨bk p, List.mem_map.mpr ⟨p, hp, rfl⟩, ih p hp i j hi hj h⟩
    · have go : ∀ (qs : List Pt) (i : Nat), (∀ q ∈ qs, q ∈ ps) → i ≤ L.2.length → Fs L qs i j → Fs (bkL L) (qs.map bk).reverse (L.2.length - j) (L.2.length - i) := by
        intro qs
        induction qs with
        | nil => intro i _ hi h; exact (show i = j from h) ▸ rfl
        | cons q qs ihq =>
          rintro i hq hi ⟨k, h1, h2⟩
          have hk := F_in hL q i k hi h1
          rw [List.map_cons, List.reverse_cons]
          exact Fs_app.mpr ⟨_, ihq k (fun r hr => hq r (List.mem_cons_of_mem _ hr)) hk h2, _, ih q (hq q List.mem_cons_self) i k hi hk h1, rfl⟩
      exact go ps i (fun _ z => z) hi h
  · intro p ih i j hi hj h
    have h' : St (F L p) i j := h
    have go : ∀ i j, St (F L p) i j → i ≤ L.2.length → St (F (bkL L) (bk p)) (L.2.length - j) (L.2.length - i) := by
      intro i j s
      induction s with
      | nil => intro _; exact .nil _
      | cons a s ih2 =>
        intro hi
        have hk := F_in hL p _ _ hi a
        exact (ih2 hk).snoc (ih _ _ hi hk a)
    exact go i j h' hi
/-- the whole line -/
def Wh (L : Ln) (p : Pt) : Prop := F L p 0 L.2.length
theorem Wh_bk {L : Ln} (hL : OkL L) (p : Pt) : Wh (bkL L) (bk p) ↔ Wh L p := by
  have one : ∀ (L : Ln) (p : Pt), OkL L → Wh L p → Wh (bkL L) (bk p) := fun L p hL h => by
    have := F_bk hL p 0 L.2.length (Nat.zero_le _) (Nat.le_refl _) h
    have e : (bkL L).2.length = L.2.length := by simp [bkL]
    unfold Wh
    rw [e]
    simpa using this
  refine ⟨fun h => ?_, one L p hL⟩
  have := one _ _ (bkL_ok hL) h
  rwa [bkL_bkL, bk_bk] at this
end L63
set_option maxRecDepth 100000
set_option maxHeartbeats 4000000
namespace L63
open PySem PySem.Spec L2
open Rc
open Sh hiding N_l_feed N_l_leaf N_l_names N_l_pattern deeps_le deeps_mem r_l_feed r_l_leaf r_l_names r_l_pattern sp_l_leaf sp_l_leaf_mono sp_l_names sp_l_names_mono sp_l_pattern sp_l_pattern_mono t_l_feed t_l_leaf t_l_names t_l_pattern
open Dt hiding nkeys sp_l_feed sp_l_feed_mono
/-! K63q: lines by draws. -/
def lnD (L : Ln) : D := .tup [.rol (L.1.map fun m => .tup (strsD m)), .rol (L.2.map fun t => .tup [.str (if t.1 then "on" else "back"), .str t.2])]
/-- a line over these marks -/
structure OkN (ms : List Str) (L : Ln) : Prop where
  len : L.1.length = L.2.length + 1
  mks : ∀ m ∈ L.1, m.Nodup ∧ ∀ x ∈ m, x ∈ ms
  st : ∀ t ∈ L.2, okS t.2
theorem strs_ofD {ds : List D} (h : ∀ d ∈ ds, ∃ x : Str, d = .str x) : ∃ xs : List Str, ds = strsD xs := by
  induction ds with
  | nil => exact ⟨[], rfl⟩
  | cons d ds ih =>
    obtain ⟨x, rfl⟩ := h d List.mem_cons_self
    obtain ⟨xs, rfl⟩ := ih fun d hd => h d (List.mem_cons_of_mem _ hd)
    exact ⟨x :: xs, rfl⟩
theorem strsD_mem {x : Str} {xs : List Str} : D.str x ∈ strsD xs ↔ x ∈ xs := by simp [strsD]
theorem nodup_of_strsD {xs : List Str} (h : (strsD xs).Nodup) : xs.Nodup := by
  unfold strsD at h
  exact (List.pairwise_map.mp h).imp fun a e => a (by rw [e])
/-- two lines behind one another -/
def joinL (A : List Str) (L L' : Ln) : Ln := (L.1.dropLast ++ [A] ++ L'.1.tail, L.2 ++ L'.2)
def sp_l_join : DSp := fun ds S Q _ => ∃ (ms : List Str) (L L' : Ln), ds = [lnD L, lnD L'] ∧ ms.length ≤ 100 ∧ (∀ m ∈ ms, okS m) ∧ OkN ms L ∧ OkN ms L' ∧ L.2.length ≤ 100000 ∧ L'.2.length ≤ 100000 ∧ ∀ A, OkN ms (joinL A L L') → Q (lnD (joinL A L L')) S
theorem sp_l_join_mono : SpMono sp_l_join := fun ds S Q Q' E E' k _ ⟨ms, L, L', h1, h2, h3, h4, h5, h6, h7, h⟩ => ⟨ms, L, L', h1, h2, h3, h4, h5, h6, h7, fun A a => k _ _ (h A a)⟩
/-- how long a line gets that a pattern is gone by -/
def lgt : Nat → Nat
  | 0 => 1
  | n + 1 => 4 * lgt n
def cst : Nat → Nat
  | 0 => 110
  | n + 1 => 110 + 4 * cst n
def sp_l_gone (k : Nat) : DSp := fun ds S Q _ => ∃ (p : Addr) (t : Pt) (ws ms : List Str) (n : Nat) (o : Ob), ds = [.ref p, ptD t, .rol (strsD ws), .rol (strsD ms)] ∧ ws.length ≤ 100 ∧ ms.length ≤ 100 ∧ (∀ w ∈ ws, Nm w) ∧ (∀ m ∈ ms, Nm m) ∧ ms.Nodup ∧ OkC ws ms t ∧ t.deep ≤ k + 1 ∧ k ≤ 4 ∧ S p = some o ∧ FeedC n o ∧ n + cst k < 2 ^ 80 ∧
  ∀ (L : Ln) (o' : Ob), OkN ms L → L.2.length ≤ lgt k → FeedC (n + cst k) o' → Q (lnD L) (upo S p o')
theorem sp_l_gone_mono (k : Nat) : SpMono (sp_l_gone k) := fun ds S Q Q' E E' kk _ ⟨p, t, ws, ms, n, o, h1, h2, h3, h4, h5, h6, h7, h8, h9, h10, h11, h12, h⟩ => ⟨p, t, ws, ms, n, o, h1, h2, h3, h4, h5, h6, h7, h8, h9, h10, h11, h12, fun L o' a b c => kk _ _ (h L o' a b c)⟩
def t_l_join : DTS := (dSeq (dAsg (dCB cTuple (dCons (dSortSetAF (dOp dAddF (dOp dIxS (dOp dIxS (dVar 0) (dC (.int 0))) (dNeg (dC (.int 1)))) (dOp dIxS (dOp dIxS (dVar 1) (dC (.int 0))) (dC (.int 0))))) dNil)) (dGN 2))
    (dRet (dTup (dCons (dOp dAddF (dOp dAddF (dSlF (dOp dIxS (dVar 0) (dC (.int 0))) dNoP (dSoP (dNeg (dC (.int 1))))) (dLstF (dCons (dVar 2) dNil))) (dSlF (dOp dIxS (dVar 1) (dC (.int 0))) (dSoP (dC (.int 1))) dNoP)) (dCons (dOp dAddF (dOp dIxS (dVar 0) (dC (.int 1))) (dOp dIxS (dVar 1) (dC (.int 1)))) dNil)))))
abbrev N_l_join : List Str := ["_law_one", "_law_other", "_law_meet"]
def t_l_gone (spR : DSp) : DTS := (dSeq (dAsg (dCB cTuple (dCons (dFz (dLc (dSeqI (dVar 3)) (dGN 9) (dTest (dOp (dEq false) (dCall sp_l_draw (dCons (dVar 0) (dCons (dC (.int 2)) dNil))) (dC (.int 1)))) (dVar 9) [9])) dNil)) (dGN 4))
    (dSeq (dAsg (dTup (dCons (dLstF (dCons (dVar 4) dNil)) (dCons (dLstF dNil) dNil))) (dGN 5))
    (dSeq (dIf (dTest (dOp (dEq false) (dOp dIxS (dVar 1) (dC (.int 0))) (dC (.str "at"))))
      (dRet (dTup (dCons (dLstF (dCons (dTup (dCons (dOp dIxS (dVar 1) (dC (.int 1))) dNil)) dNil)) (dCons (dLstF dNil) dNil))))
      dNx)
    (dSeq (dIf (dTest (dOp (dEq false) (dOp dIxS (dVar 1) (dC (.int 0))) (dC (.str "off"))))
      (dRet (dTup (dCons (dLstF (dCons (dTup dNil) dNil)) (dCons (dLstF dNil) dNil))))
      dNx)
    (dSeq (dIf (dTest (dOp (dEq false) (dOp dIxS (dVar 1) (dC (.int 0))) (dC (.str "step"))))
      (dSeq (dAsg (dOp dIxS (dVar 1) (dC (.int 2))) (dGN 6))
    (dSeq (dIf (dTest (dOp (dEq false) (dVar 6) (dC (.str "*"))))
      (dAsg (dOp dIxS (dOp dAddF (dVar 2) (dLstF (dCons (dC (.str "u")) dNil))) (dCall sp_l_draw (dCons (dVar 0) (dCons (dOp dAddF (dCB cLen (dCons (dVar 2) dNil)) (dC (.int 1))) dNil)))) (dGN 6))
      dNx)
    (dRet (dTup (dCons (dLstF (dCons (dVar 4) (dCons (dTup dNil) dNil))) (dCons (dLstF (dCons (dTup (dCons (dOp dIxS (dVar 1) (dC (.int 1))) (dCons (dVar 6) dNil))) dNil)) dNil))))))
      dNx)
    (dSeq (dIf (dTest (dOp (dEq false) (dOp dIxS (dVar 1) (dC (.int 0))) (dC (.str "many"))))
      (dFor (dRng1 (dCons (dCall sp_l_draw (dCons (dVar 0) (dCons (dC (.int 3)) dNil))) dNil)) (dGN 7)
      (dAsg (dCall sp_l_join (dCons (dVar 5) (dCons (dCall spR (dCons (dVar 0) (dCons (dOp dIxS (dVar 1) (dC (.int 1))) (dCons (dVar 2) (dCons (dVar 3) dNil))))) dNil))) (dGN 5)))
      dNx)
    (dSeq (dIf (dTest (dOp (dEq false) (dOp dIxS (dVar 1) (dC (.int 0))) (dC (.str "then"))))
      (dFor (dSeqI (dOp dIxS (dVar 1) (dC (.int 1)))) (dGN 8)
      (dAsg (dCall sp_l_join (dCons (dVar 5) (dCons (dCall spR (dCons (dVar 0) (dCons (dVar 8) (dCons (dVar 2) (dCons (dVar 3) dNil))))) dNil))) (dGN 5)))
      dNx)
    (dSeq (dIf (dAnd (dTest (dOp (dEq false) (dOp dIxS (dVar 1) (dC (.int 0))) (dC (.str "either")))) (dTest (dOp (dEq true) (dOp dIxS (dVar 1) (dC (.int 1))) (dTup dNil))))
      (dAsg (dCall spR (dCons (dVar 0) (dCons (dOp dIxS (dOp dIxS (dVar 1) (dC (.int 1))) (dCall sp_l_draw (dCons (dVar 0) (dCons (dCB cLen (dCons (dOp dIxS (dVar 1) (dC (.int 1))) dNil)) dNil)))) (dCons (dVar 2) (dCons (dVar 3) dNil))))) (dGN 5))
      dNx)
    (dRet (dVar 5))))))))))
abbrev N_l_gone : List Str := ["_law_feed_here", "_law_pattern_here", "_law_words", "_law_marks", "_law_here", "_law_line_here", "_law_word", "_law_k", "_law_one", "_law_mark"]
theorem hasTy_str {x : Str} (h : okS x) : hasTy (scTy false) (.str x) = true := h
theorem nodup_sub_len' {α : Type} : ∀ {xs ys : List α}, xs.Nodup → (∀ x ∈ xs, x ∈ ys) → xs.length ≤ ys.length := by
  classical
  intro xs
  induction xs with
  | nil => intro ys _ _; exact Nat.zero_le _
  | cons x xs ih =>
    intro ys nd h
    obtain ⟨n1, n2⟩ := List.nodup_cons.mp nd
    have hx := h x List.mem_cons_self
    have := ih (ys := ys.erase x) n2 fun z hz => (List.mem_erase_of_ne (fun e => n1 (by rw [← e]; exact hz))).mpr (h z (List.mem_cons_of_mem _ hz))
    have e := List.length_erase_of_mem hx
    have := List.length_pos_of_mem hx
    rw [List.length_cons]
    omega
theorem atI_lastC {α : Type} (xs : List α) (x : α) : atI (xs ++ [x]) (-1) = some x := by
  unfold atI ixN
  rw [if_neg (by omega)]
  have e : (-((xs ++ [x]).length : Int) ≤ -1) := by simp; omega
  have e2 : (-1 + ((xs ++ [x]).length : Int)).toNat = xs.length := by simp; omega
  rw [if_pos e, e2]
  simp
theorem cutD_init (xs : List D) (x : D) : cutD (xs ++ [x]) none (some (-1)) = xs := by
  unfold cutD
  simp [HT.sIx]
  rw [show (-1 + ((xs.length : Int) + 1)).toNat = xs.length by omega]
  simp
theorem r_l_join (ds S Q E) (h : sp_l_join ds S Q E) : t_l_join (dEnd Q E) (dstart N_l_join ds) S := by
  obtain ⟨ms, ⟨M, T⟩, ⟨M', T'⟩, rfl, hml, hmo, h1, h2, h3, h4, h⟩ := h
  obtain ⟨l1, k1, s1⟩ := h1
  obtain ⟨l2, k2, s2⟩ := h2
  dsimp only at l1 k1 s1 l2 k2 s2 h3 h4
  unfold t_l_join
  refine dSeq_gen fun R hR => ?_
  obtain ⟨M0, a, rfl⟩ : ∃ M0 a, M = M0 ++ [a] := by
    rcases List.eq_nil_or_concat M with rfl | ⟨M0, a, rfl⟩
    · simp at l1
    · exact ⟨M0, a, by simp⟩
  obtain ⟨a', M1, rfl⟩ : ∃ a' M1, M' = a' :: M1 := by
    cases M' with
    | nil => simp at l2
    | cons a' M1 => exact ⟨a', M1, rfl⟩
  have ka := k1 a (by simp)
  have ka' := k2 a' (by simp)
  have la : a.length ≤ 100 := Nat.le_trans (nodup_sub_len' ka.1 ka.2) hml
  have la' : a'.length ≤ 100 := Nat.le_trans (nodup_sub_len' ka'.1 ka'.2) hml
  simp [dstart, lnD, atI_lastC, catD]
  have hstr : ∀ d ∈ strsD a ++ strsD a', ∃ x : Str, (x ∈ a ∨ x ∈ a') ∧ d = .str x := fun d hd => by
    rcases List.mem_append.mp hd with hd | hd
    · obtain ⟨x, hx, rfl⟩ := List.mem_map.mp hd
      exact ⟨x, .inl hx, rfl⟩
    · obtain ⟨x, hx, rfl⟩ := List.mem_map.mp hd
      exact ⟨x, .inr hx, rfl⟩
  refine ⟨by omega, .inl fun d hd => ?_, ?_, ?_⟩
  · obtain ⟨x, hx, rfl⟩ : ∃ x : Str, (x ∈ a ∨ x ∈ a') ∧ d = .str x := hstr d (by rcases hd with ⟨x, hx, rfl⟩ | ⟨x, hx, rfl⟩ <;> simp [hx])
    refine hasTy_str ?_
    rcases hx with hx | hx
    · exact hmo _ (ka.2 x hx)
    · exact hmo _ (ka'.2 x hx)
  · exact Nat.lt_of_le_of_lt (show a.length + a'.length + 1 ≤ 201 by omega) (by decide)
  · obtain ⟨A, hA⟩ : ∃ A, ssD (strsD a ++ strsD a') = strsD A := strs_ofD fun d hd => by
      obtain ⟨x, _, rfl⟩ := hstr d (ss_mem.mp hd)
      exact ⟨x, rfl⟩
    have hAm : ∀ x ∈ A, x ∈ ms := fun x hx => by
      obtain ⟨y, hy, e⟩ := hstr (.str x) (ss_mem.mp (hA ▸ strsD_mem.mpr hx))
      cases e
      exact hy.elim (ka.2 x) (ka'.2 x)
    have hAn : A.Nodup := nodup_of_strsD (hA ▸ ss_nodup _)
    simp only [strsD] at hA
    rw [hA]
    subst hR
    have hh := h A ⟨by simp [joinL]; simp at l1 l2; omega, ?_, ?_⟩
    · simp [joinL, lnD] at hh
      have c1 : cutD (D.tup (strsD a') :: List.map (fun m => D.tup (strsD m)) M1) (some 1) none = List.map (fun m => D.tup (strsD m)) M1 := cutD_drop _ 1
      simp [catD, cutD_init, c1]
      simp at l1 l2
      exact ⟨by omega, by omega, by omega, .same hh⟩
    · intro m hm
      simp [joinL] at hm
      rcases hm with hm | rfl | hm
      · exact k1 m (by simp [hm])
      · exact ⟨hAn, hAm⟩
      · exact k2 m (by simp [hm])
    · intro t ht
      rcases List.mem_append.mp ht with ht | ht
      · exact s1 t ht
      · exact s2 t ht
theorem here_lc {v : Nat} {ms : List Str} {p : Addr} {n : Nat} {o : Ob} {S : DH} {Q : DK} {τ : DSt} (h0 : τ[0]? = some (some (.ref p))) (hv0 : 0 < v) (hv : v < τ.length) (hml : ms.length ≤ 100) (hmo : ∀ m ∈ ms, okS m) (hmd : ms.Nodup) (hp : S p = some o) (fo : FeedC n o) (hn : n < 2 ^ 80)
    (h : ∀ (A : List Str) o', A.Nodup → (∀ x ∈ A, x ∈ ms) → FeedC (n + ms.length) o' → Q (.rol (strsD A)) (upo S p o')) :
    newO S (.lst []) fun q S1 => dLcL (dGN v) (dTest (dOp (dEq false) (dCall sp_l_draw (dCons (dVar 0) (dCons (dC (.int 2)) dNil))) (dC (.int 1)))) (dVar v) DW0 τ (fun _ => True) q (fzK Q (.ref q)) (strsD ms) S1 := by
  refine lcF_inv (G := fun _ => True) (fun i acc S1 => ∃ (A : List Str) (o1 : Ob), acc = strsD A ∧ S1 = upo S p o1 ∧ A.Nodup ∧ (∀ x ∈ A, x ∈ ms.take i) ∧ FeedC (n + i) o1) ⟨[], o, rfl, ?_, .nil, (fun _ z => nomatch z), fo⟩ (fun _ _ _ _ _ _ _ => trivial) ?_ (by simp; omega) ?_
  · exact (upo_id hp).symm
  · rintro i d acc S1 q N hd ⟨A, o1, rfl, rfl, a1, a2, fo1⟩ hq ha hN
    have hi : i < ms.length := by
      have := (List.getElem?_eq_some_iff.mp hd).1
      simpa using this
    obtain rfl : d = .str ms[i] := by simp [hi] at hd; exact hd.symm
    have npq : p ≠ q := fun z => by subst z; simp at hq
    have hq' : S q = none := by rw [upo_ne npq.symm] at hq; exact hq
    have e0 : (List.set τ v (some (D.str ms[i])))[0]? = some (some (.ref p)) := by rw [List.getElem?_set_ne (by omega)]; exact h0
    have hx : ms[i] ∈ ms := List.getElem_mem hi
    have hxt : ms[i] ∉ A := fun hx => by
      have h1 := a2 _ hx
      obtain ⟨j, hj, e⟩ := List.mem_iff_getElem.mp h1
      rw [List.getElem_take] at e
      simp at hj
      exact List.pairwise_iff_getElem.mp hmd j i (by omega) hi (by omega) e
    have tk : ∀ x, x ∈ ms.take (i + 1) ↔ x ∈ ms.take i ∨ x = ms[i] := fun x => take_mem hi
    simp [hv]
    rw [e0]
    refine ⟨p, 2, n + i, o1, by simp, by decide, by decide, by rw [upo_ne npq]; simp, fo1, by omega, fun u o2 u1 fo2 => ?_⟩
    rw [upo_comm npq.symm, upo_upo]
    refine dEq_sm (int_sm _ _) (int_sm _ _) ?_
    have hq2 : upo S p o2 q = none := by rw [upo_ne npq.symm]; exact hq'
    by_cases c : (u : Int) = 1
    · simp [c]
      refine ⟨by simpa using ha, ?_⟩
      have := hN (strsD (A ++ [ms[i]])) (upo S p o2) hq2 ⟨A ++ [ms[i]], o2, rfl, rfl, ?_, ?_, fo2⟩ (by simp)
      · simpa [strsD] using this
      · exact List.nodup_append.mpr ⟨a1, List.nodup_cons.mpr ⟨List.not_mem_nil, .nil⟩, fun x hx y hy e => hxt (by rw [← List.mem_singleton.mp hy, ← e]; exact hx)⟩
      · intro x hx
        rcases List.mem_append.mp hx with hx | hx
        · exact (tk x).mpr (.inl (a2 x hx))
        · exact (tk x).mpr (.inr (List.mem_singleton.mp hx))
    · simp [c]
      exact hN _ _ hq2 ⟨A, o2, rfl, rfl, a1, fun x hx => (tk x).mpr (.inl (a2 x hx)), fo2⟩ (by simp)
  · rintro acc S1 ⟨A, o1, rfl, rfl, a1, a2, fo1⟩
    exact h A o1 a1 (fun x hx => List.mem_of_mem_take (a2 x hx)) (by simpa using fo1)
theorem r_l_gone (k : Nat) (ds S Q E) (h : sp_l_gone k ds S Q E) : t_l_gone (prevSp sp_l_gone k) (dEnd Q E) (dstart N_l_gone ds) S := by
  obtain ⟨p, t, ws, ms, n, o, rfl, hw, hm, hwn, hmn, hmd, hok, hd, hk4, hp, fo, hn, h⟩ := h
  unfold t_l_gone
  refine dSeq_gen fun R hR => ?_
  simp [-prevSp, dstart]
  refine here_lc (v := 9) rfl (by decide) (by simp) hm (fun m hm => nm_ok (hmn m hm)) hmd hp fo (by omega) fun A o1 a1 a2 fo1 => ?_
  simp
  subst hR
  refine dSeq_gen fun R hR => ?_
  simp
  subst hR
  have hL0 : OkN ms ([A], []) := ⟨rfl, fun m hm => by simp at hm; subst hm; exact ⟨a1, a2⟩, fun t ht => nomatch ht⟩
  have hc1 : n + 110 ≤ n + cst k := by cases k <;> simp [cst]
  have hg1 : 1 ≤ lgt k := by
    have : ∀ k, 1 ≤ lgt k := fun k => by induction k with | zero => exact Nat.le_refl _ | succ k ih => simp only [lgt]; omega
    exact this k
  have leaf : ∀ (L : Ln) (o2 : Ob), OkN ms L → L.2.length ≤ 1 → FeedC (n + 110) o2 → Q (lnD L) (upo S p o2) := fun L o2 a b c => h L o2 a (by omega) (c.more hc1)
  have skip : ∀ (b : Bool), True := fun _ => trivial
  cases t with
  | stay =>
    simp [-prevSp, ptD]
    exact .same (by simpa [lnD] using leaf ([A], []) o1 hL0 (Nat.zero_le _) (fo1.more (by omega)))
  | step b w =>
    have hws : ∀ z : Str, (z = "u" ∨ z ∈ ws) → okS z := fun z hz => by
      rcases hz with rfl | hz
      · unfold okS; decide +kernel
      · exact nm_ok (hwn z hz)
    have fin : ∀ (z : Str) (o2 : Ob), okS z → FeedC (n + 110) o2 → Rt Q (.tup [.rol [.tup (strsD A), .tup []], .rol [.tup [.str (if b then "on" else "back"), .str z]]]) (upo S p o2) := fun z o2 hz fo2 => by
      have := leaf ([A, []], [(b, z)]) o2 ⟨rfl, fun m hm => by simp at hm; rcases hm with rfl | rfl; exact ⟨a1, a2⟩; exact ⟨.nil, fun _ z => nomatch z⟩, fun t ht => by simp at ht; subst ht; exact hz⟩ (Nat.le_refl _) fo2
      exact .same (by simpa [lnD] using this)
    have hwb := hok _ (Pt.self_all _)
    cases b
    all_goals
      simp [-prevSp, ptD]
      split
      · simp [catD]
        refine ⟨by omega, p, ws.length + 1, n + ms.length, o1, by simp, by omega, by omega, by simp, fo1, by omega, fun u o2 u1 fo2 => ?_⟩
        refine opt_at (by omega) (by simp; omega) fun z hz => ?_
        obtain ⟨y, hy, rfl⟩ : ∃ y : Str, (y = "u" ∨ y ∈ ws) ∧ z = .str y := by
          rcases List.mem_append.mp hz with hz | hz
          · obtain ⟨y, hy, rfl⟩ := List.mem_map.mp hz
            exact ⟨y, .inr hy, rfl⟩
          · exact ⟨"u", .inl rfl, List.mem_singleton.mp hz⟩
        rw [upo_upo]
        exact fin y o2 (hws y hy) (fo2.more (by omega))
      · rename_i hne
        exact fin w o1 (hws w (.inr (hwb.resolve_left hne))) (fo1.more (by omega))
  | mark b m =>
    have hmb : m ∈ ms := hok _ (Pt.self_all _)
    cases b
    all_goals
      simp [-prevSp, ptD]
    · exact .same (by simpa [lnD] using leaf ([[]], []) o1 ⟨rfl, fun m hm => by simp at hm; subst hm; exact ⟨.nil, fun _ z => nomatch z⟩, fun t ht => nomatch ht⟩ (Nat.zero_le _) (fo1.more (by omega)))
    · exact .same (by simpa [lnD] using leaf ([[m]], []) o1 ⟨rfl, fun m' hm => by simp at hm; subst hm; exact ⟨List.nodup_cons.mpr ⟨List.not_mem_nil, .nil⟩, fun x hx => by rw [List.mem_singleton.mp hx]; exact hmb⟩, fun t ht => nomatch ht⟩ (Nat.zero_le _) (fo1.more (by omega)))
  | seq b ps =>
    have hps : ps.length ≤ 4 := hok _ (Pt.self_all _)
    rw [Pt.deep_seq] at hd
    have okq : ∀ q ∈ ps, OkC ws ms q := fun q hq r hr => hok r (by rw [Pt.all_seq, Pt.alls_flat]; exact List.mem_cons_of_mem _ (List.mem_flatMap.mpr ⟨q, hq, hr⟩))
    have okp : (Pt.seq b ps).okP Nm := okc_okp hok hwn hmn
    have hcs : 110 + 4 * cst (k - 1) ≤ cst k ∨ ps = [] := by
      by_cases e : ps = []
      · exact .inr e
      · obtain ⟨q, qs, rfl⟩ := List.exists_cons_of_ne_nil e
        rw [Pt.deeps_cons] at hd
        have : 1 ≤ q.deep := by cases q <;> simp [Pt.deep]
        obtain ⟨m, rfl⟩ : ∃ m, k = m + 1 := ⟨k - 1, by omega⟩
        exact .inl (Nat.le_refl _)
    have hls : 4 * lgt (k - 1) ≤ lgt k ∨ ps = [] := by
      by_cases e : ps = []
      · exact .inr e
      · obtain ⟨q, qs, rfl⟩ := List.exists_cons_of_ne_nil e
        rw [Pt.deeps_cons] at hd
        have : 1 ≤ q.deep := by cases q <;> simp [Pt.deep]
        obtain ⟨m, rfl⟩ : ∃ m, k = m + 1 := ⟨k - 1, by omega⟩
        exact .inl (Nat.le_refl _)
    have hlb : lgt (k - 1) ≤ 1000 := by
      have : k - 1 ≤ 3 := by omega
      generalize k - 1 = m at this
      rcases m with _ | _ | _ | _ | m <;> simp [lgt] <;> omega
    have call : ∀ (q : Pt) (n' : Nat) (o' : Ob) (Q' : DK) (E' : DXK), q ∈ ps → FeedC n' o' → n' + cst (k - 1) < 2 ^ 80 → (∀ (L : Ln) (o'' : Ob), OkN ms L → L.2.length ≤ lgt (k - 1) → FeedC (n' + cst (k - 1)) o'' → Q' (lnD L) (upo S p o'')) →
        prevSp sp_l_gone k [.ref p, ptD q, .rol (strsD ws), .rol (strsD ms)] (upo S p o') Q' E' := fun q n' o' Q' E' hq fo' hn' hQ => by
      have h1 := deeps_mem hq
      have : 1 ≤ q.deep := by cases q <;> simp [Pt.deep]
      obtain ⟨m, rfl⟩ : ∃ m, k = m + 1 := ⟨k - 1, by omega⟩
      exact ⟨p, q, ws, ms, n', o', rfl, hw, hm, hwn, hmn, hmd, okq q hq, by omega, by omega, by simp, fo', hn', fun L o'' a b c => by rw [upo_upo]; exact hQ L o'' a b c⟩
    refine dSeqIf_gen fun A1 B1 R hA hB hR => ?_
    cases b
    · simp [-prevSp, ptD]
      subst hB
      simp
      subst hR
      refine dSeqIf_gen fun A1 B1 R hA hB hR => ?_
      simp [-prevSp, ptD]
      subst hB
      simp
      subst hR
      refine dSeqIf_gen fun A1 B1 R hA hB hR => ?_
      simp [-prevSp, ptD]
      subst hB
      simp
      subst hR
      refine dSeqIf_gen fun A1 B1 R hA hB hR => ?_
      simp [-prevSp, ptD]
      subst hB
      simp
      subst hR
      refine dSeqIf_gen fun A1 B1 R hA hB hR => ?_
      simp [-prevSp, ptD]
      subst hB
      simp
      subst hR
      refine dSeqIf_gen fun A1 B1 R hA hB hR => ?_
      simp [-prevSp, ptD]
      have hsm : Sm 60 (.tup (ptDs ps)) := by
        have h1 := (pt_sm _ okp)
        have h2 : Sm (2 * (Pt.seq false ps).deep + 1) (ptD (.seq false ps)) := h1.mono (by omega)
        exact (h2.kids (.tup (ptDs ps)) (by simp)).mono (by rw [Pt.deep_seq]; omega)
      refine dEq_sm hsm (Sm_tup (n := 59).mpr fun d hd => nomatch hd) ?_
      by_cases e : ps = []
      · subst e
        simp [ptDs]
        subst hB
        simp
        subst hR
        simp [ptD, ptDs]
        exact .same (by simpa [lnD] using leaf ([A], []) o1 hL0 (Nat.zero_le _) (fo1.more (by omega)))
      · have e2 : ptDs ps ≠ [] := by rw [ptDs_map]; simpa using e
        have hl0 : 0 < ps.length := List.length_pos_iff.mpr e
        have hcs := hcs.resolve_right e
        have hls := hls.resolve_right e
        simp [e2]
        subst hA
        simp [-prevSp, ptDs_len]
        refine ⟨p, ps.length, n + ms.length, o1, by simp, hl0, by omega, by simp, fo1, by omega, fun u o2 u1 fo2 => ?_⟩
        rw [upo_upo]
        simp [-prevSp, atI_nat (ptDs_at u1)]
        refine call _ (n + ms.length + 1) o2 _ _ (List.getElem_mem u1) fo2 (by omega) fun L o3 a b c => ?_
        subst hR
        simp [-prevSp]
        exact .same (h L o3 a (by omega) (c.more (by omega)))
    · simp [-prevSp, ptD]
      subst hB
      simp
      subst hR
      refine dSeqIf_gen fun A1 B1 R hA hB hR => ?_
      simp [-prevSp, ptD]
      subst hB
      simp
      subst hR
      refine dSeqIf_gen fun A1 B1 R hA hB hR => ?_
      simp [-prevSp, ptD]
      subst hB
      simp
      subst hR
      refine dSeqIf_gen fun A1 B1 R hA hB hR => ?_
      simp [-prevSp, ptD]
      subst hB
      simp
      subst hR
      refine dSeqIf_gen fun A1 B1 R hA hB hR => ?_
      simp [-prevSp, ptD]
      subst hA
      refine dFor_gen fun B hB => ?_
      simp
      refine loop_inv (fun i τ S' => ∃ (L : Ln) (o3 : Ob) (x8 : Option D), τ = [some (.ref p), some (ptD (.seq true ps)), some (.rol (strsD ws)), some (.rol (strsD ms)), some (.tup (strsD A)), some (lnD L), none, none, x8, none] ∧
        S' = upo S p o3 ∧ OkN ms L ∧ L.2.length ≤ i * lgt (k - 1) ∧ FeedC (n + ms.length + 1 + i * cst (k - 1)) o3) ⟨([A], []), o1, none, rfl, rfl, hL0, Nat.zero_le _, fo1.more (by omega)⟩ (fun _ _ _ _ _ => trivial) ?_ ?_
      · rintro i d τ S1 N hd' ⟨L, o3, x8, rfl, rfl, g1, g2, fo3⟩ hN
        have hi : i < ps.length := by
          have h1 := (List.getElem?_eq_some_iff.mp hd').1
          rwa [ptDs_len] at h1
        rw [ptDs_at hi] at hd'
        cases hd'
        have hne : ps ≠ [] := fun e => by subst e; simp at hi
        have im : i * cst (k - 1) + cst (k - 1) ≤ 4 * cst (k - 1) := by
          rw [← Nat.succ_mul]
          exact Nat.mul_le_mul_right _ (by omega)
        have il : i * lgt (k - 1) + lgt (k - 1) ≤ 4 * lgt (k - 1) := by
          rw [← Nat.succ_mul]
          exact Nat.mul_le_mul_right _ (by omega)
        have hcs := hcs.resolve_right hne
        subst hB
        simp [-prevSp]
        refine call _ (n + ms.length + 1 + i * cst (k - 1)) o3 _ _ (List.getElem_mem hi) fo3 (by omega) fun L' o4 a b c => ?_
        refine ⟨ms, L, L', rfl, hm, fun x hx => nm_ok (hmn x hx), g1, a, by omega, by omega, fun X hX => ?_⟩
        simp
        refine hN _ _ ⟨_, o4, _, rfl, rfl, hX, ?_, c.more (by rw [Nat.succ_mul]; omega)⟩
        simp [joinL]
        rw [Nat.succ_mul]
        omega
      · rintro τ S1 ⟨L, o3, x8, rfl, rfl, g1, g2, fo3⟩
        rw [ptDs_len] at g2 fo3
        have im : ps.length * cst (k - 1) ≤ 4 * cst (k - 1) := Nat.mul_le_mul_right _ hps
        have il : ps.length * lgt (k - 1) ≤ 4 * lgt (k - 1) := Nat.mul_le_mul_right _ hps
        have hq := h L o3 g1 (by
          rcases hls with e | e
          · omega
          · subst e
            have g3 : L.2.length ≤ 0 := by simpa using g2
            omega) (fo3.more (by
          rcases hcs with e | e
          · omega
          · subst e
            simp
            omega))
        subst hR
        simp [-prevSp, ptD]
        exact .same hq
  | many q =>
    obtain ⟨m, rfl⟩ : ∃ m, k = m + 1 := ⟨k - 1, by rw [Pt.deep_many] at hd; have : 1 ≤ q.deep := by { cases q <;> simp [Pt.deep] }; omega⟩
    rw [Pt.deep_many] at hd
    have okq : OkC ws ms q := fun r hr => hok r (by rw [Pt.all_many]; exact List.mem_cons_of_mem _ hr)
    refine dSeqIf_gen fun A1 B1 R hA hB hR => ?_
    simp [-prevSp, ptD]
    subst hB
    simp
    subst hR
    refine dSeqIf_gen fun A1 B1 R hA hB hR => ?_
    simp [-prevSp, ptD]
    subst hB
    simp
    subst hR
    refine dSeqIf_gen fun A1 B1 R hA hB hR => ?_
    simp [-prevSp, ptD]
    subst hB
    simp
    subst hR
    refine dSeqIf_gen fun A1 B1 R hA hB hR => ?_
    have tail : ∀ (L : Ln) (o2 : Ob) (x7 : Option D), OkN ms L → L.2.length ≤ lgt (m + 1) → FeedC (n + cst (m + 1)) o2 →
        R (dEnd Q E) [some (.ref p), some (ptD (.many q)), some (.rol (strsD ws)), some (.rol (strsD ms)), some (.tup (strsD A)), some (lnD L), none, x7, none, none] (upo S p o2) := fun L o2 x7 a b c => by
      subst hR
      simp [-prevSp, ptD]
      exact .same (h L o2 a b c)
    simp [ptD]
    subst hA
    refine dFor_gen fun B hB => ?_
    simp
    refine ⟨p, 3, n + ms.length, o1, by simp, by decide, by decide, by simp, fo1, by omega, fun u o2 u1 fo2 => ?_⟩
    rw [upo_upo]
    simp
    refine ⟨by omega, ?_⟩
    have hcs : cst (m + 1) = 110 + 4 * cst m := rfl
    have hls : lgt (m + 1) = 4 * lgt m := rfl
    have hlb : lgt m ≤ 1000 := by
      have : m ≤ 3 := by omega
      rcases m with _ | _ | _ | _ | m <;> simp [lgt] <;> omega
    refine loop_inv (fun i τ S' => ∃ (L : Ln) (o3 : Ob) (x7 : Option D), τ = [some (.ref p), some (ptD (.many q)), some (.rol (strsD ws)), some (.rol (strsD ms)), some (.tup (strsD A)), some (lnD L), none, x7, none, none] ∧
      S' = upo S p o3 ∧ OkN ms L ∧ L.2.length ≤ i * lgt m ∧ FeedC (n + ms.length + 1 + i * cst m) o3) ⟨([A], []), o2, none, rfl, rfl, hL0, Nat.zero_le _, fo2.more (by omega)⟩ (fun _ _ _ _ _ => trivial) ?_ ?_
    · rintro i d τ S1 N hd' ⟨L, o3, x7, rfl, rfl, g1, g2, fo3⟩ hN
      have hi : i < u := by
        have h1 := (List.getElem?_eq_some_iff.mp hd').1
        simpa [rngD] using h1
      have im : i * cst m + cst m ≤ 2 * cst m := by
        rw [← Nat.succ_mul]
        exact Nat.mul_le_mul_right _ (by omega)
      have il : i * lgt m + lgt m ≤ 2 * lgt m := by
        rw [← Nat.succ_mul]
        exact Nat.mul_le_mul_right _ (by omega)
      subst hB
      simp [-prevSp, ptD]
      refine ⟨p, q, ws, ms, n + ms.length + 1 + i * cst m, o3, rfl, hw, hm, hwn, hmn, hmd, okq, by omega, by omega, by simp, fo3, by omega, fun L' o4 a b c => ?_⟩
      rw [upo_upo]
      simp
      refine ⟨ms, L, L', rfl, hm, fun x hx => nm_ok (hmn x hx), g1, a, by omega, by omega, fun X hX => ?_⟩
      simp
      refine hN _ _ ⟨_, o4, _, rfl, rfl, hX, ?_, c.more (by rw [Nat.succ_mul]; omega)⟩
      simp [joinL]
      rw [Nat.succ_mul]
      omega
    · rintro τ S1 ⟨L, o3, x7, rfl, rfl, g1, g2, fo3⟩
      have hu : (rngD 0 u).length = u := by simp [rngD]
      rw [hu] at g2 fo3
      have im : u * cst m ≤ 2 * cst m := Nat.mul_le_mul_right _ (by omega)
      have il : u * lgt m ≤ 2 * lgt m := Nat.mul_le_mul_right _ (by omega)
      exact tail L o3 x7 g1 (by omega) (fo3.more (by omega))
end L63
set_option maxRecDepth 100000
set_option maxHeartbeats 4000000
namespace Sh
open PySem PySem.Spec L2 Dt Sh
end Sh
set_option maxRecDepth 100000
set_option maxHeartbeats 4000000
namespace ShB
open PySem PySem.Spec L2 Dt Sh
/-! ShB: what the laws k30 to k43 have: draws, leaves, machines. -/
def sp_l_cell_at : DSp := fun ds S Q _ => ∃ (ns : List Int) (k : Nat), ds = [.rol (ns.map D.int), .int k] ∧ Q (.int (ns.getD k 0)) S
def sp_l_draws : DSp := fun ds S Q _ => ∃ (c : Int) (zs : List Nat), ds = [.int c, .rol (natsD zs)] ∧ zs.length ≤ 100000 ∧ (∀ z ∈ zs, 1 ≤ z ∧ z ≤ 1000000) ∧
  ∀ rs : List Nat, rs.length = zs.length → (∀ i, i < zs.length → rs.getD i 0 < zs.getD i 0) → Q (.rol (natsD rs)) S
def bWords : List Str := ["a", "ab", "stay"]
def bMarks : List Str := ["a", "many"]
def sp_l_words : DSp := fun ds S Q _ => ds = [] ∧ Q (.rol (strsD bWords)) S
def sp_l_marks : DSp := fun ds S Q _ => ds = [] ∧ Q (.rol (strsD bMarks)) S
/-- a leaf of these laws -/
def LfB (p : Pt) : Prop := p = .stay ∨ (∃ b w, p = .step b w ∧ (w = "*" ∨ w ∈ bWords)) ∨ ∃ b m, p = .mark b m ∧ m ∈ bMarks
def sp_l_leaf : DSp := fun ds S Q _ => ∃ (i j : Nat), ds = [.int i, .int j] ∧ i < 5 ∧ ∀ p, LfB p → Q (ptD p) S
theorem sp_l_leaf_mono : SpMono sp_l_leaf := fun ds S Q Q' E E' k _ ⟨a, b, h1, h2, h⟩ => ⟨a, b, h1, h2, fun p hp => k _ _ (h p hp)⟩
/-- a machine of plain data -/
structure Mc where
  n : Nat
  b : Nat
  es : List Nat
  mv : List Mv
def machD (M : Mc) : D := mcD (.int M.n) (.int M.b) (.tup (natsD M.es)) M.mv
structure OkMc (M : Mc) : Prop where
  b : M.b < M.n
  es : M.es.Pairwise (· < ·)
  esn : ∀ e ∈ M.es, e < M.n
  mv : (M.mv.map mvD).Pairwise fun x y => ltD x y = true
  mvn : ∀ m ∈ M.mv, m.a < M.n ∧ m.b < M.n ∧ m.p.isLeaf = true ∧ m.p.okP Nm
theorem LfB.leaf {p : Pt} (h : LfB p) : p.isLeaf = true := by
  rcases h with rfl | ⟨b, w, rfl, _⟩ | ⟨b, w, rfl, _⟩ <;> rfl
theorem bWords_nm : ∀ w ∈ bWords, Nm w := by
  intro w h
  simp [bWords] at h
  rcases h with rfl | rfl | rfl <;> refine ⟨by decide +kernel, by decide +kernel, by decide +kernel⟩
theorem bMarks_nm : ∀ w ∈ bMarks, Nm w := by
  intro w h
  simp [bMarks] at h
  rcases h with rfl | rfl <;> refine ⟨by decide +kernel, by decide +kernel, by decide +kernel⟩
theorem LfB.ok {p : Pt} (h : LfB p) : p.okP Nm := by
  rcases h with rfl | ⟨b, w, rfl, hw⟩ | ⟨b, w, rfl, hw⟩ <;> intro q hq <;> simp [Pt.all] at hq <;> subst hq
  · trivial
  · exact hw.imp id (bWords_nm w)
  · exact bMarks_nm w hw
def sp_l_machine : DSp := fun ds S Q _ => ∃ (c : Int) (m : Nat), ds = [.int c, .int m] ∧ 1 ≤ m ∧ m ≤ 50 ∧
  ∀ M : Mc, OkMc M → M.n ≤ m → M.mv.length ≤ 3 * m → (∀ x ∈ M.mv, LfB x.p) → Q (machD M) S
def sp_l_still : DSp := fun ds S Q _ => ∃ (x y z : D) (mv : List Mv) (st : List Nat) (ms : List Str), ds = [mcD x y z mv, .rol (natsD st), .rol (strsD ms)] ∧ (∀ m ∈ mv, OkMv m) ∧ (∀ m ∈ ms, okS m) ∧ st.length + mv.length ≤ 100000 ∧ st.Nodup ∧
  ∀ L : List Nat, L.Nodup → (∀ n, n ∈ L ↔ Come mv ms st n) → Q (.rol (natsD L)) S
def sp_l_by : DSp := fun ds S Q _ => ∃ (x y z : D) (mv : List Mv) (st : List Nat) (side word : Str) (d : D), ds = [mcD x y z mv, d, .str side, .str word] ∧ (d = .rol (natsD st) ∨ d = .tup (natsD st)) ∧ (∀ m ∈ mv, OkMv m) ∧ mv.length ≤ 100000 ∧
  ∀ L : List Nat, L.Nodup → (∀ n, n ∈ L ↔ ByStep mv st side word n) → Q (.rol (natsD L)) S
def t_l_cell_at : DTS := (dSeq (dIf (dTest (dOp rLt (dVar 1) (dCB cLen (dCons (dVar 0) dNil))))
      (dRet (dOp dIxS (dVar 0) (dVar 1)))
      dNx)
    (dRet (dC (.int 0))))
abbrev N_l_cell_at : List Str := ["_law_script", "_law_k"]
def t_l_draws : DTS := (dSeq (dAsg (dLst dNil) (dGN 2))
    (dSeq (dAsg (dOp rSub (dVar 0) (dOp rPow (dC (.int 10)) (dC (.int 18)))) (dGN 3))
    (dSeq (dFor (dRng1 (dCons (dCB cLen (dCons (dVar 1) dNil)) dNil)) (dGN 4)
      (dSeq (dAsg (dOp rMod (dOp dMul (dOp dAddF (dOp rMod (dVar 0) (dC (.int 1000003))) (dC (.int 1))) (dOp dAddF (dOp dMul (dVar 4) (dVar 4)) (dC (.int 48271)))) (dC (.int 65537))) (dGN 5))
    (dSeq (dAsg (dOp rMod (dOp dMul (dOp dAddF (dOp dAddF (dOp dMul (dVar 5) (dVar 5)) (dOp dMul (dC (.int 7919)) (dVar 4))) (dC (.int 11))) (dC (.int 30269))) (dC (.int 999983))) (dGN 5))
    (dSeq (dIf (dTest (dOp rGe (dVar 0) (dOp rPow (dC (.int 10)) (dC (.int 18)))))
      (dAsg (dVar 3) (dGN 5))
      dNx)
    (dSeq (dDrop (dBM "list" mAppend (dVar 2) (dCons (dOp rMod (dVar 5) (dOp dIxS (dVar 1) (dVar 4))) dNil)))
    (dAsg (dOp rFdiv (dVar 3) (dOp dIxS (dVar 1) (dVar 4))) (dGN 3)))))))
    (dRet (dVar 2)))))
abbrev N_l_draws : List Str := ["_law_cell", "_law_sizes", "_law_found", "_law_figures", "_law_k", "_law_mixed"]
def t_l_words : DTS := (dRet (dLstF (dCons (dC (.str "a")) (dCons (dC (.str "ab")) (dCons (dC (.str "stay")) dNil)))))
abbrev N_l_words : List Str := []
def t_l_marks : DTS := (dRet (dLstF (dCons (dC (.str "a")) (dCons (dC (.str "many")) dNil))))
abbrev N_l_marks : List Str := []
def t_l_still : DTS := (dSeq (dAsg (dCB cListA (dCons (dVar 1) dNil)) (dGN 3))
    (dSeq (dAsg (dC (.int 0)) (dGN 4))
    (dSeq (dWhile (dTest (dOp rLt (dVar 4) (dCB cLen (dCons (dVar 3) dNil))))
      (dSeq (dFor (dSeqI (dOp dIxS (dVar 0) (dC (.int 3)))) (dGTup 3 (dGCons (dGN 5) (dGCons (dGN 6) (dGCons (dGN 7) dGNil))))
      (dIf (dAnd (dTest (dOp (dEq false) (dVar 5) (dOp dIxS (dVar 3) (dVar 4)))) (dAnd (dTest (dOp (dIn true) (dVar 7) (dVar 3))) (dTest (dOp (dEq true) (dOp dIxS (dVar 6) (dC (.int 0))) (dC (.str "step"))))))
      (dIf (dOr (dTest (dOp (dEq false) (dOp dIxS (dVar 6) (dC (.int 0))) (dC (.str "stay")))) (dTest (dOp (dEq false) (dOp (dIn false) (dOp dIxS (dVar 6) (dC (.int 1))) (dVar 2)) (dOp (dEq false) (dOp dIxS (dVar 6) (dC (.int 0))) (dC (.str "at"))))))
      (dDrop (dBM "list" mAppend (dVar 3) (dCons (dVar 7) dNil)))
      dNx)
      dNx))
    (dAsg (dOp dAddF (dVar 4) (dC (.int 1))) (dGN 4))))
    (dRet (dVar 3)))))
abbrev N_l_still : List Str := ["_law_machine_here", "_law_stands", "_law_marks_here", "_law_found", "_law_at", "_law_one", "_law_leaf_here", "_law_other"]
def t_l_by : DTS := (dSeq (dAsg (dLst dNil) (dGN 4))
    (dSeq (dFor (dSeqI (dOp dIxS (dVar 0) (dC (.int 3)))) (dGTup 3 (dGCons (dGN 5) (dGCons (dGN 6) (dGCons (dGN 7) dGNil))))
      (dIf (dAnd (dTest (dOp (dIn false) (dVar 5) (dVar 1))) (dAnd (dTest (dOp (dEq false) (dOp dIxS (dVar 6) (dC (.int 0))) (dC (.str "step")))) (dAnd (dTest (dOp (dEq false) (dOp dIxS (dVar 6) (dC (.int 1))) (dVar 2))) (dTest (dOp (dIn false) (dOp dIxS (dVar 6) (dC (.int 2))) (dTup (dCons (dC (.str "*")) (dCons (dVar 3) dNil))))))))
      (dIf (dTest (dOp (dIn true) (dVar 7) (dVar 4)))
      (dDrop (dBM "list" mAppend (dVar 4) (dCons (dVar 7) dNil)))
      dNx)
      dNx))
    (dRet (dVar 4))))
abbrev N_l_by : List Str := ["_law_machine_here", "_law_stands", "_law_side", "_law_word", "_law_found", "_law_one", "_law_leaf_here", "_law_other"]
def t_l_right : DTS := (dSeq (dIf (dOr (dNot (dTest (dIsi "tuple" (dVar 0)))) (dTest (dOp (dEq true) (dCB cListAF (dCons (dVar 0) dNil)) (dCB cSortAF (dCons (dVar 1) dNil)))))
      (dRet (dC (.bl false)))
      dNx)
    (dRet (dOp (dEq false) (dFz (dLc (dSeqI (dVar 0)) (dGN 2) (dTest (dIsi "bool" (dVar 2))) (dVar 2) [2])) (dLstF dNil))))
abbrev N_l_right : List Str := ["_law_found", "_law_due", "_law_stand"]
def t_l_leaf : DTS := (dSeq (dIf (dTest (dOp (dEq false) (dVar 0) (dC (.int 0))))
      (dRet (dTup (dCons (dC (.str "stay")) dNil)))
      dNx)
    (dSeq (dIf (dTest (dOp rLt (dVar 0) (dC (.int 3))))
      (dRet (dTup (dCons (dC (.str "step")) (dCons (dOp dIxS (dLstF (dCons (dC (.str "on")) (dCons (dC (.str "back")) dNil))) (dOp rMod (dVar 1) (dC (.int 2)))) (dCons (dOp dIxS (dOp dAddF (dCall sp_l_words dNil) (dLstF (dCons (dC (.str "*")) dNil))) (dOp rMod (dOp rFdiv (dVar 1) (dC (.int 2))) (dC (.int 4)))) dNil)))))
      dNx)
    (dRet (dTup (dCons (dOp dIxS (dLstF (dCons (dC (.str "at")) (dCons (dC (.str "off")) dNil))) (dOp rSub (dVar 0) (dC (.int 3)))) (dCons (dOp dIxS (dCall sp_l_marks dNil) (dOp rMod (dVar 1) (dC (.int 2)))) dNil))))))
abbrev N_l_leaf : List Str := ["_law_way", "_law_number"]
def t_l_machine : DTS := (dSeq (dAsg (dCall sp_l_draws (dCons (dVar 0) (dCons (dOp dAddF (dLstF (dCons (dVar 1) (dCons (dVar 1) (dCons (dC (.int 8)) (dCons (dOp dMul (dC (.int 3)) (dVar 1)) dNil))))) (dFz (dOp dMul (dOp dMul (dLst (dCons (dVar 1) (dCons (dC (.int 5)) (dCons (dC (.int 16)) (dCons (dVar 1) dNil))))) (dC (.int 3))) (dVar 1)))) dNil))) (dGN 2))
    (dSeq (dAsg (dOp dAddF (dC (.int 1)) (dOp dIxS (dVar 2) (dC (.int 0)))) (dGN 3))
    (dSeq (dAsg (dFz (dLc (dRng1 (dCons (dVar 3) dNil)) (dGN 11) (dTest (dOp (dEq false) (dOp rMod (dOp rFdiv (dOp dIxS (dVar 2) (dC (.int 2))) (dOp dIxS (dLstF (dCons (dC (.int 1)) (dCons (dC (.int 2)) (dCons (dC (.int 4)) dNil)))) (dOp rMod (dVar 11) (dC (.int 3))))) (dC (.int 2))) (dC (.int 1)))) (dVar 11) [11])) (dGN 4))
    (dSeq (dAsg dDnN (dGN 5))
    (dSeq (dFor (dRng1 (dCons (dOp dIxS (dVar 2) (dC (.int 3))) dNil)) (dGN 6)
      (dSeq (dAsg (dSlF (dVar 2) (dSoP (dOp dAddF (dC (.int 4)) (dOp dMul (dC (.int 4)) (dVar 6)))) (dSoP (dOp dAddF (dC (.int 8)) (dOp dMul (dC (.int 4)) (dVar 6))))) (dGTupA 4 (dGCons (dGN 7) (dGCons (dGN 8) (dGCons (dGN 9) (dGCons (dGN 10) dGNil))))))
    (dPut (dVar 5) (dTup (dCons (dOp rMod (dVar 7) (dVar 3)) (dCons (dCall sp_l_leaf (dCons (dVar 8) (dCons (dVar 9) dNil))) (dCons (dOp rMod (dVar 10) (dVar 3)) dNil)))) (dC (.bl true)))))
    (dRet (dTup (dCons (dVar 3) (dCons (dOp rMod (dOp dIxS (dVar 2) (dC (.int 1))) (dVar 3)) (dCons (dCB cTuple (dCons (dVar 4) dNil)) (dCons (dCB cTuple (dCons (dCB cSortAF (dCons (dVar 5) dNil)) dNil)) dNil)))))))))))
abbrev N_l_machine : List Str := ["_law_cell", "_law_most", "_law_ds", "_law_many", "_law_ends", "_law_moves", "_law_j", "_law_one", "_law_way", "_law_number", "_law_other", "_law_stand"]
theorem r_l_leaf (ds S Q E) (h : sp_l_leaf ds S Q E) : t_l_leaf (dEnd Q E) (dstart N_l_leaf ds) S := by
  obtain ⟨i, j, rfl, hi, h⟩ := h
  simp [t_l_leaf, dstart]
  by_cases c0 : i = 0
  · simp [c0]
    exact .same (h .stay (.inl rfl))
  have c2 : CDivW j 2 := wide_div (by decide) (b := 3) (by decide) (by decide) (by decide)
  by_cases c1 : (i : Int) < 3
  · simp [c0, c1, sp_l_words, bWords, catD, c2]
    refine opt_at (by omega) (by simp; omega) fun y hy => ?_
    refine opt_at (by omega) (by simp; omega) fun z hz => ?_
    simp at hy hz
    obtain ⟨b, rfl⟩ : ∃ b : Bool, y = .str (if b then "on" else "back") := by
      rcases hy with rfl | rfl
      · exact ⟨true, rfl⟩
      · exact ⟨false, rfl⟩
    obtain ⟨w, hw, rfl⟩ : ∃ w : Str, (w = "*" ∨ w ∈ bWords) ∧ z = .str w := by
      rcases hz with rfl | rfl | rfl | rfl <;> exact ⟨_, by simp [bWords], rfl⟩
    exact .same (h (.step b w) (.inr (.inl ⟨b, w, rfl, hw⟩)))
  · simp [c0, c1, sp_l_marks, bMarks]
    refine opt_at (by omega) (by simp; omega) fun y hy => ?_
    refine opt_at (by omega) (by simp; omega) fun z hz => ?_
    simp at hy hz
    obtain ⟨b, rfl⟩ : ∃ b : Bool, y = .str (if b then "at" else "off") := by
      rcases hy with rfl | rfl
      · exact ⟨true, rfl⟩
      · exact ⟨false, rfl⟩
    obtain ⟨w, hw, rfl⟩ : ∃ w : Str, w ∈ bMarks ∧ z = .str w := by
      rcases hz with rfl | rfl <;> exact ⟨_, by simp [bMarks], rfl⟩
    exact .same (h (.mark b w) (.inr (.inr ⟨b, w, rfl, hw⟩)))
abbrev mvTy : Ty := .tup [.int, .hom1 .str, .int]
end ShB
set_option maxRecDepth 100000
set_option maxHeartbeats 4000000
namespace ShB
open PySem PySem.Spec L2 Dt Sh
end ShB
set_option maxRecDepth 100000
set_option maxHeartbeats 4000000
namespace ShB
open PySem PySem.Spec L2 Dt Sh
@[simp] theorem dInQ_nat {neg : Bool} {m : Nat} {st : List Nat} {S : DH} {Q : DK} : dInQ neg (.int m) (natsD st) S Q = Q (.bl (if neg then !decide (m ∈ st) else decide (m ∈ st))) S := by
  rw [dInQ_fl rfl (by simp [flD]), inF_nat]
end ShB
set_option maxRecDepth 100000
set_option maxHeartbeats 4000000
namespace ShB
open PySem PySem.Spec L2 Dt Sh
theorem inF_strs {w : Str} {ms : List Str} : inF (.str w) (strsD ms) = decide (w ∈ ms) := by
  induction ms with
  | nil => simp [inF]
  | cons a ms ih =>
    simp only [strsD, List.map_cons, inF, List.any_cons] at ih ⊢
    rw [ih]
    simp [eqF]
    rw [str_beq]
    by_cases e : a = w
    · simp [e]
    · simp [e, Ne.symm e]
@[simp] theorem dInQ_strs {neg : Bool} {w : Str} {ms : List Str} {S : DH} {Q : DK} : dInQ neg (.str w) (strsD ms) S Q = Q (.bl (if neg then !decide (w ∈ ms) else decide (w ∈ ms))) S := by
  rw [dInQ_fl rfl (by simp [flD]), inF_strs]
theorem dSeqWhile_gen {c : DTT} {tb r : DTS} {A : DEnds} {τ : DSt} {S : DH} (h : ∀ B R, B = tb → R = r → dSeq (dWhile c B) R A τ S) : dSeq (dWhile c tb) r A τ S := h tb r rfl rfl
end ShB
set_option maxRecDepth 100000
set_option maxHeartbeats 4000000
namespace Sh
open PySem PySem.Spec L2 Dt Sh
end Sh
set_option maxRecDepth 100000
set_option maxHeartbeats 4000000
namespace Rm
open PySem PySem.Spec L2
open Rc
open ShB hiding N_l_leaf dSeqWhile_gen r_l_leaf sp_l_leaf sp_l_leaf_mono t_l_leaf
open Sh hiding N_l_cell_at N_l_feed N_l_leaf N_l_names N_l_pattern deeps_le deeps_mem r_l_feed r_l_leaf r_l_names r_l_pattern sp_l_leaf sp_l_leaf_mono sp_l_names sp_l_names_mono sp_l_pattern sp_l_pattern_mono t_l_cell_at t_l_feed t_l_leaf t_l_names t_l_pattern
open Dt hiding nkeys sp_l_cell_at sp_l_feed sp_l_feed_mono
/-! ShMk: machines of patterns. -/
open Classical in
/-- a move more, where it is not there -/
noncomputable def addM (K : List Mv) (x : Mv) : List Mv := if x ∈ K then K else K ++ [x]
mutual
/-- how a pattern is laid from a stand to another: the next stand, the moves -/
noncomputable def layP : Pt → Nat → Nat → Nat × List Mv → Nat × List Mv
  | .seq true [], a, b, s => (s.1, addM s.2 ⟨a, .stay, b⟩)
  | .seq true (p :: ps), a, b, s => layR (p :: ps) a b s
  | .seq false ps, a, b, s => layA ps a b s
  | .many p, a, b, s => layP p s.1 s.1 (s.1 + 1, addM (addM s.2 ⟨a, .stay, s.1⟩) ⟨s.1, .stay, b⟩)
  | .stay, a, b, s => (s.1, addM s.2 ⟨a, .stay, b⟩)
  | .step o w, a, b, s => (s.1, addM s.2 ⟨a, .step o w, b⟩)
  | .mark o m, a, b, s => (s.1, addM s.2 ⟨a, .mark o m, b⟩)
noncomputable def layA : List Pt → Nat → Nat → Nat × List Mv → Nat × List Mv
  | [], _, _, s => s
  | p :: ps, a, b, s => layA ps a b (layP p a b s)
noncomputable def layR : List Pt → Nat → Nat → Nat × List Mv → Nat × List Mv
  | [], _, _, s => s
  | [p], a, b, s => layP p a b s
  | p :: q :: ps, a, b, s => layR (q :: ps) s.1 b (layP p a s.1 (s.1 + 1, s.2))
end
section
variable (C : Addr)
/-- the maker at m, its moves in l -/
def mkS (S : DH) (m l : Addr) (s : Nat × List Mv) : DH := upo (upo S m (.ins C [("size", .int (s.1 : Nat)), ("laid", .ref l)])) l (.dN (kset (s.2.map mvD)))
def sp_Maker_init : DSp := fun ds S Q _ => ∃ m : Addr, ds = [.ref m] ∧ S m = some (.ins C []) ∧ ∀ l, S l = none → Q .non (mkS C S m l (2, []))
/-- what a maker's deeds ask -/
structure MkOk (S0 : DH) (m l : Addr) (s : Nat × List Mv) : Prop where
  ne : m ≠ l
  nd : s.2.Nodup
  lf : ∀ x ∈ s.2, x.p.isLeaf = true
def sp_Maker_fresh : DSp := fun ds S Q _ => ∃ (S0 : DH) (m l : Addr) (s : Nat × List Mv), ds = [.ref m] ∧ S = mkS C S0 m l s ∧ m ≠ l ∧ s.1 ≤ 1000000 ∧ Q (.int (s.1 : Nat)) (mkS C S0 m l (s.1 + 1, s.2))
def sp_Maker_lay (k : Nat) : DSp := fun ds S Q _ => ∃ (S0 : DH) (m l : Addr) (s : Nat × List Mv) (t : Pt) (a b : Nat), ds = [.ref m, ptD t, .int (a : Nat), .int (b : Nat)] ∧ S = mkS C S0 m l s ∧ MkOk S0 m l s ∧ (t.deep ≤ k ∧ k ≤ 20 ∧ t.okP Nm) ∧ s.1 + 2 * t.all.length ≤ 100000 ∧ s.2.length + 3 * t.all.length ≤ 100000 ∧ (∀ q ∈ t.all, q.kids.length ≤ 1000) ∧
  Q .non (mkS C S0 m l (layP t a b s))
def sp_Maker_lay_row (k : Nat) : DSp := fun ds S Q _ => ∃ (S0 : DH) (m l : Addr) (s : Nat × List Mv) (ps : List Pt) (a b : Nat), ds = [.ref m, .tup (ptDs ps), .int (a : Nat), .int (b : Nat)] ∧ S = mkS C S0 m l s ∧ MkOk S0 m l s ∧ ((∀ t ∈ ps, t.deep ≤ k ∧ t.okP Nm) ∧ k ≤ 20) ∧ s.1 + 2 * (Pt.alls ps).length + 2 ≤ 100000 ∧ s.2.length + 3 * (Pt.alls ps).length + 3 ≤ 100000 ∧ ps.length ≤ 1000 ∧ (∀ t ∈ ps, ∀ q ∈ t.all, q.kids.length ≤ 1000) ∧
  Q .non (mkS C S0 m l (layP (.seq true ps) a b s))
end
/-- what laying keeps -/
structure LayBd (s r : Nat × List Mv) (n m : Nat) : Prop where
  nd : s.2.Nodup → r.2.Nodup
  lf : (∀ x ∈ s.2, x.p.isLeaf = true) → ∀ x ∈ r.2, x.p.isLeaf = true
  up : s.1 ≤ r.1
  b1 : r.1 ≤ s.1 + n
  b2 : r.2.length ≤ s.2.length + m
theorem LayBd.trans {s r q : Nat × List Mv} {n m n' m' : Nat} (h : LayBd s r n m) (g : LayBd r q n' m') : LayBd s q (n + n') (m + m') :=
  ⟨fun z => g.nd (h.nd z), fun z => g.lf (h.lf z), Nat.le_trans h.up g.up, by have := h.b1; have := g.b1; omega, by have := h.b2; have := g.b2; omega⟩
theorem LayBd.refl (s : Nat × List Mv) : LayBd s s 0 0 := ⟨id, id, Nat.le_refl _, Nat.le_refl _, Nat.le_refl _⟩
theorem LayBd.more {s r : Nat × List Mv} {n m n' m' : Nat} (h : LayBd s r n m) (l : n ≤ n') (l' : m ≤ m') : LayBd s r n' m' := ⟨h.nd, h.lf, h.up, by have := h.b1; omega, by have := h.b2; omega⟩
theorem ptInd {P : Pt → Prop} (h1 : P .stay) (h2 : ∀ b w, P (.step b w)) (h3 : ∀ b m, P (.mark b m)) (h4 : ∀ b ps, (∀ p ∈ ps, P p) → P (.seq b ps)) (h5 : ∀ p, P p → P (.many p)) : ∀ p : Pt, P p := by
  intro p
  induction hn : p.all.length using Nat.strongRecOn generalizing p with
  | ind n ih =>
    subst hn
    cases p with
    | stay => exact h1
    | step b w => exact h2 b w
    | mark b m => exact h3 b m
    | seq b ps =>
      refine h4 b ps fun q hq => ih q.all.length ?_ q rfl
      rw [Pt.all_seq, List.length_cons, Pt.alls_flat]
      have : q.all.length ≤ (ps.flatMap Pt.all).length := by
        obtain ⟨a, c, rfl⟩ := List.append_of_mem hq
        simp
        omega
      omega
    | many q => exact h5 q (ih q.all.length (by rw [Pt.all_many, List.length_cons]; omega) q rfl)
def t_Maker_init (C_Maker : Addr) : DTS := (dSeq (dPutF C_Maker "size" (dVar 0) (dC (.int 2)))
    (dPutF C_Maker "laid" (dVar 0) dDnN))
abbrev N_Maker_init : List Str := ["self"]
def t_Maker_fresh (C_Maker : Addr) : DTS := (dSeq (dPutF C_Maker "size" (dVar 0) (dOp dAddF (dFld C_Maker "size" (dVar 0)) (dC (.int 1))))
    (dRet (dOp rSub (dFld C_Maker "size" (dVar 0)) (dC (.int 1)))))
abbrev N_Maker_fresh : List Str := ["self"]
def t_Maker_lay (C_Maker : Addr) (spR spM : DSp) : DTS := (dIf (dTest (dOp (dIn false) (dOp dIxS (dVar 1) (dC (.int 0))) (dC (.tup [.str "stay", .str "step", .str "at", .str "off"]))))
      (dPut (dFld C_Maker "laid" (dVar 0)) (dTup (dCons (dVar 2) (dCons (dVar 1) (dCons (dVar 3) dNil)))) (dC (.bl true)))
      (dIf (dTest (dOp (dEq false) (dOp dIxS (dVar 1) (dC (.int 0))) (dC (.str "either"))))
      (dFor (dSeqI (dOp dIxS (dVar 1) (dC (.int 1)))) (dGN 4)
      (dDrop (dMeth C_Maker "lay" spR (dVar 0) (dCons (dVar 4) (dCons (dVar 2) (dCons (dVar 3) dNil))))))
      (dIf (dTest (dOp (dEq false) (dOp dIxS (dVar 1) (dC (.int 0))) (dC (.str "many"))))
      (dSeq (dAsg (dMeth C_Maker "fresh" (sp_Maker_fresh C_Maker) (dVar 0) dNil) (dGN 5))
    (dSeq (dPut (dFld C_Maker "laid" (dVar 0)) (dTup (dCons (dVar 2) (dCons (dTup (dCons (dC (.str "stay")) dNil)) (dCons (dVar 5) dNil)))) (dC (.bl true)))
    (dSeq (dPut (dFld C_Maker "laid" (dVar 0)) (dTup (dCons (dVar 5) (dCons (dTup (dCons (dC (.str "stay")) dNil)) (dCons (dVar 3) dNil)))) (dC (.bl true)))
    (dDrop (dMeth C_Maker "lay" spR (dVar 0) (dCons (dOp dIxS (dVar 1) (dC (.int 1))) (dCons (dVar 5) (dCons (dVar 5) dNil))))))))
      (dDrop (dMeth C_Maker "lay_row" spM (dVar 0) (dCons (dOp dIxS (dVar 1) (dC (.int 1))) (dCons (dVar 2) (dCons (dVar 3) dNil))))))))
abbrev N_Maker_lay : List Str := ["self", "pattern", "one", "other", "part", "middle"]
def t_Maker_lay_row (C_Maker : Addr) (spR : DSp) : DTS := (dSeq (dIf (dTest (dOp (dEq false) (dVar 1) (dTup dNil)))
      (dPut (dFld C_Maker "laid" (dVar 0)) (dTup (dCons (dVar 2) (dCons (dTup (dCons (dC (.str "stay")) dNil)) (dCons (dVar 3) dNil)))) (dC (.bl true)))
      dNx)
    (dSeq (dAsg (dVar 2) (dGN 4))
    (dFor (dRng1 (dCons (dCB cLen (dCons (dVar 1) dNil)) dNil)) (dGN 5)
      (dSeq (dAsg (dVar 3) (dGN 6))
    (dSeq (dIf (dTest (dOp rLt (dVar 5) (dOp rSub (dCB cLen (dCons (dVar 1) dNil)) (dC (.int 1)))))
      (dAsg (dMeth C_Maker "fresh" (sp_Maker_fresh C_Maker) (dVar 0) dNil) (dGN 6))
      dNx)
    (dSeq (dDrop (dMeth C_Maker "lay" spR (dVar 0) (dCons (dOp dIxS (dVar 1) (dVar 5)) (dCons (dVar 4) (dCons (dVar 6) dNil)))))
    (dAsg (dVar 6) (dGN 4))))))))
abbrev N_Maker_lay_row : List Str := ["self", "parts", "one", "other", "here", "place", "there"]
def t_machine_of (C_Maker : Addr) : DTS := (dSeq (dAsg (dMake C_Maker (sp_Maker_init C_Maker) dNil) (dGN 1))
    (dSeq (dDrop (dMeth C_Maker "lay" (sp_Maker_lay C_Maker 3) (dVar 1) (dCons (dVar 0) (dCons (dC (.int 0)) (dCons (dC (.int 1)) dNil)))))
    (dRet (dTup (dCons (dFld C_Maker "size" (dVar 1)) (dCons (dC (.int 0)) (dCons (dTup (dCons (dC (.int 1)) dNil)) (dCons (dCB cTuple (dCons (dCB cSortAF (dCons (dFld C_Maker "laid" (dVar 1)) dNil)) dNil)) dNil))))))))
abbrev N_machine_of : List Str := ["pattern", "maker"]
section
variable {C : Addr}
@[simp] theorem lk_laid (a b : D) : List.lookup (Str.ofString "laid") [(Str.ofString "size", a), (Str.ofString "laid", b)] = some b := by
  have e : (Str.ofString "laid" == Str.ofString "size") = false := by decide +kernel
  simp [List.lookup, e]
theorem ptD_inj : ∀ p q : Pt, ptD p = ptD q → p = q := by
  refine ptInd ?_ ?_ ?_ ?_ ?_
  · intro q h
    cases q with
    | stay => rfl
    | mark b m => cases b <;> simp [ptD] at h
    | seq b m => cases b <;> simp [ptD] at h
    | _ => simp [ptD] at h
  · intro b w q h
    cases q with
    | step b' w' => cases b <;> cases b' <;> simp [ptD] at h ⊢ <;> exact h
    | mark b' m => cases b' <;> simp [ptD] at h
    | seq b' m => cases b' <;> simp [ptD] at h
    | _ => simp [ptD] at h
  · intro b w q h
    cases q with
    | mark b' w' => cases b <;> cases b' <;> simp [ptD] at h ⊢ <;> exact h
    | seq b' m => cases b <;> cases b' <;> simp [ptD] at h
    | _ => cases b <;> simp [ptD] at h
  · intro b ps ih q h
    have go : ∀ (xs ys : List Pt), (∀ x ∈ xs, x ∈ ps) → ptDs xs = ptDs ys → xs = ys := by
      intro xs
      induction xs with
      | nil => intro ys _ e; cases ys with | nil => rfl | cons y ys => simp [ptDs] at e
      | cons x xs ihx =>
        intro ys hx e
        cases ys with
        | nil => simp [ptDs] at e
        | cons y ys =>
          simp only [ptDs, List.cons.injEq] at e
          rw [ih x (hx x List.mem_cons_self) y e.1, ihx ys (fun z hz => hx z (List.mem_cons_of_mem _ hz)) e.2]
    cases q with
    | seq b' qs => cases b <;> cases b' <;> simp [ptD] at h ⊢ <;> exact go ps qs (fun _ z => z) h
    | mark b' w' => cases b <;> cases b' <;> simp [ptD] at h
    | _ => cases b <;> simp [ptD] at h
  · intro p ih q h
    cases q with
    | many q => simp [ptD] at h ⊢; exact ih q h
    | mark b' w' => cases b' <;> simp [ptD] at h
    | seq b' w' => cases b' <;> simp [ptD] at h
    | _ => simp [ptD] at h
end
end Rm
set_option maxRecDepth 100000
set_option maxHeartbeats 4000000
namespace L64
open PySem PySem.Spec L2
open L63
open Rm
open Rc
open Sh hiding N_l_feed N_l_leaf N_l_names N_l_pattern deeps_le deeps_mem r_l_feed r_l_leaf r_l_names r_l_pattern sp_l_leaf sp_l_leaf_mono sp_l_names sp_l_names_mono sp_l_pattern sp_l_pattern_mono t_l_feed t_l_leaf t_l_names t_l_pattern
open Dt hiding nkeys sp_l_feed sp_l_feed_mono
/-! K64p: the plain law: patterns put plainly. -/
noncomputable instance ptEq : DecidableEq Pt := Classical.typeDecidableEq _
abbrev pNo : Pt := .seq false []
abbrev pNs : Pt := .seq true []
/-- a then within a then is opened, a stay left out -/
def thS : Pt → List Pt
  | .seq true qs => qs
  | .stay => []
  | p => [p]
def eiS : Pt → List Pt
  | .seq false qs => qs
  | p => [p]
def wrap (b : Bool) (l : List Pt) : Pt := match l with | [p] => p | l => .seq b l
noncomputable def plThen (ps : List Pt) : Pt := if pNo ∈ ps then pNo else wrap true (ps.flatMap thS)
noncomputable def eiF (acc : List Pt) : List Pt → List Pt
  | [] => acc
  | p :: ps => eiF (acc ++ (eiS p).filter (fun x => decide (x ∉ acc))) ps
def isMany : Pt → Bool
  | .many _ => true
  | _ => false
noncomputable def plMany (q : Pt) : Pt := if q = .stay ∨ q = pNs ∨ q = pNo then .stay else if isMany q then q else .many q
mutual
noncomputable def pl : Pt → Pt
  | .stay => .stay
  | .step b w => .step b w
  | .mark b m => .mark b m
  | .seq b ps => if b then plThen (pls ps) else wrap false (eiF [] (pls ps))
  | .many p => plMany (pl p)
noncomputable def pls : List Pt → List Pt
  | [] => []
  | p :: ps => pl p :: pls ps
end
theorem pls_map (ps : List Pt) : pls ps = ps.map pl := by
  induction ps with
  | nil => simp [pls]
  | cons p ps ih => simp [pls, ih]
theorem pl_seq (b : Bool) (ps : List Pt) : pl (.seq b ps) = if b then plThen (ps.map pl) else wrap false (eiF [] (ps.map pl)) := by rw [pl, pls_map]
/-! nothing needless -/
def okK : Bool → Pt → Prop
  | true, q => (∀ ps, q ≠ .seq true ps) ∧ q ≠ .stay ∧ q ≠ pNo
  | false, q => ∀ ps, q ≠ .seq false ps
def okM (q : Pt) : Prop := isMany q = false ∧ q ≠ .stay ∧ q ≠ pNs ∧ q ≠ pNo
/-- one place of a pattern -/
def ok1 : Pt → Prop
  | .seq b ps => ps.length ≠ 1 ∧ (∀ q ∈ ps, okK b q) ∧ (b = false → ps.Nodup)
  | .many p => okM p
  | _ => True
def Pln (p : Pt) : Prop := ∀ q ∈ p.all, ok1 q
theorem pln_seq {b : Bool} {ps : List Pt} : Pln (.seq b ps) ↔ ok1 (.seq b ps) ∧ ∀ p ∈ ps, Pln p := by
  unfold Pln
  rw [Pt.all_seq, Pt.alls_flat]
  constructor
  · exact fun h => ⟨h _ List.mem_cons_self, fun p hp q hq => h q (List.mem_cons_of_mem _ (List.mem_flatMap.mpr ⟨p, hp, hq⟩))⟩
  · rintro ⟨h1, h2⟩ q hq
    rcases List.mem_cons.mp hq with rfl | hq
    · exact h1
    · obtain ⟨p, hp, hq⟩ := List.mem_flatMap.mp hq
      exact h2 p hp q hq
theorem pln_many {p : Pt} : Pln (.many p) ↔ okM p ∧ Pln p := by
  unfold Pln
  rw [Pt.all_many]
  constructor
  · exact fun h => ⟨h _ List.mem_cons_self, fun q hq => h q (List.mem_cons_of_mem _ hq)⟩
  · rintro ⟨h1, h2⟩ q hq
    rcases List.mem_cons.mp hq with rfl | hq
    · exact h1
    · exact h2 q hq
theorem pln_stay : Pln .stay := fun q hq => by
  rw [List.mem_singleton.mp (show q ∈ [Pt.stay] from hq)]; trivial
theorem pln_no (b : Bool) : Pln (.seq b []) := pln_seq.mpr ⟨⟨by simp, fun _ h => (nomatch h), fun _ => .nil⟩, fun _ h => (nomatch h)⟩
theorem wrap_pln {b : Bool} {l : List Pt} (h1 : ∀ q ∈ l, okK b q ∧ Pln q) (h2 : b = false → l.Nodup) : Pln (wrap b l) := by
  have go : l.length ≠ 1 → Pln (.seq b l) := fun hl => pln_seq.mpr ⟨⟨hl, fun q hq => (h1 q hq).1, h2⟩, fun q hq => (h1 q hq).2⟩
  match l, h1, go with
  | [], _, go => exact go (by simp)
  | [p], h1, _ => exact (h1 p (by simp)).2
  | p :: q :: r, _, go => exact go (by simp)
theorem thS_pln {p q : Pt} (h : Pln p) (hn : p ≠ pNo) (hq : q ∈ thS p) : okK true q ∧ Pln q := by
  cases p with
  | stay => exact nomatch hq
  | seq b ps =>
    cases b
    · obtain rfl : q = .seq false ps := List.mem_singleton.mp hq
      exact ⟨⟨(fun _ e => by cases e), (fun e => by cases e), hn⟩, h⟩
    · obtain ⟨h1, h2⟩ := pln_seq.mp h
      exact ⟨h1.2.1 q hq, h2 q hq⟩
  | _ =>
    obtain rfl := List.mem_singleton.mp hq
    exact ⟨⟨(fun _ e => by cases e), (fun e => by cases e), (fun e => by cases e)⟩, h⟩
theorem eiS_pln {p q : Pt} (h : Pln p) (hq : q ∈ eiS p) : okK false q ∧ Pln q := by
  cases p with
  | seq b ps =>
    cases b
    · obtain ⟨h1, h2⟩ := pln_seq.mp h
      exact ⟨h1.2.1 q hq, h2 q hq⟩
    · obtain rfl : q = .seq true ps := List.mem_singleton.mp hq
      exact ⟨(fun _ e => by cases e), h⟩
  | _ =>
    obtain rfl := List.mem_singleton.mp hq
    exact ⟨(fun _ e => by cases e), h⟩
theorem eiS_nd {p : Pt} (h : Pln p) : (eiS p).Nodup := by
  cases p with
  | seq b ps =>
    cases b
    · exact (pln_seq.mp h).1.2.2 rfl
    · exact List.nodup_cons.mpr ⟨List.not_mem_nil, .nil⟩
  | _ => exact List.nodup_cons.mpr ⟨List.not_mem_nil, .nil⟩
theorem eiF_mem {x : Pt} : ∀ {ps acc : List Pt}, x ∈ eiF acc ps ↔ x ∈ acc ∨ ∃ p ∈ ps, x ∈ eiS p
  | [], acc => by simp [eiF]
  | p :: ps, acc => by
    rw [eiF, eiF_mem]
    simp only [List.mem_append, List.mem_filter, decide_eq_true_eq, List.mem_cons, exists_eq_or_imp]
    constructor
    · rintro ((h | ⟨h, _⟩) | h)
      · exact .inl h
      · exact .inr (.inl h)
      · exact .inr (.inr h)
    · rintro (h | h | h)
      · exact .inl (.inl h)
      · by_cases c : x ∈ acc
        · exact .inl (.inl c)
        · exact .inl (.inr ⟨h, c⟩)
      · exact .inr h
theorem eiF_nd : ∀ {ps acc : List Pt}, acc.Nodup → (∀ p ∈ ps, Pln p) → (eiF acc ps).Nodup
  | [], acc, h, _ => h
  | p :: ps, acc, h, hp => by
    rw [eiF]
    refine eiF_nd (List.nodup_append.mpr ⟨h, (eiS_nd (hp p (by simp))).filter _, fun a ha b hb e => ?_⟩) fun q hq => hp q (by simp [hq])
    subst e
    have := (List.mem_filter.mp hb).2
    simp at this
    exact this ha
theorem plMany_pln {q : Pt} (h : Pln q) : Pln (plMany q) := by
  unfold plMany
  split
  · exact pln_stay
  · rename_i hn
    split
    · exact h
    · rename_i hm
      exact pln_many.mpr ⟨⟨by simpa using hm, fun e => hn (.inl e), fun e => hn (.inr (.inl e)), fun e => hn (.inr (.inr e))⟩, h⟩
theorem pl_pln : ∀ p : Pt, Pln (pl p) := by
  have leaf : ∀ p : Pt, p.all = [p] → ok1 p → Pln p := fun p e h q hq => by
    rw [e] at hq
    rw [List.mem_singleton.mp hq]
    exact h
  refine pt_ind ?_ (fun b w => ?_) (fun b m => ?_) (fun b ps ih => ?_) (fun p ih => ?_)
  · rw [pl]; exact pln_stay
  · rw [pl]; exact leaf _ rfl trivial
  · rw [pl]; exact leaf _ rfl trivial
  · rw [pl_seq]
    have hp : ∀ q ∈ ps.map pl, Pln q := fun q hq => by
      obtain ⟨p, hp, rfl⟩ := List.mem_map.mp hq
      exact ih p hp
    cases b
    · simp only [Bool.false_eq_true, ↓reduceIte]
      refine wrap_pln (fun q hq => ?_) fun _ => eiF_nd .nil hp
      rcases eiF_mem.mp hq with h | ⟨p, h1, h2⟩
      · exact nomatch h
      · exact eiS_pln (hp p h1) h2
    · simp only [↓reduceIte, plThen]
      split
      · exact pln_no false
      · rename_i hn
        refine wrap_pln (fun q hq => ?_) fun e => by cases e
        obtain ⟨p, h1, h2⟩ := List.mem_flatMap.mp hq
        exact thS_pln (hp p h1) (fun e => hn (e ▸ h1)) h2
  · rw [pl]
    exact plMany_pln ih
/-! no more patterns -/
theorem szs_le {f : Pt → List Pt} (hf : ∀ p, ((f p).flatMap Pt.all).length ≤ p.all.length) : ∀ ps : List Pt, ((ps.flatMap f).flatMap Pt.all).length ≤ (ps.flatMap Pt.all).length
  | [] => Nat.le_refl _
  | p :: ps => by
    have h1 := hf p
    have h2 := szs_le hf ps
    simp only [List.flatMap_cons, List.flatMap_append, List.length_append]
    omega
theorem thS_sz (p : Pt) : ((thS p).flatMap Pt.all).length ≤ p.all.length := by
  cases p with
  | seq b ps => cases b <;> simp [thS, Pt.all_seq, Pt.alls_flat]
  | _ => simp [thS]
theorem eiS_sz (p : Pt) : ((eiS p).flatMap Pt.all).length ≤ p.all.length := by
  cases p with
  | seq b ps => cases b <;> simp [eiS, Pt.all_seq, Pt.alls_flat]
  | _ => simp [eiS]
theorem flat_filter {c : Pt → Bool} : ∀ l : List Pt, ((l.filter c).flatMap Pt.all).length ≤ (l.flatMap Pt.all).length
  | [] => Nat.le_refl _
  | p :: l => by
    have := flat_filter (c := c) l
    rw [List.filter_cons, List.flatMap_cons, List.length_append]
    split
    · rw [List.flatMap_cons, List.length_append]; omega
    · omega
theorem eiF_sz : ∀ (ps acc : List Pt), ((eiF acc ps).flatMap Pt.all).length ≤ (acc.flatMap Pt.all).length + (ps.flatMap Pt.all).length
  | [], acc => by simp [eiF]
  | p :: ps, acc => by
    rw [eiF]
    refine Nat.le_trans (eiF_sz ps _) ?_
    have h1 := flat_filter (c := fun x => decide (x ∉ acc)) (eiS p)
    have h2 := eiS_sz p
    simp only [List.flatMap_cons, List.flatMap_append, List.length_append]
    omega
theorem wrap_sz (b : Bool) (l : List Pt) : (wrap b l).all.length ≤ 1 + (l.flatMap Pt.all).length := by
  have go : (Pt.seq b l).all.length ≤ 1 + (l.flatMap Pt.all).length := by rw [Pt.all_seq, Pt.alls_flat, List.length_cons]; omega
  match l, go with
  | [], go => exact go
  | [p], _ => simp [wrap]
  | p :: q :: r, go => exact go
theorem plMany_sz (q : Pt) : (plMany q).all.length ≤ 1 + q.all.length := by
  unfold plMany
  split
  · exact Nat.le_add_right 1 _
  · split
    · omega
    · rw [Pt.all_many, List.length_cons]; omega
theorem pl_sz : ∀ p : Pt, (pl p).all.length ≤ p.all.length := by
  refine pt_ind ?_ (fun b w => ?_) (fun b m => ?_) (fun b ps ih => ?_) (fun p ih => ?_)
  · rw [pl]; exact Nat.le_refl _
  · rw [pl]; exact Nat.le_refl _
  · rw [pl]; exact Nat.le_refl _
  · rw [pl_seq, Pt.all_seq, Pt.alls_flat, List.length_cons]
    have hs : ((ps.map pl).flatMap Pt.all).length ≤ (ps.flatMap Pt.all).length := by
      clear b
      induction ps with
      | nil => exact Nat.le_refl _
      | cons p ps ih2 =>
        have h1 := ih p (by simp)
        have h2 := ih2 fun q hq => ih q (by simp [hq])
        simp only [List.map_cons, List.flatMap_cons, List.length_append]
        omega
    cases b
    · simp only [Bool.false_eq_true, ↓reduceIte]
      have h1 := wrap_sz false (eiF [] (ps.map pl))
      have h2 := eiF_sz (ps.map pl) []
      simp only [List.flatMap_nil, List.length_nil] at h2
      omega
    · simp only [↓reduceIte, plThen]
      split
      · show 1 ≤ _
        omega
      · have h1 := wrap_sz true ((ps.map pl).flatMap thS)
        have h2 := szs_le thS_sz (ps.map pl)
        omega
  · rw [pl, Pt.all_many, List.length_cons]
    have := plMany_sz (pl p)
    omega
/-! not deeper -/
theorem dp_pos (p : Pt) : 1 ≤ p.deep := by cases p <;> simp [Pt.deep]
theorem wrap_dp {b : Bool} {l : List Pt} {n : Nat} (h : ∀ q ∈ l, q.deep ≤ n) : (wrap b l).deep ≤ n + 1 := by
  have go : (Pt.seq b l).deep ≤ n + 1 := by
    rw [Pt.deep_seq]
    have := deeps_le h
    omega
  match l, h, go with
  | [], _, go => exact go
  | [p], h, _ => exact Nat.le_trans (h p (by simp)) (by omega)
  | p :: q :: r, _, go => exact go
theorem thS_dp {p q : Pt} (h : q ∈ thS p) : q.deep ≤ p.deep := by
  cases p with
  | stay => exact nomatch h
  | seq b ps =>
    cases b
    · rw [List.mem_singleton.mp h]; exact Nat.le_refl _
    · rw [Pt.deep_seq]
      have := deeps_mem (show q ∈ ps from h)
      omega
  | _ => rw [List.mem_singleton.mp h]; exact Nat.le_refl _
theorem eiS_dp {p q : Pt} (h : q ∈ eiS p) : q.deep ≤ p.deep := by
  cases p with
  | seq b ps =>
    cases b
    · rw [Pt.deep_seq]
      have := deeps_mem (show q ∈ ps from h)
      omega
    · rw [List.mem_singleton.mp h]; exact Nat.le_refl _
  | _ => rw [List.mem_singleton.mp h]; exact Nat.le_refl _
theorem pl_dp : ∀ p : Pt, (pl p).deep ≤ p.deep := by
  refine pt_ind ?_ (fun b w => ?_) (fun b m => ?_) (fun b ps ih => ?_) (fun p ih => ?_)
  · rw [pl]; exact Nat.le_refl _
  · rw [pl]; exact Nat.le_refl _
  · rw [pl]; exact Nat.le_refl _
  · rw [pl_seq, Pt.deep_seq]
    have hp : ∀ q ∈ ps.map pl, q.deep ≤ Pt.deeps ps := fun q hq => by
      obtain ⟨p, hp, rfl⟩ := List.mem_map.mp hq
      exact Nat.le_trans (ih p hp) (deeps_mem hp)
    cases b
    · simp only [Bool.false_eq_true, ↓reduceIte]
      refine Nat.le_trans (wrap_dp (n := Pt.deeps ps) fun q hq => ?_) (by omega)
      rcases eiF_mem.mp hq with h | ⟨p, h1, h2⟩
      · exact nomatch h
      · exact Nat.le_trans (eiS_dp h2) (hp p h1)
    · simp only [↓reduceIte, plThen]
      split
      · rw [Pt.deep_seq, Pt.deeps_nil]; omega
      · refine Nat.le_trans (wrap_dp (n := Pt.deeps ps) fun q hq => ?_) (by omega)
        obtain ⟨p, h1, h2⟩ := List.mem_flatMap.mp hq
        exact Nat.le_trans (thS_dp h2) (hp p h1)
  · rw [pl, Pt.deep_many]
    unfold plMany
    split
    · show 1 ≤ _
      omega
    · split
      · omega
      · rw [Pt.deep_many]; omega
/-! the same lines fit -/
theorem Fs_one {L : Ln} {p : Pt} {i j : Nat} : Fs L [p] i j ↔ F L p i j := by
  show (∃ k, F L p i k ∧ k = j) ↔ _
  simp
theorem wrapT_F {L : Ln} {l : List Pt} {i j : Nat} : F L (wrap true l) i j ↔ Fs L l i j := by
  match l with
  | [] => exact Iff.rfl
  | [p] => exact Fs_one.symm
  | p :: q :: r => exact Iff.rfl
theorem wrapE_F {L : Ln} {l : List Pt} {i j : Nat} : F L (wrap false l) i j ↔ ∃ p ∈ l, F L p i j := by
  match l with
  | [] => exact Fo_iff
  | [p] => simp [wrap]
  | p :: q :: r => exact Fo_iff
theorem thS_F {L : Ln} {p : Pt} {i j : Nat} : Fs L (thS p) i j ↔ F L p i j := by
  cases p with
  | stay => exact Iff.rfl
  | seq b ps =>
    cases b
    · exact Fs_one
    · exact Iff.rfl
  | _ => exact Fs_one
theorem eiS_F {L : Ln} {p : Pt} {i j : Nat} : (∃ q ∈ eiS p, F L q i j) ↔ F L p i j := by
  cases p with
  | seq b ps =>
    cases b
    · exact Fo_iff.symm
    · simp [eiS]
  | _ => simp [eiS]
theorem thF_F {L : Ln} {j : Nat} : ∀ {ps : List Pt} {i : Nat}, Fs L (ps.flatMap thS) i j ↔ Fs L ps i j
  | [], _ => Iff.rfl
  | p :: ps, i => by
    rw [List.flatMap_cons, Fs_app]
    show _ ↔ ∃ k, F L p i k ∧ Fs L ps k j
    constructor
    · rintro ⟨k, h1, h2⟩
      exact ⟨k, thS_F.mp h1, thF_F.mp h2⟩
    · rintro ⟨k, h1, h2⟩
      exact ⟨k, thS_F.mpr h1, thF_F.mpr h2⟩
theorem Fs_congr {L : Ln} {f : Pt → Pt} {j : Nat} : ∀ {ps : List Pt} {i : Nat}, (∀ p ∈ ps, ∀ i j, F L (f p) i j ↔ F L p i j) → (Fs L (ps.map f) i j ↔ Fs L ps i j)
  | [], _, _ => Iff.rfl
  | p :: ps, i, h => by
    show (∃ k, F L (f p) i k ∧ Fs L (ps.map f) k j) ↔ ∃ k, F L p i k ∧ Fs L ps k j
    constructor
    · rintro ⟨k, h1, h2⟩
      exact ⟨k, (h p (by simp) _ _).mp h1, (Fs_congr fun q hq => h q (by simp [hq])).mp h2⟩
    · rintro ⟨k, h1, h2⟩
      exact ⟨k, (h p (by simp) _ _).mpr h1, (Fs_congr fun q hq => h q (by simp [hq])).mpr h2⟩
theorem Fs_no {L : Ln} {j : Nat} : ∀ {ps : List Pt} {i : Nat}, pNo ∈ ps → ¬ Fs L ps i j
  | p :: ps, i, h => by
    rintro ⟨k, h1, h2⟩
    rcases List.mem_cons.mp h with rfl | h
    · exact h1
    · exact Fs_no h h2
theorem St_congr {R R' : Nat → Nat → Prop} (h : ∀ i j, R i j ↔ R' i j) {i j : Nat} : St R i j ↔ St R' i j := by
  have : R = R' := by funext i j; exact propext (h i j)
  rw [this]
theorem St_id {R : Nat → Nat → Prop} (h : ∀ i j, R i j → i = j) {i j : Nat} : St R i j ↔ i = j := by
  constructor
  · intro s
    induction s with
    | nil => rfl
    | cons a _ ih => rw [h _ _ a]; exact ih
  · rintro rfl
    exact .nil _
theorem St_St {R : Nat → Nat → Prop} {i j : Nat} : St (St R) i j ↔ St R i j := by
  constructor
  · intro s
    induction s with
    | nil => exact .nil _
    | cons a _ ih => exact a.app ih
  · exact fun s => .cons s (.nil _)
theorem plMany_F {L : Ln} {q : Pt} {i j : Nat} : F L (plMany q) i j ↔ St (F L q) i j := by
  unfold plMany
  split
  · rename_i h
    refine (St_id fun i j hq => ?_).symm
    rcases h with rfl | rfl | rfl
    · exact hq
    · exact hq
    · exact hq.elim
  · split
    · rename_i h
      cases q with
      | many r => exact St_St.symm
      | _ => cases h
    · exact Iff.rfl
theorem pl_F (L : Ln) : ∀ (p : Pt) (i j : Nat), F L (pl p) i j ↔ F L p i j := by
  refine pt_ind ?_ (fun b w => ?_) (fun b m => ?_) (fun b ps ih => ?_) (fun p ih => ?_)
  · intro i j; rw [pl]
  · intro i j; rw [pl]
  · intro i j; rw [pl]
  · intro i j
    rw [pl_seq]
    cases b
    · simp only [Bool.false_eq_true, ↓reduceIte]
      rw [wrapE_F]
      show _ ↔ Fo L ps i j
      rw [Fo_iff]
      constructor
      · rintro ⟨q, hq, h⟩
        rcases eiF_mem.mp hq with hq | ⟨r, hr, hq⟩
        · exact nomatch hq
        · obtain ⟨p, hp, rfl⟩ := List.mem_map.mp hr
          exact ⟨p, hp, (ih p hp i j).mp (eiS_F.mp ⟨q, hq, h⟩)⟩
      · rintro ⟨p, hp, h⟩
        obtain ⟨q, hq, h⟩ := eiS_F.mpr ((ih p hp i j).mpr h)
        exact ⟨q, eiF_mem.mpr (.inr ⟨_, List.mem_map.mpr ⟨p, hp, rfl⟩, hq⟩), h⟩
    · simp only [↓reduceIte, plThen]
      split
      · rename_i hn
        constructor
        · exact fun h => h.elim
        · exact fun h => (Fs_no hn ((Fs_congr ih).mpr h)).elim
      · rw [wrapT_F, thF_F]
        exact Fs_congr ih
  · intro i j
    rw [pl, plMany_F]
    exact St_congr ih
/-! leaves stay -/
/-- words and marks out of these -/
def lfW2 (ws ms : List Str) : Pt → Prop
  | .step _ w => w = "*" ∨ w ∈ ws
  | .mark _ m => m ∈ ms
  | _ => True
def OkW (ws ms : List Str) (p : Pt) : Prop := ∀ q ∈ p.all, lfW2 ws ms q
section
variable {ws ms : List Str}
theorem okw_seq {b : Bool} {ps : List Pt} : OkW ws ms (.seq b ps) ↔ ∀ p ∈ ps, OkW ws ms p := by
  unfold OkW
  rw [Pt.all_seq, Pt.alls_flat]
  constructor
  · exact fun h p hp q hq => h q (List.mem_cons_of_mem _ (List.mem_flatMap.mpr ⟨p, hp, hq⟩))
  · intro h q hq
    rcases List.mem_cons.mp hq with rfl | hq
    · trivial
    · obtain ⟨p, hp, hq⟩ := List.mem_flatMap.mp hq
      exact h p hp q hq
theorem okw_many {p : Pt} : OkW ws ms (.many p) ↔ OkW ws ms p := by
  unfold OkW
  rw [Pt.all_many]
  constructor
  · exact fun h q hq => h q (List.mem_cons_of_mem _ hq)
  · intro h q hq
    rcases List.mem_cons.mp hq with rfl | hq
    · trivial
    · exact h q hq
theorem okw_stay : OkW ws ms .stay := fun q hq => by rw [List.mem_singleton.mp (show q ∈ [Pt.stay] from hq)]; trivial
theorem okw_wrap {b : Bool} {l : List Pt} (h : ∀ q ∈ l, OkW ws ms q) : OkW ws ms (wrap b l) := by
  match l, h with
  | [], h => exact okw_seq.mpr h
  | [p], h => exact h p (by simp)
  | p :: q :: r, h => exact okw_seq.mpr h
theorem okw_thS {p q : Pt} (h : OkW ws ms p) (hq : q ∈ thS p) : OkW ws ms q := by
  cases p with
  | stay => exact nomatch hq
  | seq b ps =>
    cases b
    · rw [List.mem_singleton.mp hq]; exact h
    · exact okw_seq.mp h q hq
  | _ => rw [List.mem_singleton.mp hq]; exact h
theorem okw_eiS {p q : Pt} (h : OkW ws ms p) (hq : q ∈ eiS p) : OkW ws ms q := by
  cases p with
  | seq b ps =>
    cases b
    · exact okw_seq.mp h q hq
    · rw [List.mem_singleton.mp hq]; exact h
  | _ => rw [List.mem_singleton.mp hq]; exact h
theorem okw_pl : ∀ p : Pt, OkW ws ms p → OkW ws ms (pl p) := by
  refine pt_ind ?_ (fun b w => ?_) (fun b m => ?_) (fun b ps ih => ?_) (fun p ih => ?_)
  · rw [pl]; exact id
  · rw [pl]; exact id
  · rw [pl]; exact id
  · intro h
    rw [pl_seq]
    have hp : ∀ q ∈ ps.map pl, OkW ws ms q := fun q hq => by
      obtain ⟨p, hp, rfl⟩ := List.mem_map.mp hq
      exact ih p hp (okw_seq.mp h p hp)
    cases b
    · simp only [Bool.false_eq_true, ↓reduceIte]
      refine okw_wrap fun q hq => ?_
      rcases eiF_mem.mp hq with h | ⟨p, h1, h2⟩
      · exact nomatch h
      · exact okw_eiS (hp p h1) h2
    · simp only [↓reduceIte, plThen]
      split
      · exact okw_seq.mpr fun _ h => nomatch h
      · refine okw_wrap fun q hq => ?_
        obtain ⟨p, h1, h2⟩ := List.mem_flatMap.mp hq
        exact okw_thS (hp p h1) h2
  · intro h
    rw [pl]
    unfold plMany
    split
    · exact okw_stay
    · split
      · exact ih (okw_many.mp h)
      · exact okw_many.mpr (ih (okw_many.mp h))
theorem okw_okp {p : Pt} (h : OkW ws ms p) (hw : ∀ w ∈ ws, Nm w) (hm : ∀ m ∈ ms, Nm m) : p.okP Nm := fun q hq => by
  have h1 := h q hq
  cases q with
  | step b w => exact h1.imp id (hw w)
  | mark b m => exact hm m h1
  | _ => trivial
theorem okc_okw {p : Pt} (h : OkC ws ms p) : OkW ws ms p := fun q hq => by
  have h1 := h q hq
  cases q with
  | step b w => exact h1
  | mark b m => exact h1
  | _ => trivial
end
theorem few_sz {p : Pt} : ∀ q ∈ p.all, q.kids.length + 1 ≤ p.all.length := by
  have one : ∀ q : Pt, q.kids.length + 1 ≤ q.all.length := fun q => by
    cases q with
    | seq b ps =>
      rw [Pt.all_seq, Pt.alls_flat, List.length_cons]
      show ps.length + 1 ≤ _
      have : ps.length ≤ (ps.flatMap Pt.all).length := by
        clear b
        induction ps with
        | nil => exact Nat.le_refl _
        | cons p ps ih =>
          have := Pt.all_pos p
          rw [List.flatMap_cons, List.length_append, List.length_cons]
          omega
      omega
    | many p => rw [Pt.all_many, List.length_cons]; have := Pt.all_pos p; simp [Pt.kids]; omega
    | _ => simp [Pt.kids, Pt.all]
  refine pt_ind (P := fun p => ∀ q ∈ p.all, q.kids.length + 1 ≤ p.all.length) ?_ (fun b w => ?_) (fun b m => ?_) (fun b ps ih => ?_) (fun p ih => ?_) p
  · intro q hq; rw [List.mem_singleton.mp (show q ∈ [Pt.stay] from hq)]; exact one _
  · intro q hq; rw [List.mem_singleton.mp (show q ∈ [Pt.step b w] from hq)]; exact one _
  · intro q hq; rw [List.mem_singleton.mp (show q ∈ [Pt.mark b m] from hq)]; exact one _
  · intro q hq
    rw [Pt.all_seq, Pt.alls_flat] at hq
    rcases List.mem_cons.mp hq with rfl | hq
    · exact one _
    · obtain ⟨p, hp, hq⟩ := List.mem_flatMap.mp hq
      have h1 := ih p hp q hq
      rw [Pt.all_seq, Pt.alls_flat, List.length_cons]
      have : p.all.length ≤ (ps.flatMap Pt.all).length := by
        obtain ⟨a, c, rfl⟩ := List.append_of_mem hp
        simp
        omega
      omega
  · intro q hq
    rw [Pt.all_many] at hq
    rcases List.mem_cons.mp hq with rfl | hq
    · exact one _
    · have := ih q hq
      rw [Pt.all_many, List.length_cons]
      omega
theorem dp_sz : ∀ p : Pt, p.deep ≤ p.all.length := by
  refine pt_ind (Nat.le_refl _) (fun b w => Nat.le_refl _) (fun b m => Nat.le_refl _) (fun b ps ih => ?_) (fun p ih => ?_)
  · rw [Pt.deep_seq, Pt.all_seq, Pt.alls_flat, List.length_cons]
    have : Pt.deeps ps ≤ (ps.flatMap Pt.all).length := deeps_le fun p hp => Nat.le_trans (ih p hp) (by
      obtain ⟨a, c, rfl⟩ := List.append_of_mem hp
      simp
      omega)
    omega
  · rw [Pt.deep_many, Pt.all_many, List.length_cons]
    omega
end L64
set_option maxRecDepth 100000
set_option maxHeartbeats 4000000
namespace L64
open PySem PySem.Spec L2
open L63
open Rm
open Rc
open Sh hiding N_l_feed N_l_leaf N_l_names N_l_pattern deeps_le deeps_mem r_l_feed r_l_leaf r_l_names r_l_pattern sp_l_leaf sp_l_leaf_mono sp_l_names sp_l_names_mono sp_l_pattern sp_l_pattern_mono t_l_feed t_l_leaf t_l_names t_l_pattern
open Dt hiding nkeys sp_l_feed sp_l_feed_mono
/-! K64q: what is a pattern (of any tree of names), plainly. -/
def sp_parts_right : DSp := fun ds S Q _ => ∃ p : Pt, ds = [ptD p] ∧ p.okP Nm ∧ p.kids.length ≤ 1000 ∧ Q (if p.kids.length ≤ 39 then .rol (ptDs p.kids) else .non) S
theorem sp_parts_right_mono : SpMono sp_parts_right := fun ds S Q Q' E E' k _ ⟨d, h1, h2, h3, h⟩ => ⟨d, h1, h2, h3, k _ _ h⟩
def sp_is_pattern : DSp := fun ds S Q _ => ∃ p : Pt, ds = [ptD p] ∧ p.okP Nm ∧ p.all.length ≤ 100 ∧ ∀ b : Bool, (b = true → p.all.length ≤ 40 ∧ p.deep ≤ 10) → (p.all.length ≤ 40 → p.deep ≤ 10 → b = true) → Q (.bl b) S
theorem sp_is_pattern_mono : SpMono sp_is_pattern := fun ds S Q Q' E E' k _ ⟨d, h1, h2, h3, h⟩ => ⟨d, h1, h2, h3, fun b a c => k _ _ (h b a c)⟩
def sp_plain_then : DSp := fun ds S Q _ => ∃ ps : List Pt, ds = [.rol (ptDs ps)] ∧ (∀ p ∈ ps, p.okP Nm ∧ p.deep ≤ 20) ∧ ps.length ≤ 1000 ∧ (ps.flatMap thS).length ≤ 1000 ∧ Q (ptD (plThen ps)) S
theorem sp_plain_then_mono : SpMono sp_plain_then := fun ds S Q Q' E E' k _ ⟨d, h1, h2, h3, h4, h⟩ => ⟨d, h1, h2, h3, h4, k _ _ h⟩
def sp_plain_either : DSp := fun ds S Q _ => ∃ ps : List Pt, ds = [.rol (ptDs ps)] ∧ (∀ p ∈ ps, p.okP Nm ∧ p.deep ≤ 20) ∧ ps.length ≤ 1000 ∧ (ps.flatMap eiS).length ≤ 1000 ∧ Q (ptD (wrap false (eiF [] ps))) S
theorem sp_plain_either_mono : SpMono sp_plain_either := fun ds S Q Q' E E' k _ ⟨d, h1, h2, h3, h4, h⟩ => ⟨d, h1, h2, h3, h4, k _ _ h⟩
def sp_plainly (k : Nat) : DSp := fun ds S Q _ => ∃ p : Pt, ds = [ptD p] ∧ p.okP Nm ∧ p.deep ≤ k + 1 ∧ k ≤ 9 ∧ p.all.length ≤ 100 ∧ Q (ptD (pl p)) S
theorem sp_plainly_mono (k : Nat) : SpMono (sp_plainly k) := fun ds S Q Q' E E' kk _ ⟨d, h1, h2, h3, h4, h5, h⟩ => ⟨d, h1, h2, h3, h4, h5, kk _ _ h⟩
theorem okp_pl {p : Pt} (h : p.okP Nm) : (pl p).okP Nm := by
  have e : OkW (p.all.filterMap Pt.word?) (p.all.filterMap Pt.mark?) p := fun q hq => by
    cases q with
    | step b w => exact .inr (List.mem_filterMap.mpr ⟨_, hq, rfl⟩)
    | mark b m => exact List.mem_filterMap.mpr ⟨_, hq, rfl⟩
    | _ => trivial
  have e2 := okw_pl p e
  intro q hq
  have h2 := e2 q hq
  cases q with
  | step b w =>
    rcases h2 with h2 | h2
    · exact .inl h2
    · obtain ⟨r, hr, er⟩ := List.mem_filterMap.mp h2
      cases r with
      | step b' w' => cases er; exact h _ hr
      | _ => cases er
  | mark b m =>
    obtain ⟨r, hr, er⟩ := List.mem_filterMap.mp h2
    cases r with
    | mark b' m' => cases er; exact h _ hr
    | _ => cases er
  | _ => trivial
theorem eqNo {p : Pt} : decide (ptD p = D.tup [.str "either", .tup []]) = decide (p = pNo) := decide_eq_decide.mpr ⟨fun h => ptD_inj _ _ h, fun h => by rw [h]; rfl⟩
theorem okP_no : (pNo).okP Nm := fun q hq => by
  rw [List.mem_singleton.mp (show q ∈ [pNo] from hq)]; trivial
theorem sm_no : Sm 60 (D.tup [.str "either", .tup []]) := (pt_sm pNo okP_no).mono (by decide)
theorem sm_ns : Sm 60 (D.tup [.str "then", .tup []]) := (pt_sm pNs (fun q hq => by rw [List.mem_singleton.mp (show q ∈ [pNs] from hq)]; trivial)).mono (by decide)
theorem sm_st : Sm 60 (D.tup [.str "stay"]) := (pt_sm .stay (fun q hq => by rw [List.mem_singleton.mp (show q ∈ [Pt.stay] from hq)]; trivial)).mono (by decide)
theorem wrap_D {b : Bool} {l : List Pt} : ptD (wrap b l) = match l with | [p] => ptD p | l => .tup [.str (if b then "then" else "either"), .tup (ptDs l)] := by
  match l with
  | [] => simp [wrap, ptD]
  | [p] => rfl
  | p :: q :: r => simp [wrap, ptD]
def t_parts_right : DTS := (dSeq (dIf (dTest (dCall sp_is_leaf (dCons (dVar 0) dNil)))
      (dRet (dLstF dNil))
      dNx)
    (dSeq (dIf (dOr (dNot (dTest (dIsi "tuple" (dVar 0)))) (dTest (dOp (dEq true) (dCB cLen (dCons (dVar 0) dNil)) (dC (.int 2)))))
      (dRet (dC .non))
      dNx)
    (dSeq (dIf (dTest (dCall sp_is_one_of (dCons (dOp dIxS (dVar 0) (dC (.int 0))) (dCons (dLstF (dCons (dC (.str "many")) dNil)) dNil))))
      (dRet (dLstF (dCons (dOp dIxS (dVar 0) (dC (.int 1))) dNil)))
      dNx)
    (dSeq (dIf (dOr (dNot (dTest (dCall sp_is_one_of (dCons (dOp dIxS (dVar 0) (dC (.int 0))) (dCons (dLstF (dCons (dC (.str "then")) (dCons (dC (.str "either")) dNil))) dNil))))) (dNot (dTest (dIsi "tuple" (dOp dIxS (dVar 0) (dC (.int 1)))))))
      (dRet (dC .non))
      dNx)
    (dSeq (dIf (dTest (dOp rGt (dCB cLen (dCons (dOp dIxS (dVar 0) (dC (.int 1))) dNil)) (dC (.int 39))))
      (dRet (dC .non))
      dNx)
    (dRet (dCB cListAF (dCons (dOp dIxS (dVar 0) (dC (.int 1))) dNil))))))))
abbrev N_parts_right : List Str := ["thing"]
def t_is_pattern : DTS := (dSeq (dAsg (dLst (dCons (dTup (dCons (dVar 0) (dCons (dC (.int 1)) dNil))) dNil)) (dGN 1))
    (dSeq (dAsg (dC (.int 0)) (dGN 2))
    (dSeq (dWhile (dTest (dOp rGt (dCB cLen (dCons (dVar 1) dNil)) (dC (.int 0))))
      (dSeq (dAsg (dBM "list" mPop (dVar 1) dNil) (dGTupA 2 (dGCons (dGN 3) (dGCons (dGN 4) dGNil))))
    (dSeq (dAsg (dOp dAddF (dVar 2) (dC (.int 1))) (dGN 2))
    (dSeq (dAsg (dCall sp_parts_right (dCons (dVar 3) dNil)) (dGN 5))
    (dSeq (dIf (dOr (dTest (dOp (dIsN false) (dVar 5) (dC .non))) (dOr (dTest (dOp rGt (dVar 4) (dC (.int 10)))) (dTest (dOp rGt (dVar 2) (dC (.int 40))))))
      (dRet (dC (.bl false)))
      dNx)
    (dDrop (dBM "list" mExtend (dVar 1) (dCons (dFz (dLc (dSeqI (dVar 5)) (dGN 6) dYes (dTup (dCons (dVar 6) (dCons (dOp dAddF (dVar 4) (dC (.int 1))) dNil))) [6])) dNil))))))))
    (dRet (dC (.bl true))))))
abbrev N_is_pattern : List Str := ["thing", "left", "count", "part", "deep", "some", "one"]
theorem r_parts_right (ds S Q E) (h : sp_parts_right ds S Q E) : t_parts_right (dEnd Q E) (dstart N_parts_right ds) S := by
  obtain ⟨p, rfl, ho, hk, h⟩ := h
  obtain ⟨o1, o2, o3, o4, o5, o6, o7, o8, o9⟩ := okS_lit
  have m1 : ∀ y ∈ ([Str.ofString "many"] : List Str), okS y := by simpa using o7
  have m3 : ∀ y ∈ ([Str.ofString "then", Str.ofString "either"] : List Str), okS y := by simpa using ⟨o8, o9⟩
  unfold t_parts_right
  refine dSeqIf_gen fun A B R hA hB hR => ?_
  simp [dstart]
  refine ⟨p, rfl, ho, ?_⟩
  cases hl : p.isLeaf
  · simp
    subst hB
    simp
    subst hR
    cases p with
    | seq b ps =>
      have hk' : ps.length ≤ 1000 := hk
      have h' : Q (if ps.length ≤ 39 then .rol (ptDs ps) else .non) S := h
      simp [ptD]
      refine one_of (l := [Str.ofString "many"]) (by cases b <;> assumption) m1 ?_
      cases b
      all_goals
        simp
        refine one_of (l := [Str.ofString "then", Str.ofString "either"]) (by assumption) m3 ?_
        simp [ptDs_len]
        by_cases c : ps.length ≤ 39
        · rw [if_neg (by omega)]
          rw [if_pos c] at h'
          exact .same h'
        · rw [if_pos (by omega)]
          rw [if_neg c] at h'
          exact .same h'
    | many p =>
      simp [ptD]
      refine one_of (l := [Str.ofString "many"]) (by assumption) m1 ?_
      simp
      exact .same h
    | _ => simp [Pt.isLeaf] at hl
  · simp
    subst hA
    simp
    cases p <;> simp [Pt.isLeaf] at hl <;> exact .same h
theorem deep_kids {t : Pt} {n : Nat} (h1 : 1 ≤ n) (h : ∀ k ∈ t.kids, k.deep + 1 ≤ n) : t.deep ≤ n := by
  cases t with
  | seq b ps =>
    rw [Pt.deep_seq]
    have : Pt.deeps ps ≤ n - 1 := deeps_le fun k hk => by have := h k hk; omega
    omega
  | many q => rw [Pt.deep_many]; have := h q (by simp [Pt.kids]); omega
  | _ => exact h1
theorem r_is_pattern (ds S Q E) (h : sp_is_pattern ds S Q E) : t_is_pattern (dEnd Q E) (dstart N_is_pattern ds) S := by
  obtain ⟨p, rfl, ho, h100, h⟩ := h
  unfold t_is_pattern
  refine dSeq_gen fun R hR => ?_
  simp [dstart]
  intro l hl
  subst hR
  refine dSeq_gen fun R hR => ?_
  simp
  subst hR
  refine dSeqWhile_gen fun B R hB hR => ?_
  refine while_inv (fun τ S' => ∃ (L : List (Pt × Nat)) (c : Nat) (x3 x4 x5 x6 : Option D), τ = [some (ptD p), some (.ref l), some (.int (c : Nat)), x3, x4, x5, x6] ∧ S' = upo S l (.lst (L.map fun e => .tup [ptD e.1, .int (e.2 : Nat)])) ∧
      c + (L.flatMap fun e => e.1.all).length = p.all.length ∧ (∀ e ∈ L, e.1.okP Nm ∧ e.1.all.length ≤ 100) ∧ (p.deep ≤ 10 → ∀ e ∈ L, e.2 + e.1.deep ≤ 11) ∧ ((∀ e ∈ L, e.2 + e.1.deep ≤ 11) → p.deep ≤ 10) ∧ c ≤ 40)
    (fun (τ : DSt) _ => match τ[2]? with | some (some (D.int j)) => (200000 - j).toNat | _ => 0) ⟨[(p, 1)], 0, none, none, none, none, rfl, rfl, by simp, by simp; exact ⟨ho, h100⟩, by simp; omega, by simp; omega, by omega⟩ ?_
  rintro τ S2 N ⟨L, c, x3, x4, x5, x6, rfl, rfl, hc, hL, hd1, hd2, hc4⟩ hN
  rcases List.eq_nil_or_concat L with rfl | ⟨L0, ⟨t, dp⟩, rfl⟩
  · simp
    subst hR
    simp
    have h1 := hd2 (by simp)
    simp at hc
    exact .keep (S := S) (Sub.new hl) (h true (fun _ => ⟨by omega, h1⟩) fun _ _ => rfl)
  · have hte := hL (t, dp) (by simp)
    have htk : t.kids.length ≤ 100 := by have := few_sz (p := t) t (Pt.self_all t); have := hte.2; dsimp only at this; omega
    simp
    subst hB
    refine dSeq_gen fun R' hR' => ?_
    simp
    subst hR'
    refine dSeq_gen fun R' hR' => ?_
    simp
    subst hR'
    refine dSeq_gen fun R' hR' => ?_
    simp
    refine ⟨t, rfl, hte.1, by omega, ?_⟩
    subst hR'
    refine dSeqIf_gen fun A B R' hA hB hR' => ?_
    have hlen : c + 1 + ((L0.flatMap fun e => e.1.all).length + (t.all.length - 1)) = p.all.length := by
      have := Pt.all_pos t
      have e1 : ([(t, dp)].flatMap fun e : Pt × Nat => e.1.all).length = t.all.length := by simp
      rw [List.concat_eq_append, List.flatMap_append, List.length_append, e1] at hc
      omega
    have hks : t.kids.length + 1 ≤ t.all.length := few_sz (p := t) t (Pt.self_all t)
    have t1 : 1 ≤ t.deep := dp_pos t
    have bad : (¬ t.kids.length ≤ 39 ∨ 10 < dp ∨ 40 < c + 1) → Q (.bl false) S := fun hb => h false (fun e => by cases e) fun h4 h5 => by
      have := hd1 h5 (t, dp) (by simp)
      dsimp only at this
      exfalso
      omega
    have badR : ∀ S', (¬ t.kids.length ≤ 39 ∨ 10 < dp ∨ 40 < c + 1) → S' = upo S l (.lst (L0.map fun e => .tup [ptD e.1, .int (e.2 : Nat)])) → Rt Q (.bl false) S' := fun S' hb e => by
      subst e
      exact .keep (S := S) (Sub.new hl) (bad hb)
    by_cases c1 : t.kids.length ≤ 39
    · rw [if_pos c1]
      by_cases c2 : dp ≤ 10
      · by_cases c3 : c + 1 ≤ 40
        · simp
          rw [if_neg (by omega), if_neg (by omega)]
          subst hB
          simp
          subst hR'
          have hk : (t.kids.flatMap Pt.all).length + 1 = t.all.length := by rw [Pt.all_kids t]; simp
          simp
          refine lcF_map (G := fun _ => True) (fun d => .tup [d, .int ((dp : Int) + 1)]) (fun _ _ _ => trivial) (fun d hd acc p N hp hl hN => ?_) (by rw [ptDs_len]; exact Nat.lt_of_le_of_lt htk (by decide)) ?_
          · simp
            exact ⟨by simpa using hl, hN⟩
          · simp
            have hL0 : L0.length ≤ 100 := by
              have : ∀ M : List (Pt × Nat), M.length ≤ (M.flatMap fun e => e.1.all).length := fun M => by
                induction M with
                | nil => simp
                | cons e M ih => rw [List.flatMap_cons, List.length_append, List.length_cons]; have := Pt.all_pos e.1; omega
              have := this L0
              omega
            have hkid : ∀ (ks : List Pt) (m : Nat), ((ks.map fun k => (k, m)).flatMap fun e : Pt × Nat => e.1.all) = ks.flatMap Pt.all := fun ks m => by
              rw [List.flatMap_map]
            refine ⟨by rw [ptDs_len]; omega, hN _ _ ⟨L0 ++ t.kids.map fun k => (k, dp + 1), c + 1, _, _, _, _, rfl, ?_, ?_, fun e he => ?_, fun h5 e he => ?_, fun hh => hd2 fun e he => ?_, c3⟩ ?_⟩
            · congr 2
              rw [List.map_append, ptDs_map]
              simp
            · rw [List.flatMap_append, hkid, List.length_append]
              omega
            · rcases List.mem_append.mp he with he | he
              · exact hL e (by rw [List.concat_eq_append]; exact List.mem_append_left _ he)
              · obtain ⟨k, hk1, rfl⟩ := List.mem_map.mp he
                refine ⟨okP_kids hte.1 hk1, ?_⟩
                have h6 := hte.2
                have : k.all.length ≤ (t.kids.flatMap Pt.all).length := by
                  obtain ⟨a, c, e⟩ := List.append_of_mem hk1
                  rw [e]
                  simp
                  omega
                dsimp only at h6 ⊢
                omega
            · rcases List.mem_append.mp he with he | he
              · exact hd1 h5 e (by rw [List.concat_eq_append]; exact List.mem_append_left _ he)
              · obtain ⟨k, hk1, rfl⟩ := List.mem_map.mp he
                have := hd1 h5 (t, dp) (by simp)
                have h3 : k.deep + 1 ≤ t.deep := kid_deep hk1
                dsimp only at this ⊢
                omega
            · rw [List.concat_eq_append] at he
              rcases List.mem_append.mp he with he | he
              · exact hh e (List.mem_append_left _ he)
              · rw [List.mem_singleton.mp he]
                have : t.deep ≤ 11 - dp := deep_kids (by omega) fun k hk1 => by
                  have := hh (k, dp + 1) (List.mem_append_right _ (List.mem_map.mpr ⟨k, hk1, rfl⟩))
                  dsimp only at this
                  omega
                dsimp only
                omega
            · simp
              omega
        · simp
          rw [if_neg (by omega), if_pos (by omega)]
          subst hA
          simp
          exact badR _ (.inr (.inr (by omega))) rfl
      · simp
        rw [if_pos (by omega)]
        subst hA
        simp
        exact badR _ (.inr (.inl (by omega))) rfl
    · rw [if_neg c1]
      simp
      subst hA
      simp
      exact badR _ (.inl c1) rfl
end L64
set_option maxRecDepth 100000
set_option maxHeartbeats 4000000
namespace L63
open PySem PySem.Spec L2
open Rc
open Sh hiding N_l_feed N_l_leaf N_l_names N_l_pattern deeps_le deeps_mem r_l_feed r_l_leaf r_l_names r_l_pattern sp_l_leaf sp_l_leaf_mono sp_l_names sp_l_names_mono sp_l_pattern sp_l_pattern_mono t_l_feed t_l_leaf t_l_names t_l_pattern
open Dt hiding nkeys sp_l_feed sp_l_feed_mono
/-! K63r: the rest. -/
def sp_l_line : DSp := fun ds S Q _ => ∃ (p : Addr) (t : Pt) (ws ms : List Str) (n : Nat) (o : Ob), ds = [.ref p, ptD t, .rol (strsD ws), .rol (strsD ms)] ∧ ws.length ≤ 100 ∧ ms.length ≤ 100 ∧ (∀ w ∈ ws, Nm w) ∧ (∀ m ∈ ms, Nm m) ∧ ms.Nodup ∧ OkC ws ms t ∧ t.deep ≤ 5 ∧ S p = some o ∧ FeedC n o ∧ n < 2 ^ 70 ∧
  ∀ (L : Ln) (o' : Ob), OkN ms L → L.2.length ≤ 11 → FeedC (n + 1000000) o' → Q (lnD L) (upo S p o')
theorem sp_l_line_mono : SpMono sp_l_line := fun ds S Q Q' E E' kk _ ⟨p, t, ws, ms, n, o, h1, h2, h3, h4, h5, h6, h7, h8, h9, h10, h11, h⟩ => ⟨p, t, ws, ms, n, o, h1, h2, h3, h4, h5, h6, h7, h8, h9, h10, h11, fun L o' a b c => kk _ _ (h L o' a b c)⟩
def t_l_line : DTS := (dSeq (dIf (dTest (dOp rGt (dCall sp_l_draw (dCons (dVar 0) (dCons (dC (.int 3)) dNil))) (dC (.int 0))))
      (dSeq (dAsg (dCall (sp_l_gone 4) (dCons (dVar 0) (dCons (dVar 1) (dCons (dVar 2) (dCons (dVar 3) dNil))))) (dGN 4))
    (dIf (dTest (dOp rLt (dCB cLen (dCons (dOp dIxS (dVar 4) (dC (.int 1))) dNil)) (dC (.int 12))))
      (dRet (dVar 4))
      dNx))
      dNx)
    (dSeq (dAsg (dTup (dCons (dLst (dCons (dCB cTuple (dCons (dFz (dLc (dSeqI (dVar 3)) (dGN 6) (dTest (dOp (dEq false) (dCall sp_l_draw (dCons (dVar 0) (dCons (dC (.int 2)) dNil))) (dC (.int 1)))) (dVar 6) [6])) dNil)) dNil)) (dCons (dLst dNil) dNil))) (dGN 4))
    (dSeq (dFor (dRng1 (dCons (dCall sp_l_draw (dCons (dVar 0) (dCons (dC (.int 5)) dNil))) dNil)) (dGN 5)
      (dSeq (dDrop (dBM "list" mAppend (dOp dIxS (dVar 4) (dC (.int 1))) (dCons (dTup (dCons (dOp dIxS (dLstF (dCons (dC (.str "on")) (dCons (dC (.str "back")) dNil))) (dCall sp_l_draw (dCons (dVar 0) (dCons (dC (.int 2)) dNil)))) (dCons (dOp dIxS (dOp dAddF (dVar 2) (dLstF (dCons (dC (.str "u")) dNil))) (dCall sp_l_draw (dCons (dVar 0) (dCons (dOp dAddF (dCB cLen (dCons (dVar 2) dNil)) (dC (.int 1))) dNil)))) dNil))) dNil)))
    (dDrop (dBM "list" mAppend (dOp dIxS (dVar 4) (dC (.int 0))) (dCons (dCB cTuple (dCons (dFz (dLc (dSeqI (dVar 3)) (dGN 6) (dTest (dOp (dEq false) (dCall sp_l_draw (dCons (dVar 0) (dCons (dC (.int 2)) dNil))) (dC (.int 1)))) (dVar 6) [6])) dNil)) dNil)))))
    (dRet (dVar 4)))))
abbrev N_l_line : List Str := ["_law_feed_here", "_law_pattern_here", "_law_words", "_law_marks", "_law_line_here", "_law_k", "_law_mark"]
theorem r_l_line (ds S Q E) (h : sp_l_line ds S Q E) : t_l_line (dEnd Q E) (dstart N_l_line ds) S := by
  obtain ⟨p, t, ws, ms, n, o, rfl, hw, hm, hwn, hmn, hmd, hok, hd, hp, fo, hn, h⟩ := h
  have c4 : cst 4 = 37510 := rfl
  unfold t_l_line
  refine dSeqIf_gen fun A1 B1 R hA hB hR => ?_
  have tail : ∀ (o2 : Ob) (x4 : Option D), FeedC (n + 40000) o2 → R (dEnd Q E) [some (.ref p), some (ptD t), some (.rol (strsD ws)), some (.rol (strsD ms)), x4, none, none] (upo S p o2) := by
    intro o2 x4 fo2
    subst hR
    refine dSeq_gen fun R hR => ?_
    simp
    refine here_lc (v := 6) rfl (by decide) (by simp) hm (fun m hm => nm_ok (hmn m hm)) hmd (by simp) fo2 (by omega) fun A o3 a1 a2 fo3 => ?_
    rw [upo_upo]
    simp
    intro a ha b hb
    have npa : p ≠ a := fun z => by subst z; simp at ha
    have npb : p ≠ b := fun z => by subst z; rw [upo_ne npa] at hb; simp at hb
    have nab : a ≠ b := fun z => by subst z; simp at hb
    have ha' : S a = none := by rw [upo_ne npa.symm] at ha; exact ha
    have hb' : S b = none := by rw [upo_ne nab.symm, upo_ne npb.symm] at hb; exact hb
    subst hR
    refine dSeqFor_gen fun B R hB hR => ?_
    simp
    refine ⟨p, 5, n + 40000 + ms.length, o3, by simp, by decide, by decide, by rw [upo_ne npb, upo_ne npa]; simp, fo3, by omega, fun u o4 u1 fo4 => ?_⟩
    have re : ∀ (o o' : Ob) (x y : Ob), upo (upo (upo (upo S p o) a x) b y) p o' = upo (upo (upo S p o') a x) b y := fun o o' x y => by
      rw [upo_comm npb.symm, upo_comm npa.symm, upo_upo]
    rw [re]
    simp
    refine ⟨by omega, ?_⟩
    refine loop_inv (fun i τ S' => ∃ (L : Ln) (o5 : Ob) (x5 x6 : Option D), τ = [some (.ref p), some (ptD t), some (.rol (strsD ws)), some (.rol (strsD ms)), some (.tup [.ref a, .ref b]), x5, x6] ∧
      S' = upo (upo (upo S p o5) a (.lst (L.1.map fun m => .tup (strsD m)))) b (.lst (L.2.map fun t => .tup [.str (if t.1 then "on" else "back"), .str t.2])) ∧ OkN ms L ∧ L.2.length = i ∧ FeedC (n + 40000 + ms.length + 1 + i * 110) o5)
      ⟨([A], []), o4, none, none, rfl, rfl, ⟨rfl, fun m hm => by simp at hm; subst hm; exact ⟨a1, a2⟩, fun t ht => nomatch ht⟩, rfl, fo4.more (by omega)⟩ (fun _ _ _ _ _ => trivial) ?_ ?_
    · rintro i d τ S1 N hd' ⟨⟨M, T⟩, o5, x5, x6, rfl, rfl, ⟨g1, g2, g3⟩, g4, fo5⟩ hN
      dsimp only at g1 g2 g3 g4
      have hi : i < u := by
        have h1 := (List.getElem?_eq_some_iff.mp hd').1
        simpa [rngD] using h1
      subst hB
      refine dSeq_gen fun R' hR' => ?_
      simp [catD]
      refine ⟨p, 2, n + 40000 + ms.length + 1 + i * 110, o5, by simp, by decide, by decide, by rw [upo_ne npb, upo_ne npa]; simp, fo5, by omega, fun v o6 v1 fo6 => ?_⟩
      rw [re]
      refine opt_at (by omega) (by simp; omega) fun y hy => ?_
      obtain ⟨sd, rfl⟩ : ∃ sd : Bool, y = .str (if sd then "on" else "back") := by
        simp at hy
        rcases hy with rfl | rfl
        · exact ⟨true, rfl⟩
        · exact ⟨false, rfl⟩
      refine ⟨by omega, p, ws.length + 1, n + 40000 + ms.length + 1 + i * 110 + 1, o6, by simp, by omega, by omega, by rw [upo_ne npb, upo_ne npa]; simp, fo6, by omega, fun v' o7 v1' fo7 => ?_⟩
      rw [re]
      refine opt_at (by omega) (by simp; omega) fun z hz => ?_
      obtain ⟨w, hw2, rfl⟩ : ∃ w : Str, okS w ∧ z = .str w := by
        rcases List.mem_append.mp hz with hz | hz
        · obtain ⟨y, hy, rfl⟩ := List.mem_map.mp hz
          exact ⟨y, nm_ok (hwn y hy), rfl⟩
        · exact ⟨"u", by unfold okS; decide +kernel, List.mem_singleton.mp hz⟩
      simp
      refine ⟨by omega, ?_⟩
      subst hR'
      simp
      refine ⟨by rw [upo_ne nab]; simp, ?_⟩
      refine here_lc (v := 6) rfl (by decide) (by simp) hm (fun m hm => nm_ok (hmn m hm)) hmd (by rw [upo_ne npb, upo_ne npa]; simp) fo7 (by omega) fun X o8 b1 b2 fo8 => ?_
      rw [re]
      have ea : ∀ y : Ob, upo (upo (upo S p o8) a (.lst (M.map fun m => .tup (strsD m)))) b y a = some (.lst (M.map fun m => .tup (strsD m))) := fun y => by rw [upo_ne nab]; simp
      simp [ea]
      refine ⟨by omega, ?_⟩
      rw [upo_comm nab.symm, upo_upo]
      have := fun x5 x6 => hN _ _ ⟨(M ++ [X], T ++ [(sd, w)]), o8, x5, x6, rfl, rfl, ⟨by simp; omega, fun m hm => ?_, fun t ht => ?_⟩, by simp; omega, fo8.more (by rw [Nat.succ_mul]; omega)⟩
      · simp at this
        exact this _ _
      · rcases List.mem_append.mp hm with hm | hm
        · exact g2 m hm
        · rw [List.mem_singleton.mp hm]; exact ⟨b1, b2⟩
      · rcases List.mem_append.mp ht with ht | ht
        · exact g3 t ht
        · rw [List.mem_singleton.mp ht]; exact hw2
    · rintro τ S1 ⟨⟨M, T⟩, o5, x5, x6, rfl, rfl, g, g4, fo5⟩
      have hu : (rngD 0 u).length = u := by simp [rngD]
      rw [hu] at g4 fo5
      subst hR
      simp
      refine ⟨[a, b], lnD (M, T), upo S p o5, .tup (.cons (.lst (by rw [upo_ne nab]; simp) (by simp) (Vws.same _)) (.cons (.lst (by simp) (by simp) (Vws.same _)) .nil)), fun c hc => ?_, by simp; exact nab, fun c o ec => ?_, h (M, T) o5 g (by simp at g4 ⊢; omega) (fo5.more (by omega))⟩
      · simp at hc
        rcases hc with rfl | rfl
        · exact ⟨M.map fun m => .tup (strsD m), by rw [upo_ne nab]; simp⟩
        · exact ⟨T.map fun t => .tup [.str (if t.1 then "on" else "back"), .str t.2], by simp⟩
      · have nca : c ≠ a := fun z => by subst z; rw [upo_ne npa.symm] at ec; rw [ha'] at ec; cases ec
        have ncb : c ≠ b := fun z => by subst z; rw [upo_ne npb.symm] at ec; rw [hb'] at ec; cases ec
        exact ⟨by rw [upo_ne ncb, upo_ne nca]; exact ec, by simp; exact ⟨nca, ncb⟩⟩
  simp [dstart]
  refine ⟨p, 3, n, o, by simp, by decide, by decide, hp, fo, by omega, fun u o1 u1 fo1 => ?_⟩
  simp
  split
  · subst hA
    simp
    refine ⟨p, t, ws, ms, n + 1, o1, rfl, hw, hm, hwn, hmn, hmd, hok, hd, by decide, by simp, fo1, by omega, fun L o2 a b c => ?_⟩
    rw [upo_upo]
    simp [lnD]
    split
    · exact .same (by simpa [lnD] using h L o2 a (by omega) (c.more (by omega)))
    · exact tail o2 _ (c.more (by omega))
  · subst hB
    simp
    exact tail o1 none (fo1.more (by omega))
end L63
set_option maxRecDepth 100000
set_option maxHeartbeats 4000000
namespace L63
open PySem PySem.Spec L2
open Rc
open Sh hiding N_l_feed N_l_leaf N_l_names N_l_pattern deeps_le deeps_mem r_l_feed r_l_leaf r_l_names r_l_pattern sp_l_leaf sp_l_leaf_mono sp_l_names sp_l_names_mono sp_l_pattern sp_l_pattern_mono t_l_feed t_l_leaf t_l_names t_l_pattern
open Dt hiding nkeys sp_l_feed sp_l_feed_mono
/-! K63s: the ends, the whole. -/
def sp_l_ends (k : Nat) : DSp := fun ds S Q _ => ∃ (t : Pt) (ms : List Str) (L : Ln) (i : Nat), ds = [ptD t, lnD L, .int (i : Nat)] ∧ OkN ms L ∧ L.2.length ≤ 1000 ∧ i ≤ L.2.length ∧ t.deep ≤ k + 1 ∧ (∀ q ∈ t.all, q.kids.length ≤ 1000) ∧
  ∀ E : List Nat, E.Nodup → (∀ j, j ∈ E ↔ F L t i j) → Q (.rol (natsD E)) S
theorem sp_l_ends_mono (k : Nat) : SpMono (sp_l_ends k) := fun ds S Q Q' E E' kk _ ⟨t, ms, L, i, h1, h2, h3, h4, h5, h6, h⟩ => ⟨t, ms, L, i, h1, h2, h3, h4, h5, h6, fun X a b => kk _ _ (h X a b)⟩
theorem fresh_lc {v s : Nat} {τ : DSt} {X E : List Nat} {S : DH} {Q : DK} (hv : v < τ.length) (hs : τ[s]? = some (some (.rol (natsD X)))) (hne : v ≠ s) (hl : E.length ≤ 2000) (h : Q (.rol (natsD (E.filter fun x => decide (x ∉ X)))) S) :
    newO S (.lst []) fun q S1 => dLcL (dGN v) (dTest (dOp (dIn true) (dVar v) (dVar s))) (dVar v) DW0 τ (fun _ => True) q (fzK Q (.ref q)) (natsD E) S1 := by
  refine lcF_inv (G := fun _ => True) (fun i acc S1 => acc = natsD ((E.take i).filter fun x => decide (x ∉ X)) ∧ S1 = S) ⟨rfl, rfl⟩ (fun _ _ _ _ _ _ _ => trivial) ?_ (by simp; omega) ?_
  · rintro i d acc S1 q N hd ⟨rfl, rfl⟩ hq ha hN
    have hi : i < E.length := by
      have := (List.getElem?_eq_some_iff.mp hd).1
      simpa using this
    obtain rfl : d = .int (E[i] : Nat) := by simp [hi] at hd; exact hd.symm
    have e0 : (List.set τ v (some (D.int (E[i] : Nat))))[s]? = some (some (.rol (natsD X))) := by rw [List.getElem?_set_ne hne]; exact hs
    simp [hv]
    rw [e0]
    have tk : (E.take (i + 1)).filter (fun x => decide (x ∉ X)) = (E.take i).filter (fun x => decide (x ∉ X)) ++ (if E[i] ∈ X then [] else [E[i]]) := by
      rw [List.take_succ, List.getElem?_eq_getElem hi, List.filter_append]
      by_cases c : E[i] ∈ X <;> simp [c]
    have hin : decide (D.int (E[i] : Nat) ∈ natsD X) = decide (E[i] ∈ X) := decide_eq_decide.mpr natsD_mem
    refine dInQ_sm (int_sm _ _) (fun e he => natlist_sm X e he) ?_
    rw [hin]
    by_cases c : E[i] ∈ X
    · simp [c]
      have := hN (natsD ((E.take (i + 1)).filter fun x => decide (x ∉ X))) S1 hq ⟨rfl, rfl⟩ (by rw [tk]; simp [c])
      rw [tk] at this
      simpa [c] using this
    · simp [c]
      have := hN (natsD ((E.take (i + 1)).filter fun x => decide (x ∉ X))) S1 hq ⟨rfl, rfl⟩ (by rw [tk]; simp [c])
      rw [tk] at this
      exact ⟨by simpa using ha, by simpa [c] using this⟩
  · rintro acc S1 ⟨rfl, rfl⟩
    simpa using h
theorem le_bound {n : Nat} {X : List Nat} (nd : X.Nodup) (h : ∀ x ∈ X, x ≤ n) : X.length ≤ n + 1 := by
  have := nodup_sub_len' (ys := List.range (n + 1)) nd fun x h1 => List.mem_range.mpr (by have := h x h1; omega)
  rwa [List.length_range] at this
theorem ends_inner {k : Nat} {ms : List Str} {L : Ln} {q : Pt} {X B0 : List Nat} {a0 : D} {i : Nat} {x3 x5 x8 x9 : Option D} {R : DTS} {A : DEnds} {S : DH} (hL : OkN ms L) (hn : L.2.length ≤ 1000) (hqd : q.deep ≤ k) (hfq : ∀ r ∈ q.all, r.kids.length ≤ 1000)
    (hX : ∀ x ∈ X, x ≤ L.2.length) (nX : X.Nodup) (nB : B0.Nodup) (hB0 : ∀ x ∈ B0, x ≤ L.2.length)
    (h : ∀ (C : List Nat) (x8 x9 : Option D), C.Nodup → (∀ j, j ∈ C ↔ j ∈ B0 ∨ ∃ s ∈ X, F L q s j) → R A [some a0, some (lnD L), some (.int (i : Nat)), x3, some (.rol (natsD X)), x5, some (.rol (natsD C)), some (ptD q), x8, x9] S) :
    dSeq (dFor (dSeqI (dVar 4)) (dGN 8) (dAsg (dOp dAddF (dVar 6) (dFz (dLc (dSeqI (dCall (prevSp sp_l_ends k) (dCons (dVar 7) (dCons (dVar 1) (dCons (dVar 8) dNil))))) (dGN 9) (dTest (dOp (dIn true) (dVar 9) (dVar 6))) (dVar 9) [9]))) (dGN 6))) R A
      [some a0, some (lnD L), some (.int (i : Nat)), x3, some (.rol (natsD X)), x5, some (.rol (natsD B0)), some (ptD q), x8, x9] S := by
  obtain ⟨m, rfl⟩ : ∃ m, k = m + 1 := ⟨k - 1, by have : 1 ≤ q.deep := by { cases q <;> simp [Pt.deep] }; omega⟩
  refine dSeqFor_gen fun B R hB hR => ?_
  simp
  refine loop_inv (fun j τ S' => ∃ (C : List Nat) (x8 x9 : Option D), τ = [some a0, some (lnD L), some (.int (i : Nat)), x3, some (.rol (natsD X)), x5, some (.rol (natsD C)), some (ptD q), x8, x9] ∧ S' = S ∧ C.Nodup ∧
    (∀ y, y ∈ C ↔ y ∈ B0 ∨ ∃ s ∈ X.take j, F L q s y)) ⟨B0, x8, x9, rfl, rfl, nB, fun y => by simp⟩ (fun _ _ _ _ _ => trivial) ?_ ?_
  · rintro j d τ S1 N hd ⟨C, x8, x9, rfl, rfl, nC, g⟩ hN
    have hj : j < X.length := by
      have := (List.getElem?_eq_some_iff.mp hd).1
      simpa using this
    obtain rfl : d = .int (X[j] : Nat) := by simp [hj] at hd; exact hd.symm
    have hC : ∀ y ∈ C, y ≤ L.2.length := fun y hy => by
      rcases (g y).mp hy with hy | ⟨s, hs, hy⟩
      · exact hB0 y hy
      · exact F_in hL.len q s y (hX s (List.mem_of_mem_take hs)) hy
    have hCl := le_bound nC hC
    have hxj : X[j] ≤ L.2.length := hX _ (List.getElem_mem hj)
    subst hB
    simp [-prevSp]
    refine ⟨q, ms, L, X[j], rfl, hL, hn, hxj, by omega, hfq, fun Y ynd hY => ?_⟩
    have hyl := le_bound ynd fun x h1 => F_in hL.len q _ x hxj ((hY x).mp h1)
    simp
    refine fresh_lc (s := 6) (by simp) rfl (by decide) (by omega) ?_
    have hfl : (Y.filter fun x => decide (x ∉ C)).length ≤ Y.length := List.length_filter_le _ _
    simp [catD]
    refine ⟨by simp at hfl; omega, ?_⟩
    have := fun x8 x9 => hN [some a0, some (lnD L), some (.int (i : Nat)), x3, some (.rol (natsD X)), x5, some (.rol (natsD (C ++ Y.filter fun x => decide (x ∉ C)))), some (ptD q), x8, x9] S1 ⟨C ++ Y.filter fun x => decide (x ∉ C), x8, x9, rfl, rfl, ?_, fun y => ?_⟩
    · simp at this
      exact this _ _
    · exact List.nodup_append.mpr ⟨nC, ynd.filter _, fun a ha b hb e => by
        subst e
        have := (List.mem_filter.mp hb).2
        simp at this
        exact this ha⟩
    · rw [List.mem_append, List.mem_filter, hY]
      have tk : ∀ s, s ∈ X.take (j + 1) ↔ s ∈ X.take j ∨ s = X[j] := fun s => take_mem hj
      constructor
      · rintro (h1 | ⟨h1, _⟩)
        · rcases (g y).mp h1 with h1 | ⟨s, h1, h2⟩
          · exact .inl h1
          · exact .inr ⟨s, (tk s).mpr (.inl h1), h2⟩
        · exact .inr ⟨_, (tk _).mpr (.inr rfl), h1⟩
      · rintro (h1 | ⟨s, h1, h2⟩)
        · exact .inl ((g y).mpr (.inl h1))
        · rcases (tk s).mp h1 with h1 | rfl
          · exact .inl ((g y).mpr (.inr ⟨s, h1, h2⟩))
          · by_cases hy : y ∈ C
            · exact .inl hy
            · exact .inr ⟨h2, by simpa using hy⟩
  · rintro τ S1 ⟨C, x8, x9, rfl, rfl, nC, g⟩
    subst hR
    refine h C x8 x9 nC fun y => ?_
    rw [g, List.take_of_length_le (by simp)]
def t_l_ends (spR : DSp) : DTS := (dSeq (dIf (dTest (dOp (dEq false) (dOp dIxS (dVar 0) (dC (.int 0))) (dC (.str "stay"))))
      (dRet (dLstF (dCons (dVar 2) dNil)))
      dNx)
    (dSeq (dIf (dTest (dOp (dIn false) (dOp dIxS (dVar 0) (dC (.int 0))) (dTup (dCons (dC (.str "at")) (dCons (dC (.str "off")) dNil)))))
      (dRet (dSlF (dLstF (dCons (dVar 2) dNil)) dNoP (dSoP (dCB cIntS (dCons (dOp (dEq false) (dOp (dIn false) (dOp dIxS (dVar 0) (dC (.int 1))) (dOp dIxS (dOp dIxS (dVar 1) (dC (.int 0))) (dVar 2))) (dOp (dEq false) (dOp dIxS (dVar 0) (dC (.int 0))) (dC (.str "at")))) dNil)))))
      dNx)
    (dSeq (dIf (dTest (dOp (dEq false) (dOp dIxS (dVar 0) (dC (.int 0))) (dC (.str "step"))))
      (dSeq (dAsg (dAndV (dOp rLt (dVar 2) (dCB cLen (dCons (dOp dIxS (dVar 1) (dC (.int 1))) dNil))) (dAndV (dOp (dEq false) (dOp dIxS (dOp dIxS (dOp dIxS (dVar 1) (dC (.int 1))) (dVar 2)) (dC (.int 0))) (dOp dIxS (dVar 0) (dC (.int 1)))) (dOp (dIn false) (dOp dIxS (dVar 0) (dC (.int 2))) (dTup (dCons (dC (.str "*")) (dCons (dOp dIxS (dOp dIxS (dOp dIxS (dVar 1) (dC (.int 1))) (dVar 2)) (dC (.int 1))) dNil)))))) (dGN 3))
    (dRet (dSlF (dLstF (dCons (dOp dAddF (dVar 2) (dC (.int 1))) dNil)) dNoP (dSoP (dCB cIntS (dCons (dVar 3) dNil))))))
      dNx)
    (dSeq (dAsg (dLstF (dCons (dVar 2) dNil)) (dGN 4))
    (dSeq (dIf (dTest (dOp (dEq false) (dOp dIxS (dVar 0) (dC (.int 0))) (dC (.str "many"))))
      (dSeq (dAsg (dC (.int 0)) (dGN 5))
    (dSeq (dWhile (dTest (dOp rLt (dVar 5) (dCB cLen (dCons (dVar 4) dNil))))
      (dSeq (dAsg (dOp dAddF (dVar 4) (dFz (dLc (dSeqI (dCall spR (dCons (dOp dIxS (dVar 0) (dC (.int 1))) (dCons (dVar 1) (dCons (dOp dIxS (dVar 4) (dVar 5)) dNil))))) (dGN 7) (dTest (dOp (dIn true) (dVar 7) (dVar 4))) (dVar 7) [7]))) (dGN 4))
    (dAsg (dOp dAddF (dVar 5) (dC (.int 1))) (dGN 5))))
    (dRet (dVar 4))))
      dNx)
    (dSeq (dAsg (dLstF dNil) (dGN 6))
    (dSeq (dFor (dSeqI (dOp dIxS (dVar 0) (dC (.int 1)))) (dGN 7)
      (dSeq (dIf (dTest (dOp (dEq false) (dOp dIxS (dVar 0) (dC (.int 0))) (dC (.str "then"))))
      (dAsg (dLstF dNil) (dGN 6))
      dNx)
    (dSeq (dFor (dSeqI (dVar 4)) (dGN 8)
      (dAsg (dOp dAddF (dVar 6) (dFz (dLc (dSeqI (dCall spR (dCons (dVar 7) (dCons (dVar 1) (dCons (dVar 8) dNil))))) (dGN 9) (dTest (dOp (dIn true) (dVar 9) (dVar 6))) (dVar 9) [9]))) (dGN 6)))
    (dIf (dTest (dOp (dEq false) (dOp dIxS (dVar 0) (dC (.int 0))) (dC (.str "then"))))
      (dAsg (dVar 6) (dGN 4))
      dNx))))
    (dRet (dIfE (dTest (dOp (dEq false) (dOp dIxS (dVar 0) (dC (.int 0))) (dC (.str "then")))) (dVar 4) (dVar 6))))))))))
abbrev N_l_ends : List Str := ["_law_pattern_here", "_law_line_here", "_law_at", "_law_good", "_law_spots", "_law_k", "_law_behind", "_law_one", "_law_spot", "_law_end"]
theorem inAO : inF (.str (Str.ofString "at")) [.str (Str.ofString "at"), .str (Str.ofString "off")] = true ∧ inF (.str (Str.ofString "off")) [.str (Str.ofString "at"), .str (Str.ofString "off")] = true ∧
    inF (.str (Str.ofString "step")) [.str (Str.ofString "at"), .str (Str.ofString "off")] = false ∧ inF (.str (Str.ofString "then")) [.str (Str.ofString "at"), .str (Str.ofString "off")] = false ∧
    inF (.str (Str.ofString "either")) [.str (Str.ofString "at"), .str (Str.ofString "off")] = false ∧ inF (.str (Str.ofString "many")) [.str (Str.ofString "at"), .str (Str.ofString "off")] = false := by decide +kernel
theorem cut_if (x : D) (c : Prop) [Decidable c] : cutD [x] none (some (if c then 1 else 0)) = if c then [x] else [] := by
  by_cases h : c
  · simp only [h, if_true]
    exact cutD_take [x] 1
  · simp only [h, if_false]
    exact cutD_take [x] 0
theorem r_l_ends (k : Nat) (ds S Q E) (h : sp_l_ends k ds S Q E) : t_l_ends (prevSp sp_l_ends k) (dEnd Q E) (dstart N_l_ends ds) S := by
  obtain ⟨t, ms, L, i, rfl, hL, hn, hi, hd, hf, h⟩ := h
  unfold t_l_ends
  have hin : ∀ x, F L t i x → x ≤ L.2.length := fun x hx => F_in hL.len t i x hi hx
  cases t with
  | stay =>
    simp [-prevSp, dstart, ptD]
    exact .same (h [i] (by simp) (fun j => by simp [F]; exact eq_comm))
  | mark b m =>
    obtain ⟨M, T⟩ := L
    have hl : M.length = T.length + 1 := hL.len
    have hi' : i < M.length := by dsimp only at hi; omega
    have ea : atI (M.map fun m => D.tup (strsD m)) (i : Int) = some (.tup (strsD M[i])) := atI_nat (by simp [hi'])
    have eg : M.getD i [] = M[i] := by simp [hi']
    have hF : ∀ j, F (M, T) (.mark b m) i j ↔ i = j ∧ decide (m ∈ M[i]) = b := fun j => by
      show (i = j ∧ decide (m ∈ M.getD i []) = b) ↔ _
      rw [eg]
    have hh : ∀ c : Prop, ∀ [Decidable c], (c ↔ decide (m ∈ M[i]) = b) → Rt Q (.rol (if c then [.int (i : Nat)] else [])) S := fun c _ hc => by
      have := h (if c then [i] else []) (by split <;> simp) (fun j => by
        rw [hF, ← hc]
        split
        · rename_i g; simp [g]; exact eq_comm
        · rename_i g; simp [g])
      refine .same ?_
      by_cases g : c
      · simpa [g] using this
      · simpa [g] using this
    have b1 : (Str.ofString "off" == Str.ofString "at") = false := by decide +kernel
    refine dSeqIf_gen fun A1 B1 R hA hB hR => ?_
    cases b
    all_goals
      simp [-prevSp, dstart, ptD]
      subst hB
      simp
      subst hR
      refine dSeqIf_gen fun A1 B1 R hA hB hR => ?_
      simp [-prevSp, dstart, ptD, inAO]
      subst hA
      simp [-prevSp, dstart, ptD, lnD, ea, cut_if, inF_strsC, b1]
      first | exact hh _ (by simp) | simpa using hh (¬ m ∈ M[i]) (by simp)
  | step b w =>
    obtain ⟨M, T⟩ := L
    have b1 : (Str.ofString "back" == Str.ofString "on") = false := by decide +kernel
    have b2 : (Str.ofString "on" == Str.ofString "back") = false := by decide +kernel
    have hh : ∀ c : Prop, ∀ [Decidable c], (c ↔ ∃ t, T[i]? = some t ∧ t.1 = b ∧ (w = "*" ∨ w = t.2)) → Rt Q (.rol (if c then [.int ((i : Int) + 1)] else [])) S := fun c _ hc => by
      have := h (if c then [i + 1] else []) (by split <;> simp) (fun j => by
        show _ ↔ j = i + 1 ∧ _
        rw [← hc]
        split
        · rename_i g; simp [g]
        · rename_i g; simp [g])
      refine .same ?_
      by_cases g : c
      · simpa [g] using this
      · simpa [g] using this
    refine dSeqIf_gen fun A1 B1 R hA hB hR => ?_
    cases b
    all_goals
      simp [-prevSp, dstart, ptD]
      subst hB
      simp
      subst hR
      refine dSeqIf_gen fun A1 B1 R hA hB hR => ?_
      simp [-prevSp, dstart, ptD, inAO]
      subst hB
      simp
      subst hR
      refine dSeqIf_gen fun A1 B1 R hA hB hR => ?_
      simp [-prevSp, dstart, ptD]
      subst hA
      by_cases c : i < T.length
      · have ea : atI (T.map fun t => D.tup [D.str (if t.1 = true then "on" else "back"), D.str t.2]) (i : Int) = some (.tup [.str (if T[i].1 = true then "on" else "back"), .str T[i].2]) := atI_nat (by simp [c])
        have eT : T[i]? = some T[i] := by simp [c]
        rw [eT] at hh
        generalize T[i] = tt at ea hh
        obtain ⟨sb, sw⟩ := tt
        simp [-prevSp, dstart, ptD, lnD, c, ea]
        cases sb
        all_goals
          simp [b1, b2]
          first
          | (rw [show cutD [D.int ((i : Int) + 1)] none (some 0) = [] from cutD_take _ 0]; simpa using hh False (by simp))
          | (rw [cut_if, show ([D.str "*", D.str sw] : List D) = strsD ["*", sw] from rfl, inF_strsC]; simpa using hh (w = "*" ∨ w = sw) (by simp))
      · simp [-prevSp, dstart, ptD, lnD, c]
        rw [show cutD [D.int ((i : Int) + 1)] none (some 0) = [] from cutD_take _ 0]
        simpa using hh False (iff_of_false id (by rintro ⟨t, e, _⟩; exact absurd (List.getElem?_eq_some_iff.mp e).1 c))
  | seq b ps =>
    rw [Pt.deep_seq] at hd
    have hl : ps.length ≤ 1000 := hf _ (Pt.self_all _)
    have hps : ∀ q ∈ ps, q.deep ≤ k ∧ ∀ r ∈ q.all, r.kids.length ≤ 1000 := fun q hq => ⟨by have := deeps_mem hq; omega, kids_few hf (by simpa [Pt.kids] using hq)⟩
    cases b
    all_goals
      refine dSeqIf_gen fun A1 B1 R hA hB hR => ?_
      simp [-prevSp, dstart, ptD]
      subst hB
      simp
      subst hR
      refine dSeqIf_gen fun A1 B1 R hA hB hR => ?_
      simp [-prevSp, dstart, ptD, inAO]
      subst hB
      simp
      subst hR
      refine dSeqIf_gen fun A1 B1 R hA hB hR => ?_
      simp [-prevSp, dstart, ptD]
      subst hB
      simp
      subst hR
      refine dSeq_gen fun R hR => ?_
      simp
      subst hR
      refine dSeqIf_gen fun A1 B1 R hA hB hR => ?_
      simp [-prevSp, dstart, ptD]
      subst hB
      simp
      subst hR
      refine dSeq_gen fun R hR => ?_
      simp
      subst hR
      refine dSeqFor_gen fun B R hB hR => ?_
      simp [-prevSp]
    · refine loop_inv (fun j τ S' => ∃ (C : List Nat) (x7 x8 x9 : Option D), τ = [some (ptD (.seq false ps)), some (lnD L), some (.int (i : Nat)), none, some (.rol (natsD [i])), none, some (.rol (natsD C)), x7, x8, x9] ∧ S' = S ∧ C.Nodup ∧
        (∀ y, y ∈ C ↔ ∃ p ∈ ps.take j, F L p i y)) ⟨[], none, none, none, rfl, rfl, .nil, fun y => by simp⟩ (fun _ _ _ _ _ => trivial) ?_ ?_
      · rintro j d τ S1 N hd' ⟨C, x7, x8, x9, rfl, rfl, nC, g⟩ hN
        have hj : j < ps.length := by
          have h1 := (List.getElem?_eq_some_iff.mp hd').1
          rwa [ptDs_len] at h1
        rw [ptDs_at hj] at hd'
        cases hd'
        have hq := hps _ (List.getElem_mem hj)
        subst hB
        refine dSeqIf_gen fun A1 B1 R' hA hB hR' => ?_
        simp [-prevSp, ptD]
        subst hB
        simp
        subst hR'
        have hCin : ∀ x ∈ C, x ≤ L.2.length := fun x hx => by
          obtain ⟨p, hp, hx⟩ := (g x).mp hx
          exact F_in hL.len p i x hi hx
        refine ends_inner (X := [i]) hL hn hq.1 hq.2 (fun x hx => by rw [List.mem_singleton.mp hx]; exact hi) (by simp) nC hCin fun C' x8' x9' nC' g' => ?_
        simp [-prevSp]
        refine hN _ _ ⟨C', _, _, _, rfl, rfl, nC', fun y => ?_⟩
        rw [g', g]
        have tk : ∀ s, s ∈ ps.take (j + 1) ↔ s ∈ ps.take j ∨ s = ps[j] := fun s => take_mem hj
        constructor
        · rintro (⟨p, h1, h2⟩ | ⟨s, h1, h2⟩)
          · exact ⟨p, (tk p).mpr (.inl h1), h2⟩
          · rw [List.mem_singleton.mp h1] at h2
            exact ⟨_, (tk _).mpr (.inr rfl), h2⟩
        · rintro ⟨p, h1, h2⟩
          rcases (tk p).mp h1 with h1 | rfl
          · exact .inl ⟨p, h1, h2⟩
          · exact .inr ⟨i, List.mem_singleton.mpr rfl, h2⟩
      · rintro τ S1 ⟨C, x7, x8, x9, rfl, rfl, nC, g⟩
        subst hR
        simp [ptD]
        exact .same (h C nC fun y => by rw [g, ptDs_len, List.take_length]; exact Fo_iff.symm)
    · refine loop_inv (fun j τ S' => ∃ (X C : List Nat) (x7 x8 x9 : Option D), τ = [some (ptD (.seq true ps)), some (lnD L), some (.int (i : Nat)), none, some (.rol (natsD X)), none, some (.rol (natsD C)), x7, x8, x9] ∧ S' = S ∧ X.Nodup ∧
        (∀ y, y ∈ X ↔ Fs L (ps.take j) i y)) ⟨[i], [], none, none, none, rfl, rfl, by simp, fun y => by simp [Fs]; exact eq_comm⟩ (fun _ _ _ _ _ => trivial) ?_ ?_
      · rintro j d τ S1 N hd' ⟨X, C, x7, x8, x9, rfl, rfl, nX, g⟩ hN
        have hj : j < ps.length := by
          have h1 := (List.getElem?_eq_some_iff.mp hd').1
          rwa [ptDs_len] at h1
        rw [ptDs_at hj] at hd'
        cases hd'
        have hq := hps _ (List.getElem_mem hj)
        subst hB
        refine dSeqIf_gen fun A1 B1 R' hA hB hR' => ?_
        simp [-prevSp, ptD]
        subst hA
        simp
        subst hR'
        have hXin : ∀ x ∈ X, x ≤ L.2.length := fun x hx => by
          have h1 : F L (.seq true (ps.take j)) i x := (g x).mp hx
          exact F_in hL.len _ i x hi h1
        refine ends_inner (B0 := []) hL hn hq.1 hq.2 hXin nX .nil (fun x hx => nomatch hx) fun C' x8' x9' nC' g' => ?_
        simp [-prevSp]
        refine hN _ _ ⟨C', C', _, _, _, rfl, rfl, nC', fun y => ?_⟩
        rw [g', List.take_succ, List.getElem?_eq_getElem hj]
        simp only [List.not_mem_nil, false_or, Option.toList_some]
        rw [Fs_app]
        constructor
        · rintro ⟨s, h1, h2⟩
          exact ⟨s, (g s).mp h1, y, h2, rfl⟩
        · rintro ⟨s, h1, y', h2, h3⟩
          have h3 : y' = y := h3
          subst h3
          exact ⟨s, (g s).mpr h1, h2⟩
      · rintro τ S1 ⟨X, C, x7, x8, x9, rfl, rfl, nX, g⟩
        subst hR
        simp [ptD]
        exact .same (h X nX fun y => by rw [g, ptDs_len, List.take_length]; exact Iff.rfl)
  | many q =>
    rw [Pt.deep_many] at hd
    obtain ⟨m, rfl⟩ : ∃ m, k = m + 1 := ⟨k - 1, by have : 1 ≤ q.deep := by { cases q <;> simp [Pt.deep] }; omega⟩
    have hfq : ∀ r ∈ q.all, r.kids.length ≤ 1000 := kids_few hf (by simp [Pt.kids])
    refine dSeqIf_gen fun A1 B1 R hA hB hR => ?_
    simp [-prevSp, dstart, ptD]
    subst hB
    simp
    subst hR
    refine dSeqIf_gen fun A1 B1 R hA hB hR => ?_
    simp [-prevSp, dstart, ptD, inAO]
    subst hB
    simp
    subst hR
    refine dSeqIf_gen fun A1 B1 R hA hB hR => ?_
    simp [-prevSp, dstart, ptD]
    subst hB
    simp
    subst hR
    refine dSeq_gen fun R hR => ?_
    simp
    subst hR
    refine dSeqIf_gen fun A1 B1 R hA hB hR => ?_
    simp [-prevSp, dstart, ptD]
    clear hB hR
    subst hA
    refine dSeq_gen fun R1 hR1 => ?_
    simp
    subst hR1
    refine dSeqWhile_gen fun B R2 hB hR2 => ?_
    have bnd : ∀ X : List Nat, X.Nodup → (∀ x ∈ X, St (F L q) i x) → X.length ≤ 1001 := fun X nd hx => by
      have := nodup_sub_len' (ys := List.range (L.2.length + 1)) nd fun x h1 => List.mem_range.mpr (by have := hin x (hx x h1); omega)
      rw [List.length_range] at this
      omega
    refine while_inv (fun τ S' => ∃ (X : List Nat) (c : Nat) (x7 : Option D), τ = [some (ptD (.many q)), some (lnD L), some (.int (i : Nat)), none, some (.rol (natsD X)), some (.int (c : Nat)), none, x7, none, none] ∧ S' = S ∧
        X.Nodup ∧ i ∈ X ∧ (∀ x ∈ X, St (F L q) i x) ∧ (∀ j (hj : j < X.length), j < c → ∀ y, F L q X[j] y → y ∈ X) ∧ c ≤ X.length)
      (fun (τ : DSt) _ => match τ[5]? with | some (some (D.int j)) => (200000 - j).toNat | _ => 0) ⟨[i], 0, none, rfl, rfl, by simp, by simp, fun x hx => by rw [List.mem_singleton.mp hx]; exact .nil _, fun j _ hj => by omega, Nat.zero_le _⟩ ?_
    rintro τ S2 N ⟨X, c, x7, rfl, rfl, nd, ix, g1, g2, g3⟩ hN
    have hX := bnd X nd g1
    by_cases hc : c < X.length
    · have ea : atI (natsD X) (c : Int) = some (.int (X[c] : Nat)) := atI_nat (by simp [hc])
      subst hB
      simp [-prevSp, hc, ptD, ea]
      have hxc : St (F L q) i X[c] := g1 _ (List.getElem_mem hc)
      refine ⟨q, ms, L, X[c], rfl, hL, hn, hin _ hxc, by omega, hfq, fun Y ynd hY => ?_⟩
      have hyl : Y.length ≤ 1001 := by
        have := nodup_sub_len' (ys := List.range (L.2.length + 1)) ynd fun x h1 => List.mem_range.mpr (by have := F_in hL.len q X[c] x (hin _ hxc) ((hY x).mp h1); omega)
        rw [List.length_range] at this
        omega
      simp
      refine fresh_lc (s := 4) (by simp) rfl (by decide) (by omega) ?_
      have hfl : (Y.filter fun x => decide (x ∉ X)).length ≤ 1001 := Nat.le_trans (List.length_filter_le _ _) hyl
      simp [catD]
      refine ⟨by simp at hfl; omega, ?_⟩
      have := hN [some (ptD (.many q)), some (lnD L), some (.int (i : Nat)), none, some (.rol (natsD (X ++ Y.filter fun x => decide (x ∉ X)))), some (.int ((c + 1 : Nat) : Int)), none, x7, none, none] S2 ⟨X ++ Y.filter fun x => decide (x ∉ X), c + 1, x7, rfl, rfl, ?_, List.mem_append_left _ ix, fun x hx => ?_, fun j hj hjc y hy => ?_, by simp; omega⟩ (by simp; omega)
      · simpa [ptD] using this
      · exact List.nodup_append.mpr ⟨nd, ynd.filter _, fun a ha b hb e => by
          subst e
          have := (List.mem_filter.mp hb).2
          simp at this
          exact this ha⟩
      · rcases List.mem_append.mp hx with hx | hx
        · exact g1 x hx
        · exact hxc.snoc ((hY x).mp (List.mem_filter.mp hx).1)
      · have hjx : j < X.length := by omega
        rw [List.getElem_append_left hjx] at hy
        by_cases e : j < c
        · exact List.mem_append_left _ (g2 j hjx e y hy)
        · have e : j = c := by omega
          subst e
          by_cases hyx : y ∈ X
          · exact List.mem_append_left _ hyx
          · exact List.mem_append_right _ (List.mem_filter.mpr ⟨(hY y).mpr hy, by simpa using hyx⟩)
    · have ec : c = X.length := by omega
      subst hR2
      simp [hc]
      refine .same (h X nd fun y => ⟨fun hy => g1 y hy, fun hy => ?_⟩)
      have hy' : St (F L q) i y := hy
      have go : ∀ a b, St (F L q) a b → a ∈ X → b ∈ X := fun a b s => by
        induction s with
        | nil => exact id
        | cons r _ ih =>
          intro ha
          obtain ⟨j, hj, e⟩ := List.getElem_of_mem ha
          exact ih (g2 j hj (by omega) _ (by rw [e]; exact r))
      exact go i y hy' ix
end L63
set_option maxRecDepth 100000
set_option maxHeartbeats 4000000
namespace Rq
open PySem PySem.Spec L2
open Sh
open Dt hiding nkeys
/-! ShRq: a pattern's text tells it. -/
abbrev cl (x : Str) : List Nat := x.cps.toList
theorem cl_inj {a b : Str} (h : cl a = cl b) : a = b := by
  cases a; cases b
  simp only [Str.mk.injEq]
  exact Array.toList_inj.mp h
theorem cl_app (a b : Str) : cl (a ++ b) = cl a ++ cl b := by
  show (a.cps ++ b.cps).toList = _
  simp
theorem pt_indR {P : Pt → Prop} (h1 : P .stay) (h2 : ∀ b w, P (.step b w)) (h3 : ∀ b m, P (.mark b m)) (h4 : ∀ b ps, (∀ p ∈ ps, P p) → P (.seq b ps)) (h5 : ∀ p, P p → P (.many p)) : ∀ p : Pt, P p := by
  intro p
  induction hn : p.all.length using Nat.strongRecOn generalizing p with
  | ind n ih =>
    subst hn
    cases p with
    | stay => exact h1
    | step b w => exact h2 b w
    | mark b m => exact h3 b m
    | seq b ps =>
      refine h4 b ps fun q hq => ih q.all.length ?_ q rfl
      rw [Pt.all_seq, List.length_cons, Pt.alls_flat]
      have : q.all.length ≤ (ps.flatMap Pt.all).length := by
        obtain ⟨a, c, rfl⟩ := List.append_of_mem hq
        simp
        omega
      omega
    | many q => exact h5 q (ih q.all.length (by rw [Pt.all_many, List.length_cons]; omega) q rfl)
/-- signs that are shown as they are -/
def Sg (c : Nat) : Prop := c = 42 ∨ (97 ≤ c ∧ c ≤ 122)
theorem repr_sg : ∀ c, c < 123 → (c = 42 ∨ 97 ≤ c) → PySem.Builtin.Str.reprChar 39 c = [c] := by decide +kernel
theorem cl_repr {x : Str} (h : ∀ c ∈ cl x, Sg c) : cl (reprText x) = 39 :: cl x ++ [39] := by
  have hq : reprQuote x = 39 := by
    unfold reprQuote
    have : x.cps.contains 39 = false := by
      rw [← Array.contains_toList]
      cases e : (x.cps.toList.contains 39) with
      | false => rfl
      | true =>
        have hm := List.contains_iff_mem.mp e
        rcases h 39 hm with z | z <;> omega
    rw [this]
    rfl
  unfold reprText
  rw [hq]
  have go : ∀ (l : List Nat) (acc : Array Nat), (∀ c ∈ l, Sg c) → (l.foldl (fun out c => out ++ (PySem.Builtin.Str.reprChar 39 c).toArray) acc).toList = acc.toList ++ l := by
    intro l
    induction l with
    | nil => intro acc _; simp
    | cons c l ih =>
      intro acc hl
      rw [List.foldl_cons, ih _ fun d hd => hl d (by simp [hd])]
      have hc := hl c (by simp)
      rw [repr_sg c (by unfold Sg at hc; omega) (by unfold Sg at hc; omega)]
      simp
  show (Array.push (Array.foldl (fun out c => out ++ (PySem.Builtin.Str.reprChar 39 c).toArray) #[39] x.cps) 39).toList = _
  rw [Array.toList_push, ← Array.foldl_toList, go _ _ h]
  simp
def jn : List (List Nat) → List Nat
  | [] => []
  | [x] => x
  | x :: r => x ++ [44, 32] ++ jn r
theorem jn_cons {x y : List Nat} {r : List (List Nat)} : jn (x :: y :: r) = x ++ [44, 32] ++ jn (y :: r) := rfl
theorem cl_join : ∀ ts : List Str, cl (Str.join ", " ts) = jn (ts.map cl)
  | [] => rfl
  | [x] => rfl
  | x :: y :: r => by
    show cl (x ++ ", " ++ Str.join ", " (y :: r)) = cl x ++ [44, 32] ++ jn ((y :: r).map cl)
    rw [cl_app, cl_app, cl_join (y :: r)]
    rfl
def en (n : Nat) : List Nat := if n = 1 then [44, 41] else [41]
theorem cl_tuple (ts : List Str) : cl (tupleText ts) = 40 :: jn (ts.map cl) ++ en ts.length := by
  unfold tupleText en
  rw [cl_app, cl_app, cl_join]
  by_cases e : ts.length = 1
  · simp [e]; rfl
  · have : (ts.length == 1) = false := by simpa using e
    simp [e]; rfl
def qt (w : List Nat) : List Nat := 39 :: w ++ [39]
def cs (s : String) : List Nat := cl (Str.ofString s)
mutual
def sh : Pt → List Nat
  | .stay => 40 :: qt (cs "stay") ++ [44, 41]
  | .step b w => 40 :: qt (cs "step") ++ [44, 32] ++ qt (if b then cs "on" else cs "back") ++ [44, 32] ++ qt (cl w) ++ [41]
  | .mark b m => 40 :: qt (if b then cs "at" else cs "off") ++ [44, 32] ++ qt (cl m) ++ [41]
  | .seq b ps => 40 :: qt (if b then cs "then" else cs "either") ++ [44, 32] ++ (40 :: jn (shs ps) ++ en ps.length) ++ [41]
  | .many p => 40 :: qt (cs "many") ++ [44, 32] ++ sh p ++ [41]
def shs : List Pt → List (List Nat)
  | [] => []
  | p :: ps => sh p :: shs ps
end
theorem shs_map (ps : List Pt) : shs ps = ps.map sh := by
  induction ps with
  | nil => simp [shs]
  | cons p ps ih => simp [shs, ih]
theorem toPs_map (ds : List D) : toPs ds = ds.map toP := by
  induction ds with
  | nil => rfl
  | cons d ds ih => show toP d :: toPs ds = _; rw [ih]; rfl
theorem shownAll_map (ps : List PyData) : PyData.shownAll ps = ps.map PyData.shown := by
  induction ps with
  | nil => rfl
  | cons p ps ih => show PyData.shown p :: PyData.shownAll ps = _; rw [ih]; rfl
theorem nm_sg {w : Str} (h : Nm w) : ∀ c ∈ cl w, Sg c := fun c hc => .inr (h.2.2 c hc)
theorem sgs {s : String} (h : (cs s).all (fun c => decide (97 ≤ c) && decide (c ≤ 122)) = true) : ∀ c ∈ cl (Str.ofString s), Sg c := fun c hc => by
  have := List.all_eq_true.mp h c hc
  simp at this
  exact .inr this
theorem cl_lit {s : String} (h : (cs s).all (fun c => decide (97 ≤ c) && decide (c ≤ 122)) = true) : cl (reprText (Str.ofString s)) = qt (cs s) := cl_repr (sgs h)
theorem star_sg : ∀ c ∈ cl (Str.ofString "*"), Sg c := fun c hc => by
  have : cl (Str.ofString "*") = [42] := by decide +kernel
  rw [this] at hc
  exact .inl (List.mem_singleton.mp hc)
theorem cl_shown : ∀ p : Pt, p.okP Nm → cl (toP (ptD p)).shown = sh p := by
  refine pt_indR ?_ (fun b w => ?_) (fun b m => ?_) (fun b ps ih => ?_) (fun p ih => ?_)
  · intro _
    show cl (tupleText [reprText (Str.ofString "stay")]) = _
    rw [cl_tuple]
    simp only [List.map_cons, List.map_nil, jn]
    rw [cl_lit (by decide +kernel)]
    simp [sh, en]
  · intro ho
    have hw : ∀ c ∈ cl w, Sg c := by
      rcases ho _ (Pt.self_all _) with h | h
      · subst h; exact star_sg
      · exact nm_sg h
    cases b
    · show cl (tupleText [reprText (Str.ofString "step"), reprText (Str.ofString "back"), reprText w]) = _
      rw [cl_tuple]
      simp only [List.map_cons, List.map_nil, jn]
      rw [cl_lit (by decide +kernel), cl_lit (by decide +kernel), cl_repr hw]
      simp [sh, en, qt]
    · show cl (tupleText [reprText (Str.ofString "step"), reprText (Str.ofString "on"), reprText w]) = _
      rw [cl_tuple]
      simp only [List.map_cons, List.map_nil, jn]
      rw [cl_lit (by decide +kernel), cl_lit (by decide +kernel), cl_repr hw]
      simp [sh, en, qt]
  · intro ho
    have hm : ∀ c ∈ cl m, Sg c := nm_sg (ho _ (Pt.self_all _))
    cases b
    · show cl (tupleText [reprText (Str.ofString "off"), reprText m]) = _
      rw [cl_tuple]
      simp only [List.map_cons, List.map_nil, jn]
      rw [cl_lit (by decide +kernel), cl_repr hm]
      simp [sh, en, qt]
    · show cl (tupleText [reprText (Str.ofString "at"), reprText m]) = _
      rw [cl_tuple]
      simp only [List.map_cons, List.map_nil, jn]
      rw [cl_lit (by decide +kernel), cl_repr hm]
      simp [sh, en, qt]
  · intro ho
    have hps : (PyData.shownAll (toPs (ptDs ps))).map cl = shs ps := by
      rw [shownAll_map, toPs_map, ptDs_map, shs_map, List.map_map, List.map_map, List.map_map]
      refine List.map_congr_left fun p hp => ih p hp fun q hq => ho q (by rw [Pt.all_seq, Pt.alls_flat]; exact List.mem_cons_of_mem _ (List.mem_flatMap.mpr ⟨p, hp, hq⟩))
    have hlen : (PyData.shownAll (toPs (ptDs ps))).length = ps.length := by
      rw [shownAll_map, toPs_map, ptDs_map, List.length_map, List.length_map, List.length_map]
    have e : ∀ s : String, (cs s).all (fun c => decide (97 ≤ c) && decide (c ≤ 122)) = true → cl (tupleText [reprText (Str.ofString s), tupleText (PyData.shownAll (toPs (ptDs ps)))]) = 40 :: qt (cs s) ++ [44, 32] ++ (40 :: jn (shs ps) ++ en ps.length) ++ [41] := fun s hs => by
      rw [cl_tuple]
      simp only [List.map_cons, List.map_nil, jn]
      rw [cl_lit hs, cl_tuple, hps, hlen]
      simp [en]
    cases b
    · show cl (tupleText [reprText (Str.ofString "either"), tupleText (PyData.shownAll (toPs (ptDs ps)))]) = _
      rw [e "either" (by decide +kernel), sh]
      rfl
    · show cl (tupleText [reprText (Str.ofString "then"), tupleText (PyData.shownAll (toPs (ptDs ps)))]) = _
      rw [e "then" (by decide +kernel), sh]
      rfl
  · intro ho
    show cl (tupleText [reprText (Str.ofString "many"), (toP (ptD p)).shown]) = _
    rw [cl_tuple]
    simp only [List.map_cons, List.map_nil, jn]
    rw [cl_lit (by decide +kernel), ih fun q hq => ho q (by rw [Pt.all_many]; exact List.mem_cons_of_mem _ hq)]
    simp [sh, en]
/-! the texts' reading -/
theorem split_at {c : Nat} : ∀ {a b x y : List Nat}, c ∉ a → c ∉ b → a ++ c :: x = b ++ c :: y → a = b ∧ x = y
  | [], [], x, y, _, _, h => by simpa using h
  | [], d :: b, x, y, _, hb, h => by
    simp at h
    exact absurd h.1 (fun e => hb (by simp [e]))
  | d :: a, [], x, y, ha, _, h => by
    simp at h
    exact absurd h.1.symm (fun e => ha (by simp [e]))
  | d :: a, e :: b, x, y, ha, hb, h => by
    simp at h
    obtain ⟨h1, h2⟩ := split_at (fun z => ha (by simp [z])) (fun z => hb (by simp [z])) h.2
    exact ⟨by rw [h.1, h1], h2⟩
theorem qt_split {a b : List Nat} {x y : List Nat} (ha : ∀ c ∈ a, Sg c) (hb : ∀ c ∈ b, Sg c) (h : qt a ++ x = qt b ++ y) : a = b ∧ x = y := by
  unfold qt at h
  simp at h
  exact split_at (fun z => by rcases ha _ z with e | e <;> omega) (fun z => by rcases hb _ z with e | e <;> omega) h
def PF (p : Pt) : Prop := ∀ (q : Pt) (x y : List Nat), p.okP Nm → q.okP Nm → sh p ++ x = sh q ++ y → p = q ∧ x = y
theorem sh_ne (p : Pt) : ∃ r, sh p = 40 :: r := by cases p <;> exact ⟨_, by simp [sh]; rfl⟩
theorem jn_split : ∀ {ps qs : List Pt} {x y : List Nat}, (∀ p ∈ ps, PF p ∧ p.okP Nm) → (∀ q ∈ qs, q.okP Nm) → ps ≠ [] → qs ≠ [] → jn (ps.map sh) ++ 41 :: x = jn (qs.map sh) ++ 41 :: y → ps = qs ∧ x = y
  | [], _, _, _, _, _, h, _, _ => absurd rfl h
  | _ :: _, [], _, _, _, _, _, h, _ => absurd rfl h
  | [p], [q], x, y, hp, hq, _, _, h => by
    obtain ⟨h1, h2⟩ := (hp p (by simp)).1 q _ _ (hp p (by simp)).2 (hq q (by simp)) h
    simp at h2
    exact ⟨by rw [h1], h2⟩
  | [p], q :: q2 :: qs, x, y, hp, hq, _, _, h => by
    simp only [List.map_cons, jn_cons, List.map_nil, jn, List.append_assoc] at h
    have := ((hp p (by simp)).1 q _ _ (hp p (by simp)).2 (hq q (by simp)) h).2
    simp at this
  | p :: p2 :: ps, [q], x, y, hp, hq, _, _, h => by
    simp only [List.map_cons, jn_cons, List.map_nil, jn, List.append_assoc] at h
    have := ((hp p (by simp)).1 q _ _ (hp p (by simp)).2 (hq q (by simp)) h).2
    simp at this
  | p :: p2 :: ps, q :: q2 :: qs, x, y, hp, hq, _, _, h => by
    simp only [List.map_cons, jn_cons, List.append_assoc] at h
    obtain ⟨h1, h2⟩ := (hp p (by simp)).1 q _ _ (hp p (by simp)).2 (hq q (by simp)) h
    simp only [List.cons_append, List.nil_append, List.cons.injEq, true_and] at h2
    obtain ⟨h3, h4⟩ := jn_split (ps := p2 :: ps) (qs := q2 :: qs) (fun r hr => hp r (by simp only [List.mem_cons] at hr ⊢; exact .inr hr)) (fun r hr => hq r (by simp only [List.mem_cons] at hr ⊢; exact .inr hr)) (by simp) (by simp) h2
    exact ⟨by rw [h1, h3], h4⟩
theorem row_split {ps qs : List Pt} {x y : List Nat} (hp : ∀ p ∈ ps, PF p ∧ p.okP Nm) (hq : ∀ q ∈ qs, q.okP Nm) (h : jn (ps.map sh) ++ en ps.length ++ x = jn (qs.map sh) ++ en qs.length ++ y) : ps = qs ∧ x = y := by
  match ps, qs with
  | [], [] => exact ⟨rfl, by simpa [jn, en] using h⟩
  | [], q :: qs =>
    obtain ⟨r, hr⟩ := sh_ne q
    cases qs with
    | nil => simp [jn, en, hr] at h
    | cons q2 qs => simp [jn, en, hr] at h
  | p :: ps, [] =>
    obtain ⟨r, hr⟩ := sh_ne p
    cases ps with
    | nil => simp [jn, en, hr] at h
    | cons p2 ps => simp [jn, en, hr] at h
  | [p], [q] =>
    simp only [List.map_cons, List.map_nil, jn, List.length_cons, List.length_nil, en, List.append_assoc] at h
    obtain ⟨h1, h2⟩ := (hp p (by simp)).1 q _ _ (hp p (by simp)).2 (hq q (by simp)) h
    simp at h2
    exact ⟨by rw [h1], h2⟩
  | [p], q :: q2 :: qs =>
    simp only [List.map_cons, jn_cons, List.map_nil, jn, List.length_cons, List.length_nil, en, List.append_assoc] at h
    have := ((hp p (by simp)).1 q _ _ (hp p (by simp)).2 (hq q (by simp)) h).2
    simp at this
  | p :: p2 :: ps, [q] =>
    simp only [List.map_cons, jn_cons, List.map_nil, jn, List.length_cons, List.length_nil, en, List.append_assoc] at h
    have := ((hp p (by simp)).1 q _ _ (hp p (by simp)).2 (hq q (by simp)) h).2
    simp at this
  | p :: p2 :: ps, q :: q2 :: qs =>
    have e : ∀ r : List Pt, ∀ a b, en (a :: b :: r : List Pt).length = [41] := fun r a b => by simp [en]
    rw [e, e, List.append_assoc, List.append_assoc] at h
    exact jn_split hp hq (by simp) (by simp) h
theorem heads : cs "stay" = [115, 116, 97, 121] ∧ cs "step" = [115, 116, 101, 112] ∧ cs "at" = [97, 116] ∧ cs "off" = [111, 102, 102] ∧ cs "then" = [116, 104, 101, 110] ∧ cs "either" = [101, 105, 116, 104, 101, 114] ∧ cs "many" = [109, 97, 110, 121] ∧
    cs "on" = [111, 110] ∧ cs "back" = [98, 97, 99, 107] := by decide +kernel
theorem sh_pf : ∀ p : Pt, PF p := by
  obtain ⟨e1, e2, e3, e4, e5, e6, e7, e8, e9⟩ := heads
  have nw : ∀ {b : Bool} {w : Str}, (Pt.step b w).okP Nm → ∀ c ∈ cl w, Sg c := fun {b w} ho => by
    rcases ho _ (Pt.self_all _) with h | h
    · subst h; exact star_sg
    · exact nm_sg h
  have nmk : ∀ {b : Bool} {w : Str}, (Pt.mark b w).okP Nm → ∀ c ∈ cl w, Sg c := fun {b w} ho => nm_sg (ho _ (Pt.self_all _))
  refine pt_indR ?_ (fun b w => ?_) (fun b m => ?_) (fun b ps ih => ?_) (fun p ih => ?_)
  · intro q x y hp hq h
    cases q with
    | stay => simpa [sh] using h
    | step b' w' => simp [sh, qt, e1, e2] at h
    | mark b' w' => cases b' <;> simp [sh, qt, e1, e3, e4] at h
    | seq b' w' => cases b' <;> simp [sh, qt, e1, e5, e6] at h
    | many w' => simp [sh, qt, e1, e7] at h
  · intro q x y hp hq h
    cases q with
    | stay => simp [sh, qt, e1, e2] at h
    | step b' w' =>
      have e : b = b' ∧ qt (cl w) ++ 41 :: x = qt (cl w') ++ 41 :: y := by cases b <;> cases b' <;> simp [sh, qt, e2, e8, e9] at h ⊢ <;> exact h
      obtain ⟨h1, h2⟩ := qt_split (nw hp) (nw hq) e.2
      simp at h2
      exact ⟨by rw [e.1, cl_inj h1], h2⟩
    | mark b' w' => cases b' <;> simp [sh, qt, e2, e3, e4] at h
    | seq b' w' => cases b' <;> simp [sh, qt, e2, e5, e6] at h
    | many w' => simp [sh, qt, e2, e7] at h
  · intro q x y hp hq h
    cases q with
    | stay => cases b <;> simp [sh, qt, e1, e3, e4] at h
    | step b' w' => cases b <;> simp [sh, qt, e2, e3, e4] at h
    | mark b' w' =>
      have e : b = b' ∧ qt (cl m) ++ 41 :: x = qt (cl w') ++ 41 :: y := by cases b <;> cases b' <;> simp [sh, qt, e3, e4] at h ⊢ <;> exact h
      obtain ⟨h1, h2⟩ := qt_split (nmk hp) (nmk hq) e.2
      simp at h2
      exact ⟨by rw [e.1, cl_inj h1], h2⟩
    | seq b' w' => cases b <;> cases b' <;> simp [sh, qt, e3, e4, e5, e6] at h
    | many w' => cases b <;> simp [sh, qt, e3, e4, e7] at h
  · intro q x y hp hq h
    cases q with
    | stay => cases b <;> simp [sh, qt, e1, e5, e6] at h
    | step b' w' => cases b <;> simp [sh, qt, e2, e5, e6] at h
    | mark b' w' => cases b <;> cases b' <;> simp [sh, qt, e3, e4, e5, e6] at h
    | seq b' qs =>
      have e : b = b' ∧ jn (ps.map sh) ++ en ps.length ++ 41 :: x = jn (qs.map sh) ++ en qs.length ++ 41 :: y := by cases b <;> cases b' <;> simp [sh, qt, e5, e6, shs_map] at h ⊢ <;> exact h
      have okk : ∀ {b : Bool} {ps : List Pt}, (Pt.seq b ps).okP Nm → ∀ p ∈ ps, p.okP Nm := fun {b ps} ho p hp q hq => ho q (by rw [Pt.all_seq, Pt.alls_flat]; exact List.mem_cons_of_mem _ (List.mem_flatMap.mpr ⟨p, hp, hq⟩))
      obtain ⟨h1, h2⟩ := row_split (fun p hm => ⟨ih p hm, okk hp p hm⟩) (okk hq) e.2
      simp at h2
      exact ⟨by rw [e.1, h1], h2⟩
    | many w' => cases b <;> simp [sh, qt, e5, e6, e7] at h
  · intro q x y hp hq h
    cases q with
    | stay => simp [sh, qt, e1, e7] at h
    | step b' w' => simp [sh, qt, e2, e7] at h
    | mark b' w' => cases b' <;> simp [sh, qt, e3, e4, e7] at h
    | seq b' qs => cases b' <;> simp [sh, qt, e5, e6, e7] at h
    | many q =>
      have e : sh p ++ 41 :: x = sh q ++ 41 :: y := by simp [sh, qt, e7] at h ⊢; exact h
      have okk : ∀ {p : Pt}, (Pt.many p).okP Nm → p.okP Nm := fun {p} ho q hq => ho q (by rw [Pt.all_many]; exact List.mem_cons_of_mem _ hq)
      obtain ⟨h1, h2⟩ := ih q _ _ (okk hp) (okk hq) e
      simp at h2
      exact ⟨by rw [h1], h2⟩
end Rq
set_option maxRecDepth 100000
set_option maxHeartbeats 4000000
namespace L64
open PySem PySem.Spec L2
open L63
open Rm
open Rc
open Rq
open Sh hiding N_l_feed N_l_leaf N_l_names N_l_pattern deeps_le deeps_mem r_l_feed r_l_leaf r_l_names r_l_pattern sp_l_leaf sp_l_leaf_mono sp_l_names sp_l_names_mono sp_l_pattern sp_l_pattern_mono t_l_feed t_l_leaf t_l_names t_l_pattern
open Dt hiding nkeys sp_l_feed sp_l_feed_mono toPs_map
/-! K64s: the law's own cutting, with what is known by texts. -/
abbrev Me := List (Pt × Nat × List Nat)
theorem pt_new' {κ α : Type} [DecidableEq κ] {l : List (κ × α)} {k : κ} {v : α} (h : lk l k = none) : pt l k v = l ++ [(k, v)] := by simp [pt, h]
theorem lk_pt' {κ α : Type} [DecidableEq κ] (k k' : κ) (v : α) (l : List (κ × α)) : lk (pt l k v) k' = if k = k' then some v else lk l k' := by
  unfold pt
  split
  · rename_i h
    induction l with
    | nil => cases h
    | cons q l ih =>
      obtain ⟨a, b⟩ := q
      show (if (if a = k then (a, v) else (a, b)).1 = k' then some (if a = k then (a, v) else (a, b)).2 else lk (l.map fun q => if q.1 = k then (q.1, v) else q) k') = if k = k' then some v else (if a = k' then some b else lk l k')
      by_cases c : a = k
      · subst c
        by_cases c2 : a = k'
        · subst c2; simp
        · simp only [if_true, if_neg c2]
          have : ∀ l : List (κ × α), lk (l.map fun q => if q.1 = a then (q.1, v) else q) k' = lk l k' := by
            intro l
            induction l with
            | nil => rfl
            | cons q l ih =>
              obtain ⟨u, w⟩ := q
              show (if (if u = a then (u, v) else (u, w)).1 = k' then some (if u = a then (u, v) else (u, w)).2 else lk (l.map fun q => if q.1 = a then (q.1, v) else q) k') = (if u = k' then some w else lk l k')
              rw [ih]
              by_cases c3 : u = a
              · subst c3; simp [c2]
              · simp [c3]
          exact this l
      · have h : (lk l k).isSome = true := by
          have h : (if a = k then some b else lk l k).isSome = true := h
          rwa [if_neg c] at h
        rw [ih h]
        by_cases c2 : a = k'
        · subst c2
          simp [c, Ne.symm c]
        · simp [c, c2]
  · rename_i h
    induction l with
    | nil => rfl
    | cons q l ih =>
      obtain ⟨a, b⟩ := q
      have h : ¬ (if a = k then some b else lk l k).isSome = true := h
      by_cases c : a = k
      · rw [if_pos c] at h
        exact absurd rfl h
      · rw [if_neg c] at h
        show (if a = k' then some b else lk (l ++ [(k, v)]) k') = if k = k' then some v else (if a = k' then some b else lk l k')
        rw [ih h]
        by_cases c2 : a = k'
        · subst c2
          rw [if_pos rfl, if_neg (Ne.symm c), if_pos rfl]
        · rw [if_neg c2, if_neg c2]
def kt (i : Nat) (t : Pt) : Str := Str.ofString (toString (i : Int)) ++ (toP (ptD t)).shown
def meL (M : Me) : List (Key × D) := M.map fun e => (.inr (kt e.2.1 e.1), .rol (natsD e.2.2))
structure Cx (T : Pt) (L : Ln) (ms : List Str) : Prop where
  hL : OkN ms L
  hn : L.2.length ≤ 20
  hT : T.okP Nm
  hl : T.all.length ≤ 100
  hd : T.deep ≤ 40
structure OkM (T : Pt) (L : Ln) (M : Me) : Prop where
  e : ∀ e ∈ M, e.1 ∈ T.all ∧ e.2.1 ≤ L.2.length ∧ e.2.2.Nodup ∧ ∀ j, j ∈ e.2.2 ↔ F L e.1 e.2.1 j
  nd : (M.map fun e => (e.1, e.2.1)).Nodup
theorem all_trans : ∀ {T t q : Pt}, t ∈ T.all → q ∈ t.all → q ∈ T.all := by
  intro T
  refine pt_ind (P := fun T => ∀ {t q : Pt}, t ∈ T.all → q ∈ t.all → q ∈ T.all) ?_ (fun b w => ?_) (fun b m => ?_) (fun b ps ih => ?_) (fun p ih => ?_) T
  · intro t q h hq; rw [List.mem_singleton.mp (show t ∈ [Pt.stay] from h)] at hq; exact hq
  · intro t q h hq; rw [List.mem_singleton.mp (show t ∈ [Pt.step b w] from h)] at hq; exact hq
  · intro t q h hq; rw [List.mem_singleton.mp (show t ∈ [Pt.mark b m] from h)] at hq; exact hq
  · intro t q h hq
    rw [Pt.all_seq, Pt.alls_flat] at h
    rcases List.mem_cons.mp h with rfl | h
    · exact hq
    · obtain ⟨p, hp, h⟩ := List.mem_flatMap.mp h
      rw [Pt.all_seq, Pt.alls_flat]
      exact List.mem_cons_of_mem _ (List.mem_flatMap.mpr ⟨p, hp, ih p hp h hq⟩)
  · intro t q h hq
    rw [Pt.all_many] at h ⊢
    rcases List.mem_cons.mp h with rfl | h
    · rw [Pt.all_many] at hq; exact hq
    · exact List.mem_cons_of_mem _ (ih h hq)
theorem all_sz : ∀ {T t : Pt}, t ∈ T.all → t.all.length ≤ T.all.length := by
  intro T
  refine pt_ind (P := fun T => ∀ {t : Pt}, t ∈ T.all → t.all.length ≤ T.all.length) ?_ (fun b w => ?_) (fun b m => ?_) (fun b ps ih => ?_) (fun p ih => ?_) T
  · intro t h; rw [List.mem_singleton.mp (show t ∈ [Pt.stay] from h)]; exact Nat.le_refl _
  · intro t h; rw [List.mem_singleton.mp (show t ∈ [Pt.step b w] from h)]; exact Nat.le_refl _
  · intro t h; rw [List.mem_singleton.mp (show t ∈ [Pt.mark b m] from h)]; exact Nat.le_refl _
  · intro t h
    rw [Pt.all_seq, Pt.alls_flat] at h
    rcases List.mem_cons.mp h with rfl | h
    · exact Nat.le_refl _
    · obtain ⟨p, hp, h⟩ := List.mem_flatMap.mp h
      have h1 := ih p hp h
      rw [Pt.all_seq, Pt.alls_flat, List.length_cons]
      have : p.all.length ≤ (ps.flatMap Pt.all).length := by
        obtain ⟨a, c, rfl⟩ := List.append_of_mem hp
        simp
        omega
      omega
  · intro t h
    rw [Pt.all_many] at h ⊢
    rcases List.mem_cons.mp h with rfl | h
    · rw [Pt.all_many]; exact Nat.le_refl _
    · have := ih h
      rw [List.length_cons]
      omega
theorem okp_mem {T t : Pt} (h : T.okP Nm) (ht : t ∈ T.all) : t.okP Nm := fun q hq => h q (all_trans ht hq)
theorem num_sg : ∀ i < 30, ∀ c ∈ cl (Str.ofString (toString ((i : Nat) : Int))), c ≠ 40 := by decide +kernel
theorem num_inj : ∀ i < 30, ∀ j < 30, Str.ofString (toString ((i : Nat) : Int)) = Str.ofString (toString ((j : Nat) : Int)) → i = j := by decide +kernel
theorem num_len : ∀ i < 30, (Str.ofString (toString ((i : Nat) : Int))).length ≤ 2 := by decide +kernel
theorem num_log : ∀ i < 30, (((i : Nat) : Int)).natAbs.log2 < 1920 := by decide +kernel
theorem kt_inj {i j : Nat} {p q : Pt} (hi : i < 30) (hj : j < 30) (hp : p.okP Nm) (hq : q.okP Nm) (h : kt i p = kt j q) : i = j ∧ p = q := by
  have e : cl (kt i p) = cl (kt j q) := by rw [h]
  unfold kt at e
  rw [cl_app, cl_app, cl_shown p hp, cl_shown q hq] at e
  obtain ⟨r, hr⟩ := sh_ne p
  obtain ⟨r', hr'⟩ := sh_ne q
  rw [hr, hr'] at e
  obtain ⟨h1, h2⟩ := split_at (fun z => num_sg i hi _ z rfl) (fun z => num_sg j hj _ z rfl) e
  refine ⟨num_inj i hi j hj (cl_inj h1), (sh_pf p q [] [] hp hq ?_).1⟩
  rw [List.append_nil, List.append_nil, hr, hr', h2]
theorem sh_len : ∀ p : Pt, p.okP Nm → (sh p).length + 2 ≤ 62 * p.all.length := by
  obtain ⟨e1, e2, e3, e4, e5, e6, e7, e8, e9⟩ := heads
  refine pt_ind ?_ (fun b w => ?_) (fun b m => ?_) (fun b ps ih => ?_) (fun p ih => ?_)
  · intro _; simp [sh, qt, e1, Pt.all]
  · intro ho
    have hw : (cl w).length ≤ 8 := by
      rcases ho _ (Pt.self_all _) with h | h
      · subst h; decide +kernel
      · have := h.2.1; simpa [Str.length] using this
    cases b <;> simp [sh, qt, e2, e8, e9, Pt.all] <;> simp at hw <;> omega
  · intro ho
    have hw : (cl m).length ≤ 8 := by
      have := (ho _ (Pt.self_all _)).2.1
      simpa [Str.length] using this
    cases b <;> simp [sh, qt, e3, e4, Pt.all] <;> simp at hw <;> omega
  · intro ho
    have hj : ∀ (qs : List Pt), (∀ q ∈ qs, q ∈ ps) → (jn (qs.map sh)).length ≤ 62 * (qs.flatMap Pt.all).length := by
      intro qs
      induction qs with
      | nil => intro _; exact Nat.zero_le _
      | cons q qs ihq =>
        intro hq
        have h1 := ih q (hq q (by simp)) fun r hr => ho r (by rw [Pt.all_seq, Pt.alls_flat]; exact List.mem_cons_of_mem _ (List.mem_flatMap.mpr ⟨q, hq q (by simp), hr⟩))
        have h2 := ihq fun r hr => hq r (by simp [hr])
        have h3 := Pt.all_pos q
        cases qs with
        | nil => simp [jn]; omega
        | cons q2 qs =>
          rw [List.map_cons, List.map_cons, jn_cons, List.length_append, List.length_append, List.flatMap_cons, List.length_append]
          rw [List.map_cons] at h2
          have e : ([44, 32] : List Nat).length = 2 := rfl
          omega
    have h1 := hj ps fun _ h => h
    have h2 : (en ps.length).length ≤ 2 := by unfold en; split <;> decide
    rw [Pt.all_seq, Pt.alls_flat, List.length_cons]
    have h3 : (qt (if b then cs "then" else cs "either")).length ≤ 8 := by cases b <;> simp [qt, e5, e6]
    rw [sh, shs_map]
    simp only [List.length_append, List.length_cons, List.length_nil]
    omega
  · intro ho
    have h1 := ih fun q hq => ho q (by rw [Pt.all_many]; exact List.mem_cons_of_mem _ hq)
    rw [Pt.all_many, List.length_cons, sh, e7]
    simp only [List.length_append, List.length_cons, List.length_nil, qt]
    omega
theorem shown_len {p : Pt} (h : p.okP Nm) (h1 : p.all.length ≤ 100) : (toP (ptD p)).shown.length ≤ 6200 := by
  have h2 := sh_len p h
  have h3 : (toP (ptD p)).shown.length = (sh p).length := by rw [← cl_shown p h]; simp [Str.length]
  omega
theorem me_len {T : Pt} {L : Ln} {ms : List Str} {M : Me} (c : Cx T L ms) (h : OkM T L M) : M.length ≤ 2100 := by
  have h1 := nodup_sub_len' (ys := T.all.flatMap fun t => (List.range 21).map fun i => (t, i)) h.nd fun x hx => by
    obtain ⟨e, he, rfl⟩ := List.mem_map.mp hx
    have h2 := h.e e he
    have := c.hn
    exact List.mem_flatMap.mpr ⟨e.1, h2.1, List.mem_map.mpr ⟨e.2.1, List.mem_range.mpr (by omega), rfl⟩⟩
  have h2 : ∀ l : List Pt, (l.flatMap fun t => (List.range 21).map fun i => (t, i)).length = 21 * l.length := fun l => by
    induction l with
    | nil => rfl
    | cons a l ih => rw [List.flatMap_cons, List.length_append, ih, List.length_map, List.length_range, List.length_cons]; omega
  rw [h2, List.length_map] at h1
  have := c.hl
  omega
/-- what is known of a pattern at a place -/
theorem lk_me {T : Pt} {L : Ln} {ms : List Str} {t : Pt} {i : Nat} (c : Cx T L ms) (ht : t ∈ T.all) (hi : i ≤ L.2.length) : ∀ {M : Me}, (∀ e ∈ M, e.1 ∈ T.all ∧ e.2.1 ≤ L.2.length) →
    (∃ e ∈ M, e.1 = t ∧ e.2.1 = i ∧ lk (meL M) (.inr (kt i t)) = some (.rol (natsD e.2.2))) ∨ ((t, i) ∉ M.map (fun e => (e.1, e.2.1)) ∧ lk (meL M) (.inr (kt i t)) = none)
  | [], _ => .inr ⟨by simp, rfl⟩
  | e :: M, h => by
    have he := h e (by simp)
    have hn := c.hn
    have e0 : lk (meL (e :: M)) (.inr (kt i t)) = if (.inr (kt e.2.1 e.1) : Key) = .inr (kt i t) then some (.rol (natsD e.2.2)) else lk (meL M) (.inr (kt i t)) := by
      show lk ((_, _) :: meL M) _ = _
      simp only [lk]
    by_cases q : kt e.2.1 e.1 = kt i t
    · obtain ⟨h1, h2⟩ := kt_inj (by omega) (by omega) (okp_mem c.hT he.1) (okp_mem c.hT ht) q
      exact .inl ⟨e, by simp, h2, h1, by rw [e0, if_pos (by rw [q])]⟩
    · rw [e0, if_neg (by simpa using q)]
      rcases lk_me c ht hi (M := M) fun x hx => h x (by simp [hx]) with ⟨x, hx, h1, h2, h3⟩ | ⟨h1, h2⟩
      · exact .inl ⟨x, by simp [hx], h1, h2, h3⟩
      · refine .inr ⟨fun hm => ?_, h2⟩
        rw [List.map_cons] at hm
        rcases List.mem_cons.mp hm with z | hm
        · simp only [Prod.mk.injEq] at z
          exact q (by rw [z.1, z.2])
        · exact h1 hm
theorem pt_me {T : Pt} {L : Ln} {ms : List Str} {M : Me} {t : Pt} {i : Nat} {E : List Nat} (c : Cx T L ms) (h : OkM T L M) (ht : t ∈ T.all) (hi : i ≤ L.2.length) (hn : (t, i) ∉ M.map (fun e => (e.1, e.2.1))) (he : E.Nodup) (hE : ∀ j, j ∈ E ↔ F L t i j) :
    pt (meL M) (.inr (kt i t)) (.rol (natsD E)) = meL (M ++ [(t, i, E)]) ∧ OkM T L (M ++ [(t, i, E)]) := by
  have h0 : lk (meL M) (.inr (kt i t)) = none := by
    rcases lk_me c ht hi (M := M) fun e he => ⟨(h.e e he).1, (h.e e he).2.1⟩ with ⟨x, hx, h1, h2, h3⟩ | ⟨h1, h2⟩
    · exact absurd (List.mem_map.mpr ⟨x, hx, by rw [h1, h2]⟩) hn
    · exact h2
  refine ⟨by rw [pt_new' h0]; simp [meL], fun e hm => ?_, ?_⟩
  · rcases List.mem_append.mp hm with hm | hm
    · exact h.e e hm
    · rw [List.mem_singleton.mp hm]
      exact ⟨ht, hi, he, hE⟩
  · rw [List.map_append]
    refine List.nodup_append.mpr ⟨h.nd, by simp, fun a ha b hb q => ?_⟩
    subst q
    rw [List.mem_singleton.mp hb] at ha
    exact hn ha
theorem pt_me2 {T : Pt} {L : Ln} {ms : List Str} {M : Me} {t : Pt} {i : Nat} {E : List Nat} (c : Cx T L ms) (h : OkM T L M) (ht : t ∈ T.all) (hi : i ≤ L.2.length) (hs : (lk (meL M) (.inr (kt i t))).isSome) (he : E.Nodup) (hE : ∀ j, j ∈ E ↔ F L t i j) :
    ∃ M', pt (meL M) (.inr (kt i t)) (.rol (natsD E)) = meL M' ∧ OkM T L M' := by
  refine ⟨M.map fun e => if kt e.2.1 e.1 = kt i t then (e.1, e.2.1, E) else e, ?_, fun e hm => ?_, ?_⟩
  · unfold pt
    rw [if_pos hs]
    simp only [meL, List.map_map]
    refine List.map_congr_left fun e _ => ?_
    simp only [Function.comp]
    by_cases q : kt e.2.1 e.1 = kt i t
    · simp [q]
    · simp [q]
  · obtain ⟨x, hx, rfl⟩ := List.mem_map.mp hm
    have h1 := h.e x hx
    by_cases q : kt x.2.1 x.1 = kt i t
    · have hn := c.hn
      obtain ⟨g1, g2⟩ := kt_inj (by omega) (by omega) (okp_mem c.hT h1.1) (okp_mem c.hT ht) q
      simp only [q, if_true]
      exact ⟨h1.1, h1.2.1, he, by rw [g1, g2]; exact hE⟩
    · simp only [q, if_false]
      exact h1
  · rw [List.map_map, show List.map ((fun e : Pt × Nat × List Nat => (e.1, e.2.1)) ∘ fun e => if kt e.2.1 e.1 = kt i t then (e.1, e.2.1, E) else e) M = M.map fun e => (e.1, e.2.1) from List.map_congr_left fun e _ => by
      simp only [Function.comp]
      split <;> rfl]
    exact h.nd
def sp_l_ends (k : Nat) : DSp := fun ds S Q _ => ∃ (T t : Pt) (ms : List Str) (L : Ln) (i : Nat) (m : Addr) (M : Me), ds = [ptD t, lnD L, .int (i : Nat), .ref m] ∧ Cx T L ms ∧ t ∈ T.all ∧ i ≤ L.2.length ∧ t.deep ≤ k ∧ k ≤ 10 ∧ OkM T L M ∧ S m = some (.dK (meL M)) ∧
  ∀ (E : List Nat) (M' : Me), E.Nodup → (∀ j, j ∈ E ↔ F L t i j) → OkM T L M' → Q (.rol (natsD E)) (upo S m (.dK (meL M')))
theorem sp_l_ends_mono (k : Nat) : SpMono (sp_l_ends k) := fun ds S Q Q' E E' kk _ ⟨T, t, ms, L, i, m, M, h1, h2, h3, h4, h5, h6, h7, h8, h⟩ => ⟨T, t, ms, L, i, m, M, h1, h2, h3, h4, h5, h6, h7, h8, fun X Y a b c => kk _ _ (h X Y a b c)⟩
def sp_l_ends_anew (k : Nat) : DSp := fun ds S Q _ => ∃ (T t : Pt) (ms : List Str) (L : Ln) (i : Nat) (m : Addr) (M : Me), ds = [ptD t, lnD L, .int (i : Nat), .ref m] ∧ Cx T L ms ∧ t ∈ T.all ∧ i ≤ L.2.length ∧ t.deep ≤ k + 1 ∧ k ≤ 9 ∧ OkM T L M ∧ S m = some (.dK (meL M)) ∧
  ∀ (E : List Nat) (M' : Me), E.Nodup → (∀ j, j ∈ E ↔ F L t i j) → OkM T L M' → Q (.rol (natsD E)) (upo S m (.dK (meL M')))
theorem sp_l_ends_anew_mono (k : Nat) : SpMono (sp_l_ends_anew k) := fun ds S Q Q' E E' kk _ ⟨T, t, ms, L, i, m, M, h1, h2, h3, h4, h5, h6, h7, h8, h⟩ => ⟨T, t, ms, L, i, m, M, h1, h2, h3, h4, h5, h6, h7, h8, fun X Y a b c => kk _ _ (h X Y a b c)⟩
def t_l_ends (spR spM : DSp) : DTS := (dSeq (dAsg (dOp dAddF (dCB cStr (dCons (dVar 2) dNil)) (dCB cRepr (dCons (dVar 0) dNil))) (dGN 4))
    (dSeq (dIf (dTest (dOp (dIn true) (dVar 4) (dVar 3)))
      (dPut (dVar 3) (dVar 4) (dCall spM (dCons (dVar 0) (dCons (dVar 1) (dCons (dVar 2) (dCons (dVar 3) dNil))))))
      dNx)
    (dRet (dOp dIxS (dVar 3) (dVar 4)))))
abbrev N_l_ends : List Str := ["_law_pattern_here", "_law_line_here", "_law_at", "_law_known", "_law_mark"]
def t_l_ends_anew (spR : DSp) : DTS := (dSeq (dIf (dTest (dOp (dEq false) (dOp dIxS (dVar 0) (dC (.int 0))) (dC (.str "stay"))))
      (dRet (dLstF (dCons (dVar 2) dNil)))
      dNx)
    (dSeq (dIf (dTest (dOp (dIn false) (dOp dIxS (dVar 0) (dC (.int 0))) (dTup (dCons (dC (.str "at")) (dCons (dC (.str "off")) dNil)))))
      (dRet (dSlF (dLstF (dCons (dVar 2) dNil)) dNoP (dSoP (dCB cIntS (dCons (dOp (dEq false) (dOp (dIn false) (dOp dIxS (dVar 0) (dC (.int 1))) (dOp dIxS (dOp dIxS (dVar 1) (dC (.int 0))) (dVar 2))) (dOp (dEq false) (dOp dIxS (dVar 0) (dC (.int 0))) (dC (.str "at")))) dNil)))))
      dNx)
    (dSeq (dIf (dTest (dOp (dEq false) (dOp dIxS (dVar 0) (dC (.int 0))) (dC (.str "step"))))
      (dSeq (dAsg (dAndV (dOp rLt (dVar 2) (dCB cLen (dCons (dOp dIxS (dVar 1) (dC (.int 1))) dNil))) (dAndV (dOp (dEq false) (dOp dIxS (dOp dIxS (dOp dIxS (dVar 1) (dC (.int 1))) (dVar 2)) (dC (.int 0))) (dOp dIxS (dVar 0) (dC (.int 1)))) (dOp (dIn false) (dOp dIxS (dVar 0) (dC (.int 2))) (dTup (dCons (dC (.str "*")) (dCons (dOp dIxS (dOp dIxS (dOp dIxS (dVar 1) (dC (.int 1))) (dVar 2)) (dC (.int 1))) dNil)))))) (dGN 4))
    (dRet (dSlF (dLstF (dCons (dOp dAddF (dVar 2) (dC (.int 1))) dNil)) dNoP (dSoP (dCB cIntS (dCons (dVar 4) dNil))))))
      dNx)
    (dSeq (dAsg (dLstF (dCons (dVar 2) dNil)) (dGN 5))
    (dSeq (dIf (dTest (dOp (dEq false) (dOp dIxS (dVar 0) (dC (.int 0))) (dC (.str "many"))))
      (dSeq (dAsg (dC (.int 0)) (dGN 6))
    (dSeq (dWhile (dTest (dOp rLt (dVar 6) (dCB cLen (dCons (dVar 5) dNil))))
      (dSeq (dAsg (dOp dAddF (dVar 5) (dFz (dLc (dSeqI (dCall spR (dCons (dOp dIxS (dVar 0) (dC (.int 1))) (dCons (dVar 1) (dCons (dOp dIxS (dVar 5) (dVar 6)) (dCons (dVar 3) dNil)))))) (dGN 8) (dTest (dOp (dIn true) (dVar 8) (dVar 5))) (dVar 8) [8]))) (dGN 5))
    (dAsg (dOp dAddF (dVar 6) (dC (.int 1))) (dGN 6))))
    (dRet (dVar 5))))
      dNx)
    (dSeq (dAsg (dLstF dNil) (dGN 7))
    (dSeq (dFor (dSeqI (dOp dIxS (dVar 0) (dC (.int 1)))) (dGN 8)
      (dSeq (dIf (dTest (dOp (dEq false) (dOp dIxS (dVar 0) (dC (.int 0))) (dC (.str "then"))))
      (dAsg (dLstF dNil) (dGN 7))
      dNx)
    (dSeq (dFor (dSeqI (dVar 5)) (dGN 9)
      (dAsg (dOp dAddF (dVar 7) (dFz (dLc (dSeqI (dCall spR (dCons (dVar 8) (dCons (dVar 1) (dCons (dVar 9) (dCons (dVar 3) dNil)))))) (dGN 10) (dTest (dOp (dIn true) (dVar 10) (dVar 7))) (dVar 10) [10]))) (dGN 7)))
    (dIf (dTest (dOp (dEq false) (dOp dIxS (dVar 0) (dC (.int 0))) (dC (.str "then"))))
      (dAsg (dVar 7) (dGN 5))
      dNx))))
    (dRet (dIfE (dTest (dOp (dEq false) (dOp dIxS (dVar 0) (dC (.int 0))) (dC (.str "then")))) (dVar 5) (dVar 7))))))))))
abbrev N_l_ends_anew : List Str := ["_law_pattern_here", "_law_line_here", "_law_at", "_law_known", "_law_good", "_law_spots", "_law_k", "_law_behind", "_law_one", "_law_spot", "_law_end"]
theorem r_l_ends (k : Nat) (ds S Q E0) (h : sp_l_ends k ds S Q E0) : t_l_ends (prevSp sp_l_ends k) (prevSp sp_l_ends_anew k) (dEnd Q E0) (dstart N_l_ends ds) S := by
  obtain ⟨T, t, ms, L, i, m, M, rfl, c, ht, hi, hd, hk, oM, hm, h⟩ := h
  unfold t_l_ends
  obtain ⟨k, rfl⟩ : ∃ j, k = j + 1 := ⟨k - 1, by have := dp_pos t; omega⟩
  have hn := c.hn
  have hto := okp_mem c.hT ht
  have htl : t.all.length ≤ 100 := Nat.le_trans (all_sz ht) c.hl
  refine dSeq_gen fun R hR => ?_
  simp [-prevSp, dstart]
  refine ⟨num_log i (by omega), cRepr_rp (pt_Rp hto (by omega) (by omega)) ?_⟩
  have e1 := num_len i (by omega)
  have e2 := shown_len hto htl
  suffices hs : (Str.ofString (toString (i : Int))).length + (toP (ptD t)).shown.length ≤ 16777216 ∧ R (dEnd Q E0) [some (ptD t), some (lnD L), some (.int (i : Nat)), some (.ref m), some (.str (kt i t))] S from hs
  refine ⟨by omega, ?_⟩
  subst hR
  refine dSeqIf_gen fun A1 B1 R hA hB hR => ?_
  have tail : ∀ (E : List Nat) (M' : Me), OkM T L M' → E.Nodup → (∀ j, j ∈ E ↔ F L t i j) → lk (meL M') (.inr (kt i t)) = some (.rol (natsD E)) → R (dEnd Q E0) [some (ptD t), some (lnD L), some (.int (i : Nat)), some (.ref m), some (.str (kt i t))] (upo S m (.dK (meL M'))) := by
    intro X M' h1 h2 h3 h4
    subst hR
    simp [h4]
    exact .same (h X M' h2 h3 h1)
  rcases lk_me c ht hi (M := M) fun e he => ⟨(oM.e e he).1, (oM.e e he).2.1⟩ with ⟨x, hx, h1, h2, h3⟩ | ⟨h1, h2⟩
  · have hx2 := oM.e x hx
    simp [hm, h3]
    subst hB
    simp
    have := tail x.2.2 M oM hx2.2.2.1 (by rw [← h1, ← h2]; exact hx2.2.2.2) h3
    rwa [upo_id hm] at this
  · simp [hm, h2]
    subst hA
    simp [-prevSp]
    refine ⟨T, t, ms, L, i, m, M, rfl, c, ht, hi, hd, by omega, oM, hm, fun X M' a1 a2 a3 => ?_⟩
    simp
    rcases lk_me c ht hi (M := M') fun e he => ⟨(a3.e e he).1, (a3.e e he).2.1⟩ with ⟨x, hx, g1, g2, g3⟩ | ⟨g1, g2⟩
    · obtain ⟨M2, e3, o3⟩ := pt_me2 c a3 ht hi (by rw [g3]; rfl) a1 a2
      have hl : (meL M').length < 16777216 := by have := me_len c a3; simp [meL]; omega
      have := tail X M2 o3 a1 a2 (by rw [← e3, lk_pt']; simp)
      simp [hl, e3]
      exact this
    · obtain ⟨e3, o3⟩ := pt_me c a3 ht hi g1 a1 a2
      have hl : (meL M').length < 16777216 := by have := me_len c a3; simp [meL]; omega
      have := tail X _ o3 a1 a2 (by rw [← e3, lk_pt']; simp)
      simp [hl, e3]
      exact this

theorem ends_innerM {k : Nat} {T : Pt} {ms : List Str} {L : Ln} {q : Pt} {X B0 : List Nat} {a0 : D} {i : Nat} {m : Addr} {M : Me} {x4 x6 x9 x10 : Option D} {R : DTS} {A : DEnds} {S : DH} (c : Cx T L ms) (hq : q ∈ T.all) (hqd : q.deep ≤ k) (hk : k ≤ 10)
    (hX : ∀ x ∈ X, x ≤ L.2.length) (nX : X.Nodup) (nB : B0.Nodup) (hB0 : ∀ x ∈ B0, x ≤ L.2.length) (oM : OkM T L M) (hm : S m = some (.dK (meL M)))
    (h : ∀ (C : List Nat) (M' : Me) (x9 x10 : Option D), C.Nodup → (∀ j, j ∈ C ↔ j ∈ B0 ∨ ∃ s ∈ X, F L q s j) → OkM T L M' → R A [some a0, some (lnD L), some (.int (i : Nat)), some (.ref m), x4, some (.rol (natsD X)), x6, some (.rol (natsD C)), some (ptD q), x9, x10] (upo S m (.dK (meL M')))) :
    dSeq (dFor (dSeqI (dVar 5)) (dGN 9) (dAsg (dOp dAddF (dVar 7) (dFz (dLc (dSeqI (dCall (sp_l_ends k) (dCons (dVar 8) (dCons (dVar 1) (dCons (dVar 9) (dCons (dVar 3) dNil)))))) (dGN 10) (dTest (dOp (dIn true) (dVar 10) (dVar 7))) (dVar 10) [10]))) (dGN 7))) R A
      [some a0, some (lnD L), some (.int (i : Nat)), some (.ref m), x4, some (.rol (natsD X)), x6, some (.rol (natsD B0)), some (ptD q), x9, x10] S := by
  have hn := c.hn
  have hL := c.hL
  refine dSeqFor_gen fun B R hB hR => ?_
  simp
  refine loop_inv (fun j τ S' => ∃ (C : List Nat) (M' : Me) (x9 x10 : Option D), τ = [some a0, some (lnD L), some (.int (i : Nat)), some (.ref m), x4, some (.rol (natsD X)), x6, some (.rol (natsD C)), some (ptD q), x9, x10] ∧ S' = upo S m (.dK (meL M')) ∧ C.Nodup ∧
    (∀ y, y ∈ C ↔ y ∈ B0 ∨ ∃ s ∈ X.take j, F L q s y) ∧ OkM T L M') ⟨B0, M, x9, x10, rfl, (upo_id hm).symm, nB, (fun y => by simp), oM⟩ (fun _ _ _ _ _ => trivial) ?_ ?_
  · rintro j d τ S1 N hd ⟨C, M', x9, x10, rfl, rfl, nC, g, oM'⟩ hN
    have hj : j < X.length := by
      have := (List.getElem?_eq_some_iff.mp hd).1
      simpa using this
    obtain rfl : d = .int (X[j] : Nat) := by simp [hj] at hd; exact hd.symm
    have hC : ∀ y ∈ C, y ≤ L.2.length := fun y hy => by
      rcases (g y).mp hy with hy | ⟨s, hs, hy⟩
      · exact hB0 y hy
      · exact F_in hL.len q s y (hX s (List.mem_of_mem_take hs)) hy
    have hCl := le_bound nC hC
    have hxj : X[j] ≤ L.2.length := hX _ (List.getElem_mem hj)
    subst hB
    simp
    refine ⟨T, q, ms, L, X[j], m, M', rfl, c, hq, hxj, hqd, hk, oM', by simp, fun Y M2 ynd hY o2 => ?_⟩
    have hyl := le_bound ynd fun x h1 => F_in hL.len q _ x hxj ((hY x).mp h1)
    simp
    refine fresh_lc (s := 7) (by simp) rfl (by decide) (by omega) ?_
    have hfl : (Y.filter fun x => decide (x ∉ C)).length ≤ Y.length := List.length_filter_le _ _
    simp [catD]
    refine ⟨by simp at hfl; omega, ?_⟩
    have := fun x9 x10 => hN [some a0, some (lnD L), some (.int (i : Nat)), some (.ref m), x4, some (.rol (natsD X)), x6, some (.rol (natsD (C ++ Y.filter fun x => decide (x ∉ C)))), some (ptD q), x9, x10] (upo S m (.dK (meL M2))) ⟨C ++ Y.filter fun x => decide (x ∉ C), M2, x9, x10, rfl, rfl, ?_, fun y => ?_, o2⟩
    · simp at this
      exact this _ _
    · exact List.nodup_append.mpr ⟨nC, ynd.filter _, fun a ha b hb e => by
        subst e
        have := (List.mem_filter.mp hb).2
        simp at this
        exact this ha⟩
    · rw [List.mem_append, List.mem_filter, hY]
      have tk : ∀ s, s ∈ X.take (j + 1) ↔ s ∈ X.take j ∨ s = X[j] := fun s => take_mem hj
      constructor
      · rintro (h1 | ⟨h1, _⟩)
        · rcases (g y).mp h1 with h1 | ⟨s, h1, h2⟩
          · exact .inl h1
          · exact .inr ⟨s, (tk s).mpr (.inl h1), h2⟩
        · exact .inr ⟨_, (tk _).mpr (.inr rfl), h1⟩
      · rintro (h1 | ⟨s, h1, h2⟩)
        · exact .inl ((g y).mpr (.inl h1))
        · rcases (tk s).mp h1 with h1 | rfl
          · exact .inl ((g y).mpr (.inr ⟨s, h1, h2⟩))
          · by_cases hy : y ∈ C
            · exact .inl hy
            · exact .inr ⟨h2, by simpa using hy⟩
  · rintro τ S1 ⟨C, M', x9, x10, rfl, rfl, nC, g, oM'⟩
    subst hR
    refine h C M' x9 x10 nC (fun y => ?_) oM'
    rw [g, List.take_of_length_le (by simp)]
end L64
set_option maxRecDepth 100000
set_option maxHeartbeats 4000000
namespace L64
open PySem PySem.Spec L2
open L63
open Rm
open Rc
open Rq
open Sh hiding N_l_feed N_l_leaf N_l_names N_l_pattern deeps_le deeps_mem r_l_feed r_l_leaf r_l_names r_l_pattern sp_l_leaf sp_l_leaf_mono sp_l_names sp_l_names_mono sp_l_pattern sp_l_pattern_mono t_l_feed t_l_leaf t_l_names t_l_pattern
open Dt hiding nkeys sp_l_feed sp_l_feed_mono toPs_map
/-! K64t: the ends anew, the whole line. -/
def sp_l_right : DSp := fun ds S Q _ => ∃ (T : Pt) (ms : List Str) (L : Ln), ds = [ptD T, lnD L] ∧ Cx T L ms ∧ T.deep ≤ 10 ∧ ∀ b : Bool, (b = true ↔ Wh L T) → Q (.bl b) S
theorem sp_l_right_mono : SpMono sp_l_right := fun ds S Q Q' E E' kk _ ⟨T, ms, L, h1, h2, h3, h⟩ => ⟨T, ms, L, h1, h2, h3, fun b a => kk _ _ (h b a)⟩
def t_l_right : DTS := (dRet (dOp (dIn false) (dCB cLen (dCons (dOp dIxS (dVar 1) (dC (.int 1))) dNil)) (dCall (sp_l_ends 10) (dCons (dVar 0) (dCons (dVar 1) (dCons (dC (.int 0)) (dCons dDnK dNil)))))))
abbrev N_l_right : List Str := ["_law_pattern_here", "_law_line_here"]
theorem r_l_right (ds S Q E) (h : sp_l_right ds S Q E) : t_l_right (dEnd Q E) (dstart N_l_right ds) S := by
  obtain ⟨T, ms, ⟨M, Tt⟩, rfl, c, hd, h⟩ := h
  unfold t_l_right
  simp [dstart, lnD]
  intro p hp
  refine ⟨T, T, ms, (M, Tt), 0, p, [], rfl, c, Pt.self_all T, Nat.zero_le _, hd, by decide, ⟨fun _ h => (nomatch h), .nil⟩, by simp; rfl, fun X M' a1 a2 a3 => ?_⟩
  have e : decide (D.int ((Tt.length : Nat) : Int) ∈ natsD X) = decide (Tt.length ∈ X) := decide_eq_decide.mpr natsD_mem
  simp
  try refine dInQ_sm (int_sm _ _) (fun e he => natlist_sm X e he) ?_
  try rw [e]
  refine .keep (S := S) (Sub.new hp) (h _ ?_)
  simp only [decide_eq_true_eq]
  exact a2 _
theorem r_l_ends_anew (k : Nat) (ds S Q E) (h : sp_l_ends_anew k ds S Q E) : t_l_ends_anew (sp_l_ends k) (dEnd Q E) (dstart N_l_ends_anew ds) S := by
  obtain ⟨T, t, ms, L, i, m, M, rfl, c, htT, hi, hd, hk, oM, hm, h⟩ := h
  have hL := c.hL
  have hn := c.hn
  unfold t_l_ends_anew
  have hin : ∀ x, F L t i x → x ≤ L.2.length := fun x hx => F_in hL.len t i x hi hx
  have hh0 : ∀ X : List Nat, X.Nodup → (∀ j, j ∈ X ↔ F L t i j) → Q (.rol (natsD X)) S := fun X a b => by
    have := h X M a b oM
    rwa [upo_id hm] at this
  have kidT : ∀ q, q ∈ t.all → q ∈ T.all := fun q hq => all_trans htT hq
  cases t with
  | stay =>
    simp [dstart, ptD]
    exact .same (hh0 [i] (by simp) (fun j => by simp [F]; exact eq_comm))
  | mark b w =>
    obtain ⟨Mk, Ts⟩ := L
    have hl : Mk.length = Ts.length + 1 := hL.len
    have hi' : i < Mk.length := by dsimp only at hi; omega
    have ea : atI (Mk.map fun m => D.tup (strsD m)) (i : Int) = some (.tup (strsD Mk[i])) := atI_nat (by simp [hi'])
    have eg : Mk.getD i [] = Mk[i] := by simp [hi']
    have hF : ∀ j, F (Mk, Ts) (.mark b w) i j ↔ i = j ∧ decide (w ∈ Mk[i]) = b := fun j => by
      show (i = j ∧ decide (w ∈ Mk.getD i []) = b) ↔ _
      rw [eg]
    have hh : ∀ c : Prop, ∀ [Decidable c], (c ↔ decide (w ∈ Mk[i]) = b) → Rt Q (.rol (if c then [.int (i : Nat)] else [])) S := fun c _ hc => by
      have := hh0 (if c then [i] else []) (by split <;> simp) (fun j => by
        rw [hF, ← hc]
        split
        · rename_i g; simp [g]; exact eq_comm
        · rename_i g; simp [g])
      refine .same ?_
      by_cases g : c
      · simpa [g] using this
      · simpa [g] using this
    have b1 : (Str.ofString "off" == Str.ofString "at") = false := by decide +kernel
    refine dSeqIf_gen fun A1 B1 R hA hB hR => ?_
    cases b
    all_goals
      simp [dstart, ptD]
      subst hB
      simp
      subst hR
      refine dSeqIf_gen fun A1 B1 R hA hB hR => ?_
      simp [dstart, ptD, inAO]
      subst hA
      simp [dstart, ptD, lnD, ea, cut_if, inF_strsC, b1]
      first | exact hh _ (by simp) | simpa using hh (¬ w ∈ Mk[i]) (by simp)
  | step b w =>
    obtain ⟨Mk, Ts⟩ := L
    have b1 : (Str.ofString "back" == Str.ofString "on") = false := by decide +kernel
    have b2 : (Str.ofString "on" == Str.ofString "back") = false := by decide +kernel
    have hh : ∀ c : Prop, ∀ [Decidable c], (c ↔ ∃ t, Ts[i]? = some t ∧ t.1 = b ∧ (w = "*" ∨ w = t.2)) → Rt Q (.rol (if c then [.int ((i : Int) + 1)] else [])) S := fun c _ hc => by
      have := hh0 (if c then [i + 1] else []) (by split <;> simp) (fun j => by
        show _ ↔ j = i + 1 ∧ _
        rw [← hc]
        split
        · rename_i g; simp [g]
        · rename_i g; simp [g])
      refine .same ?_
      by_cases g : c
      · simpa [g] using this
      · simpa [g] using this
    refine dSeqIf_gen fun A1 B1 R hA hB hR => ?_
    cases b
    all_goals
      simp [dstart, ptD]
      subst hB
      simp
      subst hR
      refine dSeqIf_gen fun A1 B1 R hA hB hR => ?_
      simp [dstart, ptD, inAO]
      subst hB
      simp
      subst hR
      refine dSeqIf_gen fun A1 B1 R hA hB hR => ?_
      simp [dstart, ptD]
      subst hA
      by_cases c : i < Ts.length
      · have ea : atI (Ts.map fun t => D.tup [D.str (if t.1 = true then "on" else "back"), D.str t.2]) (i : Int) = some (.tup [.str (if Ts[i].1 = true then "on" else "back"), .str Ts[i].2]) := atI_nat (by simp [c])
        have eT : Ts[i]? = some Ts[i] := by simp [c]
        rw [eT] at hh
        generalize Ts[i] = tt at ea hh
        obtain ⟨sb, sw⟩ := tt
        simp [dstart, ptD, lnD, c, ea]
        cases sb
        all_goals
          simp [b1, b2]
          first
          | (rw [show cutD [D.int ((i : Int) + 1)] none (some 0) = [] from cutD_take _ 0]; simpa using hh False (by simp))
          | (rw [cut_if, show ([D.str "*", D.str sw] : List D) = strsD ["*", sw] from rfl, inF_strsC]; simpa using hh (w = "*" ∨ w = sw) (by simp))
      · simp [dstart, ptD, lnD, c]
        rw [show cutD [D.int ((i : Int) + 1)] none (some 0) = [] from cutD_take _ 0]
        simpa using hh False (iff_of_false id (by rintro ⟨t, e, _⟩; exact absurd (List.getElem?_eq_some_iff.mp e).1 c))
  | seq b ps =>
    rw [Pt.deep_seq] at hd
    have hps : ∀ q ∈ ps, q.deep ≤ k ∧ q ∈ T.all := fun q hq => ⟨by have := deeps_mem hq; omega, kidT q (by rw [Pt.all_seq, Pt.alls_flat]; exact List.mem_cons_of_mem _ (List.mem_flatMap.mpr ⟨q, hq, Pt.self_all q⟩))⟩
    cases b
    all_goals
      refine dSeqIf_gen fun A1 B1 R hA hB hR => ?_
      simp [dstart, ptD]
      subst hB
      simp
      subst hR
      refine dSeqIf_gen fun A1 B1 R hA hB hR => ?_
      simp [dstart, ptD, inAO]
      subst hB
      simp
      subst hR
      refine dSeqIf_gen fun A1 B1 R hA hB hR => ?_
      simp [dstart, ptD]
      subst hB
      simp
      subst hR
      refine dSeq_gen fun R hR => ?_
      simp
      subst hR
      refine dSeqIf_gen fun A1 B1 R hA hB hR => ?_
      simp [dstart, ptD]
      subst hB
      simp
      subst hR
      refine dSeq_gen fun R hR => ?_
      simp
      subst hR
      refine dSeqFor_gen fun B R hB hR => ?_
      simp
    · refine loop_inv (fun j τ S' => ∃ (C : List Nat) (M' : Me) (x8 x9 x10 : Option D), τ = [some (ptD (.seq false ps)), some (lnD L), some (.int (i : Nat)), some (.ref m), none, some (.rol (natsD [i])), none, some (.rol (natsD C)), x8, x9, x10] ∧ S' = upo S m (.dK (meL M')) ∧ C.Nodup ∧
        (∀ y, y ∈ C ↔ ∃ p ∈ ps.take j, F L p i y) ∧ OkM T L M') ⟨[], M, none, none, none, rfl, (upo_id hm).symm, .nil, (fun y => by simp), oM⟩ (fun _ _ _ _ _ => trivial) ?_ ?_
      · rintro j d τ S1 N hd' ⟨C, M', x8, x9, x10, rfl, rfl, nC, g, oM'⟩ hN
        have hj : j < ps.length := by
          have h1 := (List.getElem?_eq_some_iff.mp hd').1
          rwa [ptDs_len] at h1
        rw [ptDs_at hj] at hd'
        cases hd'
        have hq := hps _ (List.getElem_mem hj)
        subst hB
        refine dSeqIf_gen fun A1 B1 R' hA hB hR' => ?_
        simp [ptD]
        subst hB
        simp
        subst hR'
        have hCin : ∀ x ∈ C, x ≤ L.2.length := fun x hx => by
          obtain ⟨p, hp, hx⟩ := (g x).mp hx
          exact F_in hL.len p i x hi hx
        refine ends_innerM (X := [i]) c hq.2 hq.1 (by omega) (fun x hx => by rw [List.mem_singleton.mp hx]; exact hi) (by simp) nC hCin oM' (by simp) fun C' M2 x9' x10' nC' g' o2 => ?_
        simp
        refine hN _ _ ⟨C', M2, _, _, _, rfl, rfl, nC', fun y => ?_, o2⟩
        rw [g', g]
        have tk : ∀ s, s ∈ ps.take (j + 1) ↔ s ∈ ps.take j ∨ s = ps[j] := fun s => take_mem hj
        constructor
        · rintro (⟨p, h1, h2⟩ | ⟨s, h1, h2⟩)
          · exact ⟨p, (tk p).mpr (.inl h1), h2⟩
          · rw [List.mem_singleton.mp h1] at h2
            exact ⟨_, (tk _).mpr (.inr rfl), h2⟩
        · rintro ⟨p, h1, h2⟩
          rcases (tk p).mp h1 with h1 | rfl
          · exact .inl ⟨p, h1, h2⟩
          · exact .inr ⟨i, List.mem_singleton.mpr rfl, h2⟩
      · rintro τ S1 ⟨C, M', x8, x9, x10, rfl, rfl, nC, g, oM'⟩
        subst hR
        simp [ptD]
        exact .same (h C M' nC (fun y => by rw [g, ptDs_len, List.take_length]; exact Fo_iff.symm) oM')
    · refine loop_inv (fun j τ S' => ∃ (X C : List Nat) (M' : Me) (x8 x9 x10 : Option D), τ = [some (ptD (.seq true ps)), some (lnD L), some (.int (i : Nat)), some (.ref m), none, some (.rol (natsD X)), none, some (.rol (natsD C)), x8, x9, x10] ∧ S' = upo S m (.dK (meL M')) ∧ X.Nodup ∧
        (∀ y, y ∈ X ↔ Fs L (ps.take j) i y) ∧ OkM T L M') ⟨[i], [], M, none, none, none, rfl, (upo_id hm).symm, by simp, (fun y => by simp [Fs]; exact eq_comm), oM⟩ (fun _ _ _ _ _ => trivial) ?_ ?_
      · rintro j d τ S1 N hd' ⟨X, C, M', x8, x9, x10, rfl, rfl, nX, g, oM'⟩ hN
        have hj : j < ps.length := by
          have h1 := (List.getElem?_eq_some_iff.mp hd').1
          rwa [ptDs_len] at h1
        rw [ptDs_at hj] at hd'
        cases hd'
        have hq := hps _ (List.getElem_mem hj)
        subst hB
        refine dSeqIf_gen fun A1 B1 R' hA hB hR' => ?_
        simp [ptD]
        subst hA
        simp
        subst hR'
        have hXin : ∀ x ∈ X, x ≤ L.2.length := fun x hx => by
          have h1 : F L (.seq true (ps.take j)) i x := (g x).mp hx
          exact F_in hL.len _ i x hi h1
        refine ends_innerM (B0 := []) c hq.2 hq.1 (by omega) hXin nX .nil (fun x hx => nomatch hx) oM' (by simp) fun C' M2 x9' x10' nC' g' o2 => ?_
        simp
        refine hN _ _ ⟨C', C', M2, _, _, _, rfl, rfl, nC', fun y => ?_, o2⟩
        rw [g', List.take_succ, List.getElem?_eq_getElem hj]
        simp only [List.not_mem_nil, false_or, Option.toList_some]
        rw [Fs_app]
        constructor
        · rintro ⟨s, h1, h2⟩
          exact ⟨s, (g s).mp h1, y, h2, rfl⟩
        · rintro ⟨s, h1, y', h2, h3⟩
          have h3 : y' = y := h3
          subst h3
          exact ⟨s, (g s).mpr h1, h2⟩
      · rintro τ S1 ⟨X, C, M', x8, x9, x10, rfl, rfl, nX, g, oM'⟩
        subst hR
        simp [ptD]
        exact .same (h X M' nX (fun y => by rw [g, ptDs_len, List.take_length]; exact Iff.rfl) oM')
  | many q =>
    rw [Pt.deep_many] at hd
    have hqT : q ∈ T.all := kidT q (by rw [Pt.all_many]; exact List.mem_cons_of_mem _ (Pt.self_all q))
    refine dSeqIf_gen fun A1 B1 R hA hB hR => ?_
    simp [dstart, ptD]
    subst hB
    simp
    subst hR
    refine dSeqIf_gen fun A1 B1 R hA hB hR => ?_
    simp [dstart, ptD, inAO]
    subst hB
    simp
    subst hR
    refine dSeqIf_gen fun A1 B1 R hA hB hR => ?_
    simp [dstart, ptD]
    subst hB
    simp
    subst hR
    refine dSeq_gen fun R hR => ?_
    simp
    subst hR
    refine dSeqIf_gen fun A1 B1 R hA hB hR => ?_
    simp [dstart, ptD]
    clear hB hR
    subst hA
    refine dSeq_gen fun R1 hR1 => ?_
    simp
    subst hR1
    refine dSeqWhile_gen fun B R2 hB hR2 => ?_
    have bnd : ∀ X : List Nat, X.Nodup → (∀ x ∈ X, St (F L q) i x) → X.length ≤ 1001 := fun X nd hx => by
      have := nodup_sub_len' (ys := List.range (L.2.length + 1)) nd fun x h1 => List.mem_range.mpr (by have := hin x (hx x h1); omega)
      rw [List.length_range] at this
      omega
    refine while_inv (fun τ S' => ∃ (X : List Nat) (c : Nat) (M' : Me) (x8 : Option D), τ = [some (ptD (.many q)), some (lnD L), some (.int (i : Nat)), some (.ref m), none, some (.rol (natsD X)), some (.int (c : Nat)), none, x8, none, none] ∧ S' = upo S m (.dK (meL M')) ∧
        X.Nodup ∧ i ∈ X ∧ (∀ x ∈ X, St (F L q) i x) ∧ (∀ j (hj : j < X.length), j < c → ∀ y, F L q X[j] y → y ∈ X) ∧ c ≤ X.length ∧ OkM T L M')
      (fun (τ : DSt) _ => match τ[6]? with | some (some (D.int j)) => (200000 - j).toNat | _ => 0) ⟨[i], 0, M, none, rfl, (upo_id hm).symm, by simp, by simp, (fun x hx => by rw [List.mem_singleton.mp hx]; exact .nil _), (fun j _ hj => by omega), Nat.zero_le _, oM⟩ ?_
    rintro τ S2 N ⟨X, cc, M', x8, rfl, rfl, nd, ix, g1, g2, g3, oM'⟩ hN
    have hX := bnd X nd g1
    by_cases hc : cc < X.length
    · have ea : atI (natsD X) (cc : Int) = some (.int (X[cc] : Nat)) := atI_nat (by simp [hc])
      subst hB
      simp [hc, ptD, ea]
      have hxc : St (F L q) i X[cc] := g1 _ (List.getElem_mem hc)
      refine ⟨T, q, ms, L, X[cc], m, M', rfl, c, hqT, hin _ hxc, by omega, by omega, oM', by simp, fun Y M2 ynd hY o2 => ?_⟩
      have hyl : Y.length ≤ 1001 := by
        have := nodup_sub_len' (ys := List.range (L.2.length + 1)) ynd fun x h1 => List.mem_range.mpr (by have := F_in hL.len q X[cc] x (hin _ hxc) ((hY x).mp h1); omega)
        rw [List.length_range] at this
        omega
      simp
      refine fresh_lc (s := 5) (by simp) rfl (by decide) (by omega) ?_
      have hfl : (Y.filter fun x => decide (x ∉ X)).length ≤ 1001 := Nat.le_trans (List.length_filter_le _ _) hyl
      simp [catD]
      refine ⟨by simp at hfl; omega, ?_⟩
      have := hN [some (ptD (.many q)), some (lnD L), some (.int (i : Nat)), some (.ref m), none, some (.rol (natsD (X ++ Y.filter fun x => decide (x ∉ X)))), some (.int ((cc + 1 : Nat) : Int)), none, x8, none, none] (upo S m (.dK (meL M2))) ⟨X ++ Y.filter fun x => decide (x ∉ X), cc + 1, M2, x8, rfl, rfl, ?_, List.mem_append_left _ ix, fun x hx => ?_, fun j hj hjc y hy => ?_, by simp; omega, o2⟩ (by simp; omega)
      · simpa [ptD] using this
      · exact List.nodup_append.mpr ⟨nd, ynd.filter _, fun a ha b hb e => by
          subst e
          have := (List.mem_filter.mp hb).2
          simp at this
          exact this ha⟩
      · rcases List.mem_append.mp hx with hx | hx
        · exact g1 x hx
        · exact hxc.snoc ((hY x).mp (List.mem_filter.mp hx).1)
      · have hjx : j < X.length := by omega
        rw [List.getElem_append_left hjx] at hy
        by_cases e : j < cc
        · exact List.mem_append_left _ (g2 j hjx e y hy)
        · have e : j = cc := by omega
          subst e
          by_cases hyx : y ∈ X
          · exact List.mem_append_left _ hyx
          · exact List.mem_append_right _ (List.mem_filter.mpr ⟨(hY y).mpr hy, by simpa using hyx⟩)
    · have ec : cc = X.length := by omega
      subst hR2
      simp [hc]
      refine .same (h X M' nd (fun y => ⟨fun hy => g1 y hy, fun hy => ?_⟩) oM')
      have hy' : St (F L q) i y := hy
      have go : ∀ a b, St (F L q) a b → a ∈ X → b ∈ X := fun a b s => by
        induction s with
        | nil => exact id
        | cons r _ ih =>
          intro ha
          obtain ⟨j, hj, e⟩ := List.getElem_of_mem ha
          exact ih (g2 j hj (by omega) _ (by rw [e]; exact r))
      exact go i y hy' ix
end L64
set_option maxRecDepth 100000
set_option maxHeartbeats 4000000
namespace L63
open PySem PySem.Spec L2
open Rc
open Sh hiding N_l_feed N_l_leaf N_l_names N_l_pattern deeps_le deeps_mem r_l_feed r_l_leaf r_l_names r_l_pattern sp_l_leaf sp_l_leaf_mono sp_l_names sp_l_names_mono sp_l_pattern sp_l_pattern_mono t_l_feed t_l_leaf t_l_names t_l_pattern
open Dt hiding nkeys sp_l_feed sp_l_feed_mono
/-! K63t: the law. -/
def sp_l_right : DSp := fun ds S Q _ => ∃ (t : Pt) (ms : List Str) (L : Ln), ds = [ptD t, lnD L] ∧ OkN ms L ∧ L.2.length ≤ 1000 ∧ t.deep ≤ 5 ∧ (∀ q ∈ t.all, q.kids.length ≤ 1000) ∧ ∀ b : Bool, (b = true ↔ Wh L t) → Q (.bl b) S
theorem sp_l_right_mono : SpMono sp_l_right := fun ds S Q Q' E E' kk _ ⟨t, ms, L, h1, h2, h3, h4, h5, h⟩ => ⟨t, ms, L, h1, h2, h3, h4, h5, fun b a => kk _ _ (h b a)⟩
def sp_l_all (k : Nat) : DSp := fun ds S Q _ => ∃ t : Pt, ds = [ptD t] ∧ t.deep ≤ k + 1 ∧ t.all.length ≤ 100000 ∧ Q (.rol (ptDs t.all)) S
theorem sp_l_all_mono (k : Nat) : SpMono (sp_l_all k) := fun ds S Q Q' E E' kk _ ⟨t, h1, h2, h3, h⟩ => ⟨t, h1, h2, h3, kk _ _ h⟩
def kinds : List Str := ["stay", "step", "at", "off"]
def cntD (t : Pt) : List D := .int (t.all.length : Nat) :: kinds.map fun s => .int (((t.all.map hd).count s : Nat) : Int)
def sp_l_counts : DSp := fun ds S Q _ => ∃ t : Pt, ds = [ptD t] ∧ t.deep ≤ 5 ∧ t.all.length ≤ 1000 ∧ Q (.rol (cntD t)) S
def sp_l_back : DSp := fun ds S Q _ => ∃ (L : Ln), ds = [lnD L] ∧ L.1.length ≤ 2000 ∧ L.2.length ≤ 1000 ∧ Q (lnD (bkL L)) S
theorem ptD_hd (p : Pt) : ∃ r, ptD p = .tup (.str (hd p) :: r) := by
  cases p with
  | stay => exact ⟨_, rfl⟩
  | step b w => exact ⟨_, rfl⟩
  | mark b m => cases b <;> exact ⟨_, rfl⟩
  | seq b ps => cases b <;> exact ⟨_, rfl⟩
  | many q => exact ⟨_, rfl⟩
def sp_law : DSp := fun ds S Q _ => ∃ ns : List Int, ds = [.rol (ns.map D.int)] ∧ ns.length ≤ 63 ∧ ∀ S', Q (.bl true) S'
theorem sp_law_mono : SpMono sp_law := fun ds S Q Q' E E' k _ ⟨ns, h1, h2, h⟩ => ⟨ns, h1, h2, fun S' => k _ _ (h S')⟩
def t_l_back : DTS := (dSeq (dAsg (dDisp [("on", (dC (.str "back"))), ("back", (dC (.str "on")))]) (dGN 1))
    (dRet (dTup (dCons (dRevLF (dOp dIxS (dVar 0) (dC (.int 0)))) (dCons (dFz (dLc (dSeqI (dRevLF (dOp dIxS (dVar 0) (dC (.int 1))))) (dGTup 2 (dGCons (dGN 2) (dGCons (dGN 3) dGNil))) dYes (dTup (dCons (dOp dIxS (dVar 1) (dVar 2)) (dCons (dVar 3) dNil))) [2, 3])) dNil)))))
abbrev N_l_back : List Str := ["_law_line_here", "_law_other", "_law_side", "_law_word"]
def t_l_all (spR : DSp) : DTS := (dSeq (dAsg (dLstF (dCons (dVar 0) dNil)) (dGN 1))
    (dSeq (dIf (dTest (dOp (dEq false) (dOp dIxS (dVar 0) (dC (.int 0))) (dC (.str "many"))))
      (dAsg (dOp dAddF (dVar 1) (dCall spR (dCons (dOp dIxS (dVar 0) (dC (.int 1))) dNil))) (dGN 1))
      dNx)
    (dSeq (dIf (dTest (dOp (dIn false) (dOp dIxS (dVar 0) (dC (.int 0))) (dTup (dCons (dC (.str "then")) (dCons (dC (.str "either")) dNil)))))
      (dFor (dSeqI (dOp dIxS (dVar 0) (dC (.int 1)))) (dGN 2)
      (dAsg (dOp dAddF (dVar 1) (dCall spR (dCons (dVar 2) dNil))) (dGN 1)))
      dNx)
    (dRet (dVar 1)))))
abbrev N_l_all : List Str := ["_law_pattern_here", "_law_found", "_law_one"]
def t_l_right : DTS := (dRet (dOp (dIn false) (dCB cLen (dCons (dOp dIxS (dVar 1) (dC (.int 1))) dNil)) (dCall (sp_l_ends 4) (dCons (dVar 0) (dCons (dVar 1) (dCons (dC (.int 0)) dNil))))))
abbrev N_l_right : List Str := ["_law_pattern_here", "_law_line_here"]
def t_l_counts : DTS := (dSeq (dAsg (dFz (dLc (dSeqI (dCall (sp_l_all 4) (dCons (dVar 0) dNil))) (dGN 2) dYes (dOp dIxS (dVar 2) (dC (.int 0))) [2])) (dGN 1))
    (dRet (dOp dAddF (dLstF (dCons (dCB cLen (dCons (dVar 1) dNil)) dNil)) (dFz (dLc (dSeqI (dLstF (dCons (dC (.str "stay")) (dCons (dC (.str "step")) (dCons (dC (.str "at")) (dCons (dC (.str "off")) dNil)))))) (dGN 3) dYes (dBM "list" mCount (dVar 1) (dCons (dVar 3) dNil)) [3])))))
abbrev N_l_counts : List Str := ["_law_pattern_here", "_law_heads", "_law_one", "_law_sort"]
def t_law : DTS := (dSeq (dAsg (dCall sp_l_feed (dCons (dVar 0) dNil)) (dGN 1))
    (dSeq (dAsg (dCall sp_l_names (dCons (dVar 1) (dCons (dOp dAddF (dC (.int 1)) (dCall sp_l_draw (dCons (dVar 1) (dCons (dC (.int 3)) dNil)))) dNil))) (dGN 2))
    (dSeq (dAsg (dCall sp_l_names (dCons (dVar 1) (dCons (dCall sp_l_draw (dCons (dVar 1) (dCons (dC (.int 3)) dNil))) dNil))) (dGN 3))
    (dSeq (dAsg (dCall (sp_l_pattern 4) (dCons (dVar 1) (dCons (dVar 2) (dCons (dVar 3) (dCons (dLst (dCons (dOp dAddF (dC (.int 1)) (dCall sp_l_draw (dCons (dVar 1) (dCons (dC (.int 8)) dNil)))) dNil)) (dCons (dC (.int 4)) dNil)))))) (dGN 4))
    (dSeq (dAsg (dCall (sp_backwards 4) (dCons (dVar 4) dNil)) (dGN 5))
    (dSeq (dIf (dOr (dNot (dTest (dCall sp_is_pattern (dCons (dVar 5) dNil)))) (dTest (dOp (dEq true) (dCall sp_l_counts (dCons (dVar 5) dNil)) (dCall sp_l_counts (dCons (dVar 4) dNil)))))
      (dRet (dC (.bl false)))
      dNx)
    (dSeq (dAsg (dCall (sp_backwards 4) (dCons (dVar 5) dNil)) (dGN 6))
    (dSeq (dIf (dNot (dTest (dCall sp_is_pattern (dCons (dVar 6) dNil))))
      (dRet (dC (.bl false)))
      dNx)
    (dSeq (dFor (dRng1 (dCons (dOp dAddF (dC (.int 8)) (dCall sp_l_draw (dCons (dVar 1) (dCons (dC (.int 33)) dNil)))) dNil)) (dGN 7)
      (dSeq (dAsg (dCall sp_l_line (dCons (dVar 1) (dCons (dVar 4) (dCons (dVar 2) (dCons (dVar 3) dNil))))) (dGN 8))
    (dSeq (dAsg (dCall sp_l_right (dCons (dVar 4) (dCons (dVar 8) dNil))) (dGN 9))
    (dSeq (dIf (dOr (dTest (dOp (dEq true) (dCall sp_l_right (dCons (dVar 5) (dCons (dCall sp_l_back (dCons (dVar 8) dNil)) dNil))) (dVar 9))) (dTest (dOp (dEq true) (dCall sp_l_right (dCons (dVar 6) (dCons (dVar 8) dNil))) (dVar 9))))
      (dRet (dC (.bl false)))
      dNx)
    (dSeq (dAsg (dCall sp_l_line (dCons (dVar 1) (dCons (dVar 5) (dCons (dVar 2) (dCons (dVar 3) dNil))))) (dGN 8))
    (dIf (dTest (dOp (dEq true) (dCall sp_l_right (dCons (dVar 5) (dCons (dVar 8) dNil))) (dCall sp_l_right (dCons (dVar 4) (dCons (dCall sp_l_back (dCons (dVar 8) dNil)) dNil)))))
      (dRet (dC (.bl false)))
      dNx))))))
    (dRet (dC (.bl true))))))))))))
abbrev N_law : List Str := ["_law_script", "_law_feed_here", "_law_words", "_law_marks", "_law_pattern_here", "_law_found", "_law_again", "_law_k", "_law_line_here", "_law_due"]
theorem r_l_right (ds S Q E) (h : sp_l_right ds S Q E) : t_l_right (dEnd Q E) (dstart N_l_right ds) S := by
  obtain ⟨t, ms, L, rfl, hL, hn, hd, hf, h⟩ := h
  obtain ⟨M, T⟩ := L
  simp [t_l_right, dstart, lnD]
  refine ⟨t, ms, (M, T), 0, rfl, hL, hn, Nat.zero_le _, hd, hf, fun X nX hX => ?_⟩
  have e : decide (D.int ((T.length : Nat) : Int) ∈ natsD X) = decide (T.length ∈ X) := decide_eq_decide.mpr natsD_mem
  have fin : Rt Q (.bl (decide (T.length ∈ X))) S := .same (h _ (by rw [decide_eq_true_eq, hX]; exact Iff.rfl))
  simp
  first
  | exact fin
  | (refine dInQ_sm (int_sm _ _) (fun e he => natlist_sm X e he) ?_
     rw [e]
     simp only [Bool.false_eq_true, ↓reduceIte]
     exact fin)
theorem r_l_all (k : Nat) (ds S Q E) (h : sp_l_all k ds S Q E) : t_l_all (prevSp sp_l_all k) (dEnd Q E) (dstart N_l_all ds) S := by
  obtain ⟨t, rfl, hd, ha, h⟩ := h
  have i1 : inF (.str (Str.ofString "then")) [.str (Str.ofString "then"), .str (Str.ofString "either")] = true ∧ inF (.str (Str.ofString "either")) [.str (Str.ofString "then"), .str (Str.ofString "either")] = true ∧
    inF (.str (Str.ofString "stay")) [.str (Str.ofString "then"), .str (Str.ofString "either")] = false ∧ inF (.str (Str.ofString "step")) [.str (Str.ofString "then"), .str (Str.ofString "either")] = false ∧
    inF (.str (Str.ofString "at")) [.str (Str.ofString "then"), .str (Str.ofString "either")] = false ∧ inF (.str (Str.ofString "off")) [.str (Str.ofString "then"), .str (Str.ofString "either")] = false ∧
    inF (.str (Str.ofString "many")) [.str (Str.ofString "then"), .str (Str.ofString "either")] = false := by decide +kernel
  unfold t_l_all
  refine dSeq_gen fun R hR => ?_
  simp [-prevSp, dstart]
  subst hR
  refine dSeqIf_gen fun A1 B1 R hA hB hR => ?_
  cases t with
  | many q =>
    rw [Pt.deep_many] at hd
    rw [Pt.all_many, List.length_cons] at ha
    obtain ⟨m, rfl⟩ : ∃ m, k = m + 1 := ⟨k - 1, by have : 1 ≤ q.deep := by { cases q <;> simp [Pt.deep] }; omega⟩
    simp [-prevSp, ptD]
    subst hA
    simp [-prevSp, catD]
    refine ⟨q, rfl, by omega, by omega, ?_⟩
    simp [ptDs_len]
    refine ⟨by omega, ?_⟩
    subst hR
    simp [i1]
    exact .same h
  | seq b ps =>
    rw [Pt.deep_seq] at hd
    rw [Pt.all_seq, List.length_cons, Pt.alls_flat] at ha
    have hps : ∀ q ∈ ps, q.deep ≤ k := fun q hq => by have := deeps_mem hq; omega
    cases b
    all_goals
      simp [-prevSp, ptD]
      subst hB
      simp
      subst hR
      refine dSeqIf_gen fun A1 B1 R hA hB hR => ?_
      simp [i1]
      subst hA
      refine dFor_gen fun B hB => ?_
      simp
    · refine loop_inv (fun j τ S' => ∃ x2 : Option D, τ = [some (ptD (.seq false ps)), some (.rol (ptDs (.seq false ps :: (ps.take j).flatMap Pt.all))), x2] ∧ S' = S) ⟨none, rfl, rfl⟩ (fun _ _ _ _ _ => trivial) ?_ ?_
      · rintro j d τ S1 N hd' ⟨x2, rfl, rfl⟩ hN
        have hj : j < ps.length := by
          have h1 := (List.getElem?_eq_some_iff.mp hd').1
          rwa [ptDs_len] at h1
        rw [ptDs_at hj] at hd'
        cases hd'
        have hq := hps _ (List.getElem_mem hj)
        obtain ⟨m, rfl⟩ : ∃ m, k = m + 1 := ⟨k - 1, by have : 1 ≤ ps[j].deep := by { cases ps[j] <;> simp [Pt.deep] }; omega⟩
        have hle : ((ps.take (j + 1)).flatMap Pt.all).length ≤ (ps.flatMap Pt.all).length := by
          conv => rhs; rw [← List.take_append_drop (j + 1) ps, List.flatMap_append, List.length_append]
          omega
        have tk : (ps.take (j + 1)).flatMap Pt.all = (ps.take j).flatMap Pt.all ++ ps[j].all := by
          rw [List.take_succ, List.getElem?_eq_getElem hj, List.flatMap_append]
          simp
        rw [tk, List.length_append] at hle
        subst hB
        simp [-prevSp, catD]
        refine ⟨ps[j], rfl, by omega, by omega, ?_⟩
        have e1 := ptDs_len (Pt.seq false ps :: (ps.take j).flatMap Pt.all)
        have e2 := ptDs_len ps[j].all
        rw [List.length_cons] at e1
        refine ⟨by omega, ?_⟩
        refine hN _ _ ⟨some (ptD ps[j]), ?_, rfl⟩
        rw [tk, ← ptDs_app]
        rfl
      · rintro τ S1 ⟨x2, rfl, rfl⟩
        rw [ptDs_len, List.take_length, ← Pt.alls_flat]
        subst hR
        simp
        exact .same h
    · refine loop_inv (fun j τ S' => ∃ x2 : Option D, τ = [some (ptD (.seq true ps)), some (.rol (ptDs (.seq true ps :: (ps.take j).flatMap Pt.all))), x2] ∧ S' = S) ⟨none, rfl, rfl⟩ (fun _ _ _ _ _ => trivial) ?_ ?_
      · rintro j d τ S1 N hd' ⟨x2, rfl, rfl⟩ hN
        have hj : j < ps.length := by
          have h1 := (List.getElem?_eq_some_iff.mp hd').1
          rwa [ptDs_len] at h1
        rw [ptDs_at hj] at hd'
        cases hd'
        have hq := hps _ (List.getElem_mem hj)
        obtain ⟨m, rfl⟩ : ∃ m, k = m + 1 := ⟨k - 1, by have : 1 ≤ ps[j].deep := by { cases ps[j] <;> simp [Pt.deep] }; omega⟩
        have hle : ((ps.take (j + 1)).flatMap Pt.all).length ≤ (ps.flatMap Pt.all).length := by
          conv => rhs; rw [← List.take_append_drop (j + 1) ps, List.flatMap_append, List.length_append]
          omega
        have tk : (ps.take (j + 1)).flatMap Pt.all = (ps.take j).flatMap Pt.all ++ ps[j].all := by
          rw [List.take_succ, List.getElem?_eq_getElem hj, List.flatMap_append]
          simp
        rw [tk, List.length_append] at hle
        subst hB
        simp [-prevSp, catD]
        refine ⟨ps[j], rfl, by omega, by omega, ?_⟩
        have e1 := ptDs_len (Pt.seq true ps :: (ps.take j).flatMap Pt.all)
        have e2 := ptDs_len ps[j].all
        rw [List.length_cons] at e1
        refine ⟨by omega, ?_⟩
        refine hN _ _ ⟨some (ptD ps[j]), ?_, rfl⟩
        rw [tk, ← ptDs_app]
        rfl
      · rintro τ S1 ⟨x2, rfl, rfl⟩
        rw [ptDs_len, List.take_length, ← Pt.alls_flat]
        subst hR
        simp
        exact .same h
  | stay =>
    simp [-prevSp, ptD]
    subst hB
    simp
    subst hR
    simp [i1]
    exact .same h
  | step b w =>
    simp [-prevSp, ptD]
    subst hB
    simp
    subst hR
    simp [i1]
    exact .same h
  | mark b m =>
    cases b
    all_goals
      simp [-prevSp, ptD]
      subst hB
      simp
      subst hR
      simp [i1]
      exact .same h
theorem cnt_bk (t : Pt) : cntD (bk t) = cntD t := by
  have p1 := bk_all t
  have e : ((bk t).all.map hd).Perm (t.all.map hd) := by
    have := p1.map hd
    rw [List.map_map] at this
    rwa [show List.map (hd ∘ bk) t.all = List.map hd t.all from List.map_congr_left fun r _ => bk_hd r] at this
  unfold cntD
  rw [p1.length_eq, List.length_map]
  congr 1
  refine List.map_congr_left fun s _ => ?_
  rw [e.count_eq]
theorem r_law (ds S Q E) (h : sp_law ds S Q E) : t_law (dEnd Q E) (dstart N_law ds) S := by
  obtain ⟨ns, rfl, hl, h⟩ := h
  unfold t_law
  refine dSeq_gen fun R hR => ?_
  simp [dstart]
  refine ⟨ns, rfl, hl, fun p o hp fo => ?_⟩
  subst hR
  refine dSeq_gen fun R hR => ?_
  simp
  refine ⟨p, 3, 0, o, by simp, by decide, by decide, by simp, fo, by decide, fun v1 o1 b1 fo1 => ?_⟩
  rw [upo_upo]
  refine ⟨p, 1 + v1, 1, o1, by simp, by omega, by simp, fo1.more (by omega), by decide, fun ws o2 w1 w2 w3 fo2 => ?_⟩
  rw [upo_upo]
  subst hR
  refine dSeq_gen fun R hR => ?_
  simp
  refine ⟨p, 3, 3, o2, by simp, by decide, by decide, by simp, fo2, by decide, fun v2 o3 b2 fo3 => ?_⟩
  rw [upo_upo]
  refine ⟨p, v2, 4, o3, by simp, by omega, by simp, fo3.more (by omega), by decide, fun ms o4 m1 m2 m3 fo4 => ?_⟩
  rw [upo_upo]
  subst hR
  refine dSeq_gen fun R hR => ?_
  simp
  refine ⟨p, 8, 6, o4, by simp, by decide, by decide, by simp, fo4, by decide, fun v3 o5 b3 fo5 => ?_⟩
  rw [upo_upo]
  intro q hq
  have npq : p ≠ q := fun z => by subst z; simp at hq
  refine ⟨p, q, ws, ms, 4, 1 + v3, 7, o5, by simp, by omega, by omega, m2, by decide, by rw [upo_ne npq]; simp, fo5.more (by omega), by omega, by omega, by simp, by omega, fun t o6 c ok dp al fo6 => ?_⟩
  rw [upo_comm npq.symm, upo_upo, upo_upo]
  have fo6 : FeedC 100 o6 := fo6.more (by omega)
  have hS0 : upo (upo S p o6) q (.lst [.int (c : Nat)]) p = some o6 := by rw [upo_ne npq]; simp
  generalize upo (upo S p o6) q (.lst [.int (c : Nat)]) = S1 at hS0
  have okb : OkC ws ms (bk t) := bk_okc ok
  have dpb : (bk t).deep ≤ 5 := by rw [bk_deep]; exact dp
  have alb : (bk t).all.length ≤ 8 := by rw [(bk_all t).length_eq, List.length_map]; omega
  have few : ∀ n, 4 ≤ n → ∀ r ∈ t.all, r.kids.length ≤ n := fun n hn r hr => Nat.le_trans (okc_few ok r hr) hn
  have fewb : ∀ n, 4 ≤ n → ∀ r ∈ (bk t).all, r.kids.length ≤ n := fun n hn r hr => Nat.le_trans (okc_few okb r hr) hn
  subst hR
  refine dSeq_gen fun R hR => ?_
  simp
  refine ⟨t, rfl, dp, few 1000 (by decide), ?_⟩
  subst hR
  refine dSeqIf_gen fun A1 B1 R hA hB hR => ?_
  simp
  refine ⟨bk t, rfl, okc_okp okb w2 m2, fewb 39 (by decide), by omega, by omega, ?_⟩
  simp
  refine ⟨bk t, rfl, dpb, by omega, ?_⟩
  refine ⟨t, rfl, dp, by omega, ?_⟩
  rw [cnt_bk]
  have hcs : Sm 60 (.rol (cntD t)) := Sm_rol.mpr fun d hd1 => by
    rcases List.mem_cons.mp hd1 with rfl | hd1
    · exact int_sm _ _
    · obtain ⟨s, _, rfl⟩ := List.mem_map.mp hd1
      exact int_sm _ _
  refine dEq_sm hcs hcs ?_
  simp
  subst hB
  simp
  subst hR
  refine dSeq_gen fun R hR => ?_
  simp
  refine ⟨bk t, rfl, dpb, fewb 1000 (by decide), ?_⟩
  rw [bk_bk]
  subst hR
  refine dSeqIf_gen fun A1 B1 R hA hB hR => ?_
  simp
  refine ⟨t, rfl, okc_okp ok w2 m2, few 39 (by decide), by omega, by omega, ?_⟩
  simp
  subst hB
  simp
  subst hR
  refine dSeqFor_gen fun B R hB hR => ?_
  simp
  refine ⟨p, 33, 100, o6, by simp, by decide, by decide, hS0, fo6, by decide, fun v4 o7 b4 fo7 => ?_⟩
  simp
  refine ⟨by omega, ?_⟩
  refine loop_inv (fun i τ S' => ∃ (o8 : Ob) (x7 x8 x9 : Option D), τ = [some (.rol (ns.map D.int)), some (.ref p), some (.rol (strsD ws)), some (.rol (strsD ms)), some (ptD t), some (ptD (bk t)), some (ptD t), x7, x8, x9] ∧
    S' = upo S1 p o8 ∧ FeedC (101 + i * 2000000) o8) ⟨o7, none, none, none, rfl, rfl, fo7.more (by omega)⟩ (fun _ _ _ _ _ => trivial) ?_ ?_
  · rintro i d τ S2 N hd1 ⟨o8, x7, x8, x9, rfl, rfl, fo8⟩ hN
    have hi : i < 8 + v4 := by
      have h1 := (List.getElem?_eq_some_iff.mp hd1).1
      simp [rngD] at h1
      omega
    subst hB
    refine dSeq_gen fun R' hR' => ?_
    simp
    refine ⟨p, t, ws, ms, 101 + i * 2000000, o8, rfl, by omega, by omega, w2, m2, m3, ok, dp, by simp, fo8, by omega, fun L o9 a b fo9 => ?_⟩
    rw [upo_upo]
    have hLl : OkL L := a.len
    have la : L.1.length = L.2.length + 1 := a.len
    have aB : OkN ms (bkL L) := ⟨bkL_ok hLl, fun m hm => a.mks m (by simpa [bkL] using hm), fun s hs => by
      obtain ⟨r, hr, rfl⟩ := List.mem_map.mp hs
      exact a.st r (by simpa using hr)⟩
    have bB : (bkL L).2.length = L.2.length := by simp [bkL]
    subst hR'
    refine dSeq_gen fun R' hR' => ?_
    simp
    refine ⟨t, ms, L, rfl, a, by omega, dp, few 1000 (by decide), fun due hdue => ?_⟩
    subst hR'
    refine dSeqIf_gen fun A1 B1 R' hA hB hR' => ?_
    simp
    refine ⟨L, rfl, by omega, by omega, ?_⟩
    refine ⟨bk t, ms, bkL L, rfl, aB, by omega, dpb, fewb 1000 (by decide), fun d1 h1 => ?_⟩
    have e1 : d1 = due := Bool.eq_iff_iff.mpr (h1.trans ((Wh_bk hLl t).trans hdue.symm))
    subst e1
    simp
    refine ⟨t, ms, L, rfl, a, by omega, dp, few 1000 (by decide), fun d2 h2 => ?_⟩
    have e2 : d2 = d1 := Bool.eq_iff_iff.mpr (h2.trans hdue.symm)
    subst e2
    simp
    subst hB
    simp
    subst hR'
    refine dSeq_gen fun R' hR' => ?_
    simp
    refine ⟨p, bk t, ws, ms, 101 + i * 2000000 + 1000000, o9, rfl, by omega, by omega, w2, m2, m3, okb, dpb, by simp, fo9, by omega, fun L2 o10 a' b' fo10 => ?_⟩
    rw [upo_upo]
    have hLl2 : OkL L2 := a'.len
    have la2 : L2.1.length = L2.2.length + 1 := a'.len
    have aB2 : OkN ms (bkL L2) := ⟨bkL_ok hLl2, fun m hm => a'.mks m (by simpa [bkL] using hm), fun s hs => by
      obtain ⟨r, hr, rfl⟩ := List.mem_map.mp hs
      exact a'.st r (by simpa using hr)⟩
    have bB2 : (bkL L2).2.length = L2.2.length := by simp [bkL]
    subst hR'
    simp
    refine ⟨bk t, ms, L2, rfl, a', by omega, dpb, fewb 1000 (by decide), fun d3 h3 => ?_⟩
    refine ⟨L2, rfl, by omega, by omega, ?_⟩
    refine ⟨t, ms, bkL L2, rfl, aB2, by omega, dp, few 1000 (by decide), fun d4 h4 => ?_⟩
    have e4 : d4 = d3 := Bool.eq_iff_iff.mpr (h4.trans (by
      have := Wh_bk hLl2 (bk t)
      rw [bk_bk] at this
      exact this.trans h3.symm))
    subst e4
    simp
    exact hN _ _ ⟨o10, _, _, _, rfl, rfl, fo10.more (by omega)⟩
  · rintro τ S2 ⟨o8, x7, x8, x9, rfl, rfl, fo8⟩
    subst hR
    simp
    exact .same (h _)
end L63
set_option maxRecDepth 100000
set_option maxHeartbeats 4000000
namespace Dt
open PySem PySem.Spec L2 PySem.W PyProof.Rows
/-! DatXt: list.extend of a tuple. -/
theorem ext_tup (l : Addr) (items : Array Value) (n : Nat) (b : Addr) (dd : Option Addr) (items2 : Array Value) (n2 : Nat) (sl : Array (Option Value)) (hs0 : ¬(!items.isEmpty && Builtin.List.listTooLong (items.size + items2.size)) = true) (hs1 : items.size ≤ sizeLine) (hs2 : items.size + items2.size ≤ sizeLine + 1) :
    Meets (Builtin.«list.extend» ⟨[.ref l, .ref b], []⟩) (fun _ R s => s.heap.get? l = some { cls := .type "list", dict := none, data := .seq items n, slots := #[] } ∧ s.heap.get? b = some { cls := .type "tuple", dict := dd, data := .seq items2 n2, slots := sl } ∧ R (.ok (.ret Value.none)) { s with heap := s.heap.update l (Obj.mapSeq fun x => x ++ items2), toks := s.toks }) :=
  .of_wp fun prog w A R s h => by
    obtain ⟨hp, g, d, tk, os⟩ := s; obtain ⟨hl, hb, h⟩ := h; have f1 := PySem.AutoSeq1.idx_int; have f2 := PySem.AutoSeq1.sub_tuple_tuple; have f3 := PySem.AutoSeq1.sub_list_list; have f4 := PySem.AutoSeq1.sub_tuple_list; have f5 := PySem.AutoSeq1.sub_list_tuple;
    have hz' : (items ++ items2).size ≤ sizeLine + 1 := by rw [Array.size_append]; exact hs2
    wp_walk using (wpAny_updateSeq hl rfl (hz := hs1) (_hz' := hz')), PySem.AutoSeq1.wpAny_loadPart' hl, PySem.AutoSeq1.wpAny_loadPart' hb; exact ⟨_, rfl, h⟩
section
variable {X : Cx}
def rExtendT (K : PySem.W.Frag) : V → List V → Hp → VK → Prop := fun x vs H Q => ∃ l b xs zs, x = .ref l ∧ vs = [.ref b] ∧ H l = some (.lst xs) ∧ SqT K H b zs ∧ xs.length + zs.length ≤ sizeLine ∧ Q .non (upd H l (.lst (xs ++ zs)))
theorem mt_extendT : MtM X "list.extend" (rExtendT X.K) := by
  intro pins s σ H x vs v us Q I rx rv h
  obtain ⟨l, b, xs, zs, rfl, rfl, hH, hB, hz, q⟩ := h
  cases rx
  obtain ⟨u, rfl, ru⟩ := rv.one
  cases ru
  obtain ⟨z, its, n, r, hl, e⟩ := I.lstM hH
  obtain ⟨its2, r2, ⟨⟨oc, od, odt, osl⟩, e2, e3, n2, e4⟩, z2⟩ := I.tuple hB
  dsimp only at e3 e4
  subst e3 e4
  have hl2 := r2.length
  have hsz : its.toArray.size + its2.toArray.size ≤ sizeLine := by rw [List.size_toArray, List.size_toArray]; omega
  have hlong : ¬ (!its.toArray.isEmpty && Builtin.List.listTooLong (its.toArray.size + its2.toArray.size)) = true := by
    rw [notLongL hsz, Bool.and_false]
    exact Bool.false_ne_true
  refine call_meets F.slot_list_extend ⟨_, e, rfl⟩ F.entry_list_extend (F.args_list_extend_2 _ _)
    (ext_tup l its.toArray n b od its2.toArray n2 osl hlong (by rw [List.size_toArray]; omega) (by omega)) ⟨e, e2, ?_⟩
  refine ⟨.non, _, I.lset (its' := its ++ its2) hH e (by simp) (r.append r2) ?_, rfl, q⟩
  rw [List.length_append]
  omega
@[simp] def mExtendT : RMD := fun d ds S Q => mLst ds d S fun xs up => match ds with | [.tup zs] => xs.length + zs.length ≤ sizeLine ∧ Q .non (up (xs ++ zs)) | _ => False
theorem md_extendT : MtD X "list.extend" mExtendT := by
  refine ⟨fun d ds S Q Q' k h => mLst_mono (fun a xs e1 e2 z => ?_) h, fun pins s σ H x vs v us Q I rx rv ⟨d, ds, S, rep, rd, rds, h⟩ => ?_⟩
  · match ds, z with
    | [.tup zs], z => exact ⟨z.1, k _ _ z.2⟩
  · obtain ⟨a, xs, rfl, ea, z⟩ := mLst_ex h
    match ds, z with
    | [.tup zs], z =>
      cases rd
      obtain ⟨u, rfl, ru⟩ := rds1 rds
      obtain ⟨b, ws, rfl, sb, rs1⟩ : ∃ p ys, u = V.ref p ∧ SqTn X.K H p ys ∧ RDs X.K H zs ys := ru
      obtain ⟨ys, e0, rs⟩ : ∃ ys, H a = some (.lst ys) ∧ RDs X.K H xs ys := rep a _ ea
      have le : LeH H (upd H a (.lst (ys ++ ws))) := LeH.put e0 trivial
      exact mt_extendT pins s σ H _ _ v us Q I rx rv ⟨a, b, ys, ws, rfl, rfl, e0, sb, by rw [← rs.length, ← rs1.length]; exact z.1, z.2 _ _ le (rep.put e0 trivial (o := .lst (xs ++ zs)) ⟨_, upd_same, (rs.append rs1).le le⟩) rfl⟩
end
/-! in, of a tuple whose items are data of any depth -/
section
variable {X : Cx}
theorem op_inTD (neg : Bool) (op : CmpOp) (ho : op = if neg then .NotIn else .In) (hu : X.A.units + 65 < cLine) :
    OpR X (compareOp op) (fun x y H Q => ∃ d ds, Dp X.K H x d ∧ Dp X.K H y (.tuple ds) ∧ SeqAt.shaped d = true ∧ SeqAt.shaped (.tuple ds) = true ∧ Q (.bl (if neg then !ds.any (fun z => PyData.eqv z d) else ds.any fun z => PyData.eqv z d)) H) := by
  intro pins s σ H x y v u Q I rx ry h
  obtain ⟨d, ds, hd, he, sd, se, q⟩ := h
  obtain ⟨as, r1⟩ := Dp.reads I d x v hd rx
  obtain ⟨bs, r2⟩ := Dp.reads I (.tuple ds) y u he ry
  subst ho
  cases neg
  · exact SeqAt.in_tuple_reads r2 r1 (SeqAt.canLay_of_shaped se) (SeqAt.canLay_of_shaped sd) (room_in_shaped sd hu) ⟨.bl _, H, I, rfl, q⟩
  · exact SeqAt.notIn_tuple_reads r2 r1 (SeqAt.canLay_of_shaped se) (SeqAt.canLay_of_shaped sd) (room_in_shaped sd hu) ⟨.bl _, H, I, rfl, q⟩
@[simp] def dInT (neg : Bool) : R2D := fun d e S Q => match e with
  | .tup ds => Sm 60 d ∧ (∀ e ∈ ds, Sm 60 e) ∧ Q (.bl (if neg then !decide (d ∈ ds) else decide (d ∈ ds))) S
  | _ => False
theorem od_inT_neg (neg : Bool) (op : CmpOp) (ho : op = if neg then .NotIn else .In) (hu : X.A.units + 120 < cLine) : OpD X (compareOp op) (dInT neg) := by
  refine ⟨fun x y S Q Q' k h => ?_, fun pins s σ H x y v u Q I rx ry ⟨d, e, S, rep, rd, re, h⟩ => ?_⟩
  · cases y with
    | tup ds => exact ⟨h.1, h.2.1, k _ _ h.2.2⟩
    | _ => exact h.elim
  · cases e with
    | tup ds =>
      obtain ⟨hd, hs, q⟩ := h
      have ht : Sm 61 (.tup ds) := Sm_tup.mpr hs
      have p1 := hd.pd S
      have p2 : Pd S (.tup ds) (.tuple (toPs ds)) := ht.pd S
      refine op_inTD neg op ho (by omega) pins s σ H x y v u Q I rx ry ⟨_, _, p1.dp rep _ d x rd, p2.dp rep _ _ y re, hd.shaped (by decide), ht.shaped (by decide), ?_⟩
      have e : (toPs ds).any (fun z => PyData.eqv z (toP d)) = decide (d ∈ ds) := inP_dec hd.1 fun e he => (hs e he).1
      rw [e]
      exact q _ H (LeH.refl H) rep rfl
    | _ => exact h.elim
theorem od_inT (hu : X.A.units + 120 < cLine) : OpD X (compareOp .In) (dInT false) := od_inT_neg false .In rfl hu
end
/-! tuple.count of plain data -/
section
variable {X : Cx}
theorem tuple_reads {pins : List (Addr × Obj)} {σ : L2.St} {s : Shared} {S : DH} {H : Hp} {v : V} {xs : List D} (I : Inv X pins σ H s) (rep : Rep X.w X.K S H) (rd : RD X.K H (.tup xs) v) (h : ∀ x ∈ xs, Sm 60 x) :
    ∃ (a : Addr) (its : Array Value) (as : List Addr), v = .ref a ∧ s.heap.IsTuple a its ∧ ReadsAll s.heap its.toList (toPs xs) as ∧ SeqAt.shaped (.tuple (toPs xs)) = true := by
  have ht : Sm 61 (.tup xs) := Sm_tup.mpr h
  have hp : Pd S (.tup xs) (.tuple (toPs xs)) := ht.pd S
  have dp := Pd.dp rep _ _ _ hp rd
  cases dp with
  | @tup a ys _ hl ha =>
    obtain ⟨its, rv, p, hz⟩ := I.tuple hl
    obtain ⟨as, h4⟩ := Dp.readsAll I (toPs xs) _ its ha rv
    exact ⟨a, its.toArray, as, rfl, p, h4, ht.shaped (by decide)⟩
@[simp] def mCountT : RMD := fun d ds S Q => match d, ds with
  | .tup xs, [y] => Sm 60 y ∧ (∀ x ∈ xs, Sm 60 x) ∧ Q (.int (xs.count y : Nat)) S
  | _, _ => False
theorem md_countT (hu : X.A.units + 65 < cLine) : MtD X "tuple.count" mCountT := by
  refine ⟨fun d ds S Q Q' k h => ?_, fun pins s σ H x vs v us Q I rx rv ⟨d, ds, S, rep, rd, rds, h⟩ => ?_⟩
  · match d, ds, h with
    | .tup xs, [y], h => exact ⟨h.1, h.2.1, k _ _ h.2.2⟩
  · match d, ds, h with
    | .tup xs, [y], h =>
      obtain ⟨h3, h4, h⟩ := h
      obtain ⟨u, rfl, ru⟩ := rds1 rds
      cases rv with
      | cons ry rt =>
      cases rt
      obtain ⟨a, its, as, rfl, il, ra, sh⟩ := tuple_reads I rep rd h4
      cases rx
      obtain ⟨bs, r1⟩ := Dp.reads I _ _ _ (Pd.dp rep _ _ _ (h3.pd S) ru) ry
      have shy := h3.shaped (by decide)
      refine SeqAt.count_tuple_data il ra r1 (plainAll_of (SeqAt.canLay_of_shaped sh)) (PyData.plain_of_canLay0 _ (SeqAt.canLay_of_shaped shy)) (room_in_shaped shy hu) ?_
      rw [countP_P h3.1 (Sm.all_pl h4)]
      exact ⟨.int _, H, I.tok _, ⟨_, rfl⟩, h _ H (LeH.refl H) rep rfl⟩
end
end Dt
set_option maxRecDepth 100000
set_option maxHeartbeats 4000000
namespace L64
open PySem PySem.Spec L2
open L63
open Rm
open Rc
open Sh hiding N_l_feed N_l_leaf N_l_names N_l_pattern deeps_le deeps_mem r_l_feed r_l_leaf r_l_names r_l_pattern sp_l_leaf sp_l_leaf_mono sp_l_names sp_l_names_mono sp_l_pattern sp_l_pattern_mono t_l_feed t_l_leaf t_l_names t_l_pattern
open Dt hiding nkeys sp_l_feed sp_l_feed_mono
def t_plain_then : DTS := (dSeq (dAsg (dLst dNil) (dGN 1))
    (dSeq (dFor (dSeqI (dVar 0)) (dGN 2)
      (dSeq (dIf (dTest (dOp (dEq false) (dVar 2) (dC (.tup [.str "either", (.tup [])]))))
      (dRet (dC (.tup [.str "either", (.tup [])])))
      dNx)
    (dIf (dTest (dOp (dEq false) (dOp dIxS (dVar 2) (dC (.int 0))) (dC (.str "then"))))
      (dDrop (dBM "list" mExtendT (dVar 1) (dCons (dOp dIxS (dVar 2) (dC (.int 1))) dNil)))
      (dIf (dTest (dOp (dEq true) (dVar 2) (dC (.tup [.str "stay"]))))
      (dDrop (dBM "list" mAppend (dVar 1) (dCons (dVar 2) dNil)))
      dNx))))
    (dSeq (dIf (dTest (dOp (dEq false) (dCB cLen (dCons (dVar 1) dNil)) (dC (.int 1))))
      (dRet (dOp dIxS (dVar 1) (dC (.int 0))))
      dNx)
    (dRet (dTup (dCons (dC (.str "then")) (dCons (dCB cTuple (dCons (dVar 1) dNil)) dNil)))))))
abbrev N_plain_then : List Str := ["parts", "found", "one"]
def t_plain_either : DTS := (dSeq (dAsg (dLst dNil) (dGN 1))
    (dSeq (dFor (dSeqI (dVar 0)) (dGN 2)
      (dSeq (dAsg (dLstF (dCons (dVar 2) dNil)) (dGN 3))
    (dSeq (dIf (dTest (dOp (dEq false) (dOp dIxS (dVar 2) (dC (.int 0))) (dC (.str "either"))))
      (dAsg (dOp dIxS (dVar 2) (dC (.int 1))) (dGN 3))
      dNx)
    (dDrop (dBM "list" mExtend (dVar 1) (dCons (dFz (dLc (dRng1 (dCons (dCB cLen (dCons (dVar 3) dNil)) dNil)) (dGN 4) (dTest (dOp (dIn true) (dOp dIxS (dVar 3) (dVar 4)) (dVar 1))) (dOp dIxS (dVar 3) (dVar 4)) [4])) dNil))))))
    (dSeq (dIf (dTest (dOp (dEq false) (dCB cLen (dCons (dVar 1) dNil)) (dC (.int 1))))
      (dRet (dOp dIxS (dVar 1) (dC (.int 0))))
      dNx)
    (dRet (dTup (dCons (dC (.str "either")) (dCons (dCB cTuple (dCons (dVar 1) dNil)) dNil)))))))
abbrev N_plain_either : List Str := ["parts", "found", "one", "some", "k"]
def t_plainly (spR : DSp) : DTS := (dSeq (dIf (dTest (dOp (dEq false) (dOp dIxS (dVar 0) (dC (.int 0))) (dC (.str "then"))))
      (dRet (dCall sp_plain_then (dCons (dFz (dLc (dSeqI (dOp dIxS (dVar 0) (dC (.int 1)))) (dGN 2) dYes (dCall spR (dCons (dVar 2) dNil)) [2])) dNil)))
      dNx)
    (dSeq (dIf (dTest (dOp (dEq false) (dOp dIxS (dVar 0) (dC (.int 0))) (dC (.str "either"))))
      (dRet (dCall sp_plain_either (dCons (dFz (dLc (dSeqI (dOp dIxS (dVar 0) (dC (.int 1)))) (dGN 2) dYes (dCall spR (dCons (dVar 2) dNil)) [2])) dNil)))
      dNx)
    (dSeq (dIf (dTest (dOp (dEq true) (dOp dIxS (dVar 0) (dC (.int 0))) (dC (.str "many"))))
      (dRet (dVar 0))
      dNx)
    (dSeq (dAsg (dCall spR (dCons (dOp dIxS (dVar 0) (dC (.int 1))) dNil)) (dGN 1))
    (dSeq (dIf (dTest (dOp (dInT false) (dVar 1) (dTup (dCons (dC (.tup [.str "stay"])) (dCons (dC (.tup [.str "then", (.tup [])])) (dCons (dC (.tup [.str "either", (.tup [])])) dNil))))))
      (dRet (dC (.tup [.str "stay"])))
      dNx)
    (dSeq (dIf (dTest (dOp (dEq false) (dOp dIxS (dVar 1) (dC (.int 0))) (dC (.str "many"))))
      (dRet (dVar 1))
      dNx)
    (dRet (dTup (dCons (dC (.str "many")) (dCons (dVar 1) dNil))))))))))
abbrev N_plainly : List Str := ["pattern", "inner", "one"]
theorem r_plain_then (ds S Q E) (h : sp_plain_then ds S Q E) : t_plain_then (dEnd Q E) (dstart N_plain_then ds) S := by
  obtain ⟨ps, rfl, hps, hl, hm, h⟩ := h
  unfold t_plain_then
  refine dSeq_gen fun R hR => ?_
  simp [dstart]
  intro f hf
  subst hR
  refine dSeqFor_gen fun B R hB hR => ?_
  simp
  refine loop_inv (fun i τ S' => ∃ x2 : Option D, τ = [some (.rol (ptDs ps)), some (.ref f), x2] ∧ S' = upo S f (.lst (ptDs ((ps.take i).flatMap thS))) ∧ pNo ∉ ps.take i) ⟨none, rfl, rfl, by simp⟩ (fun _ _ _ _ _ => trivial) ?_ ?_
  · rintro i d τ S1 N hd' ⟨x2, rfl, rfl, hno⟩ hN
    have hi : i < ps.length := by
      have h1 := (List.getElem?_eq_some_iff.mp hd').1
      rwa [ptDs_len] at h1
    rw [ptDs_at hi] at hd'
    cases hd'
    have hp := hps _ (List.getElem_mem hi)
    have hsm : Sm 60 (ptD ps[i]) := (pt_sm _ hp.1).mono (by omega)
    have tk : (ps.take (i + 1)).flatMap thS = (ps.take i).flatMap thS ++ thS ps[i] := by
      rw [List.take_succ, List.getElem?_eq_getElem hi, List.flatMap_append]
      simp
    have hle : ((ps.take (i + 1)).flatMap thS).length ≤ (ps.flatMap thS).length := by
      conv => rhs; rw [← List.take_append_drop (i + 1) ps, List.flatMap_append, List.length_append]
      omega
    have nx : ps[i] ≠ pNo → ∀ x2, N [some (.rol (ptDs ps)), some (.ref f), x2] (upo S f (.lst (ptDs ((ps.take i).flatMap thS) ++ ptDs (thS ps[i])))) := fun hn x2 => hN _ _ ⟨x2, rfl, by rw [tk, ptDs_app], fun hm => by
      rw [List.take_succ, List.getElem?_eq_getElem hi] at hm
      rcases List.mem_append.mp hm with hm | hm
      · exact hno hm
      · exact hn (List.mem_singleton.mp hm).symm⟩
    rw [tk, List.length_append] at hle
    have hk0 : ((ps.take i).flatMap thS).length + (thS ps[i]).length ≤ 1000 := by omega
    have hmem : ps[i] ∈ ps := List.getElem_mem hi
    subst hB
    refine dSeqIf_gen fun A1 B1 R' hA hB hR' => ?_
    simp
    refine dEq_sm hsm sm_no ?_
    rw [if_neg (by decide), eqNo]
    by_cases c : ps[i] = pNo
    · simp [c]
      subst hA
      simp
      refine .keep (S := S) (Sub.new hf) ?_
      have e : plThen ps = pNo := if_pos (c ▸ hmem)
      rw [e] at h
      exact h
    · simp [c]
      subst hB
      simp
      subst hR'
      have nx := nx c
      clear hle tk
      generalize ps[i] = q at *
      have nx1 : thS q = [q] → ∀ x2, N [some (.rol (ptDs ps)), some (.ref f), x2] (upo S f (.lst (ptDs ((ps.take i).flatMap thS) ++ [ptD q]))) := fun e x2 => by
        have := nx x2
        rw [e] at this
        simpa [ptDs] using this
      generalize (ps.take i).flatMap thS = M at *
      have hM : (ptDs M).length ≤ 1000 := by rw [ptDs_len]; omega
      cases q with
      | stay =>
        simp [ptD]
        refine dEq_sm sm_st sm_st ?_
        simp
        simpa [thS, ptDs, ptD] using nx _
      | seq b qs =>
        cases b
        · have nx1 := nx1 rfl
          simp [ptD] at hsm nx1
          simp [ptD]
          refine dEq_sm hsm sm_st ?_
          simp
          exact ⟨by omega, nx1 _⟩
        · have h2 : M.length + qs.length ≤ 1000 := hk0
          simp [ptD]
          simp [thS, ptD] at nx
          refine ⟨by rw [ptDs_len, ptDs_len]; omega, nx _⟩
      | step b w =>
        have nx1 := nx1 rfl
        cases b
        all_goals
          simp [ptD] at hsm nx1
          simp [ptD]
          refine dEq_sm hsm sm_st ?_
          simp
          exact ⟨by omega, nx1 _⟩
      | mark b w =>
        have nx1 := nx1 rfl
        cases b
        all_goals
          simp [ptD] at hsm nx1
          simp [ptD]
          refine dEq_sm hsm sm_st ?_
          simp
          exact ⟨by omega, nx1 _⟩
      | many q =>
        have nx1 := nx1 rfl
        simp [ptD] at hsm nx1
        simp [ptD]
        refine dEq_sm hsm sm_st ?_
        simp
        exact ⟨by omega, nx1 _⟩
  · rintro τ S1 ⟨x2, rfl, rfl, hno⟩
    rw [ptDs_len, List.take_length] at hno ⊢
    have e : plThen ps = wrap true (ps.flatMap thS) := if_neg hno
    rw [e, wrap_D] at h
    subst hR
    generalize ps.flatMap thS = l at *
    dsimp only
    refine dSeqIf_gen fun A1 B1 R' hA hB hR' => ?_
    simp [ptDs_len]
    match l, h with
    | [], h =>
      simp
      subst hB
      simp
      subst hR'
      simp [ptDs]
      exact .keep (S := S) (Sub.new hf) h
    | [p], h =>
      simp
      subst hA
      simp [ptDs]
      exact .keep (S := S) (Sub.new hf) h
    | p :: q :: r, h =>
      simp
      subst hB
      simp
      subst hR'
      simp
      exact .keep (S := S) (Sub.new hf) h
theorem r_plain_either (ds S Q E) (h : sp_plain_either ds S Q E) : t_plain_either (dEnd Q E) (dstart N_plain_either ds) S := by
  obtain ⟨ps, rfl, hps, hl, hm, h⟩ := h
  unfold t_plain_either
  refine dSeq_gen fun R hR => ?_
  simp [dstart]
  intro f hf
  subst hR
  refine dSeqFor_gen fun B R hB hR => ?_
  simp
  refine loop_inv (fun i τ S' => ∃ x2 x3 x4 : Option D, ∃ acc : List Pt, τ = [some (.rol (ptDs ps)), some (.ref f), x2, x3, x4] ∧ S' = upo S f (.lst (ptDs acc)) ∧ eiF acc (ps.drop i) = eiF [] ps ∧ acc.length ≤ ((ps.take i).flatMap eiS).length ∧ ∀ p ∈ acc, p.okP Nm ∧ p.deep ≤ 20) ⟨none, none, none, [], rfl, rfl, rfl, by simp, by simp⟩ (fun _ _ _ _ _ => trivial) ?_ ?_
  · rintro i d τ S1 N hd' ⟨x2, x3, x4, acc, rfl, rfl, hac, hal, hap⟩ hN
    have hi : i < ps.length := by
      have h1 := (List.getElem?_eq_some_iff.mp hd').1
      rwa [ptDs_len] at h1
    rw [ptDs_at hi] at hd'
    cases hd'
    have hp := hps _ (List.getElem_mem hi)
    have tk : (ps.take (i + 1)).flatMap eiS = (ps.take i).flatMap eiS ++ eiS ps[i] := by
      rw [List.take_succ, List.getElem?_eq_getElem hi, List.flatMap_append]
      simp
    have hle : ((ps.take (i + 1)).flatMap eiS).length ≤ (ps.flatMap eiS).length := by
      conv => rhs; rw [← List.take_append_drop (i + 1) ps, List.flatMap_append, List.length_append]
      omega
    rw [tk, List.length_append] at hle
    rw [List.drop_eq_getElem_cons hi, eiF] at hac
    have hso : ∀ q ∈ eiS ps[i], q.okP Nm ∧ q.deep ≤ 20 := fun q hq => by
      refine ⟨fun r hr => ?_, Nat.le_trans (eiS_dp hq) hp.2⟩
      have h1 : r ∈ ps[i].all := by
        generalize ps[i] = t at *
        cases t with
        | seq b qs =>
          cases b
          · rw [Pt.all_seq, Pt.alls_flat]
            exact List.mem_cons_of_mem _ (List.mem_flatMap.mpr ⟨q, hq, hr⟩)
          · rw [List.mem_singleton.mp hq] at hr; exact hr
        | _ => rw [List.mem_singleton.mp hq] at hr; exact hr
      exact hp.1 r h1
    subst hB
    refine dSeq_gen fun R' hR' => ?_
    simp
    subst hR'
    refine dSeqIf_gen fun A1 B1 R' hA hB hR' => ?_
    have hsm : Sm 60 (ptD ps[i]) := (pt_sm _ hp.1).mono (by omega)
    have J : ∀ (A : DEnds) (L : List Pt) (sd : D) (x4 : Option D), A.nx = N → eiS ps[i] = L → (sd = .rol (ptDs L) ∨ sd = .tup (ptDs L)) →
        R' A [some (.rol (ptDs ps)), some (.ref f), some (ptD ps[i]), some sd, x4] (upo S f (.lst (ptDs acc))) := by
      intro A L sd x4 hA eL hsd
      rw [eL] at hle hac hso
      have e0 : ∀ k : Nat, (hk : k < L.length) → atI (ptDs L) (k : Int) = some (ptD L[k]) := fun k hk => atI_nat (ptDs_at hk)
      subst hR'
      have wlen : (rngD 0 L.length).length = L.length := by simp [rngD]
      have inner : ∀ (E0 : DW) (τ : DSt) (Q' : DK), τ = [some (.rol (ptDs ps)), some (.ref f), some (ptD ps[i]), some sd, none] → Q' (.rol (ptDs (L.filter fun x => decide (x ∉ acc)))) (upo S f (.lst (ptDs acc))) →
          newO (upo S f (.lst (ptDs acc))) (.lst []) fun q S1 => dLcL (dGN 4) (dTest (dOp (dIn true) (dOp dIxS (dVar 3) (dVar 4)) (dVar 1))) (dOp dIxS (dVar 3) (dVar 4)) DW0 τ (fun _ => True) q (fzK Q' (.ref q)) (rngD 0 L.length) S1 := by
        rintro E0 τ Q' rfl hQ'
        refine lcF_inv (G := fun _ => True) (fun i a S1 => a = ptDs ((L.take i).filter fun x => decide (x ∉ acc)) ∧ S1 = upo S f (.lst (ptDs acc))) ⟨rfl, rfl⟩ (fun _ _ _ _ _ _ _ => trivial) ?_ (by rw [wlen]; exact Nat.lt_of_le_of_lt (show L.length ≤ 1000 by omega) (by decide)) ?_
        · rintro j d a S1 q N' hd1 ⟨rfl, rfl⟩ hq ha hN'
          have hj : j < L.length := by
            have := (List.getElem?_eq_some_iff.mp hd1).1
            rwa [wlen] at this
          obtain rfl : d = .int (j : Nat) := by simp [rngD, hj] at hd1; exact hd1.symm
          have fq : f ≠ q := fun z => by subst z; simp at hq
          have tk2 : (L.take (j + 1)).filter (fun x => decide (x ∉ acc)) = (L.take j).filter (fun x => decide (x ∉ acc)) ++ (if L[j] ∈ acc then [] else [L[j]]) := by
            rw [List.take_succ, List.getElem?_eq_getElem hj, List.filter_append]
            by_cases c : L[j] ∈ acc <;> simp [c]
          have e1 := e0 j hj
          have hin : decide (ptD L[j] ∈ ptDs acc) = decide (L[j] ∈ acc) := decide_eq_decide.mpr (by
            rw [ptDs_map]
            constructor
            · intro hm
              obtain ⟨y, hy, e⟩ := List.mem_map.mp hm
              exact ptD_inj _ _ e ▸ hy
            · exact fun hm => List.mem_map.mpr ⟨_, hm, rfl⟩)
          have hs1 := hso _ (List.getElem_mem hj)
          have nxt := fun a' (ea : a' = _) => hN' a' (upo S f (.lst (ptDs acc))) hq ⟨ea, rfl⟩
          have sm1 : Sm 60 (ptD L[j]) := (pt_sm _ hs1.1).mono (by have := hs1.2; omega)
          have sm2 : ∀ e ∈ ptDs acc, Sm 60 e := fun e he => by
            rw [ptDs_map] at he
            obtain ⟨y, hy, rfl⟩ := List.mem_map.mp he
            exact (pt_sm _ (hap y hy).1).mono (by have := (hap y hy).2; omega)
          rcases hsd with rfl | rfl
          all_goals
            simp [e1, upo_ne fq]
            refine dInQ_sm sm1 sm2 ?_
            rw [hin]
            by_cases c : L[j] ∈ acc
            · simp [c]
              have := nxt (ptDs ((L.take j).filter fun x => decide (x ∉ acc))) (by rw [tk2]; simp [c]) (by simp)
              simpa using this
            · simp [c]
              have := nxt (ptDs ((L.take j).filter fun x => decide (x ∉ acc)) ++ [ptD L[j]]) (by rw [tk2, ptDs_app]; simp [c, ptDs]) (by simp)
              exact ⟨by simpa using ha, by simpa using this⟩
        · rintro a S1 ⟨rfl, rfl⟩
          rw [wlen, List.take_length]
          exact hQ'
      have fl : (L.filter fun x => decide (x ∉ acc)).length ≤ L.length := List.length_filter_le _ _
      have fin : N [some (.rol (ptDs ps)), some (.ref f), some (ptD ps[i]), some sd, x4] (upo S f (.lst (ptDs acc ++ ptDs (L.filter fun x => decide (x ∉ acc))))) := by
        refine hN _ _ ⟨_, _, _, acc ++ L.filter fun x => decide (x ∉ acc), rfl, by rw [ptDs_app], hac, ?_, fun p hp => ?_⟩
        · rw [tk, List.length_append, List.length_append, eL]
          omega
        · rcases List.mem_append.mp hp with hp | hp
          · exact hap p hp
          · exact hso p (List.mem_filter.mp hp).1
      rcases hsd with rfl | rfl
      all_goals
        simp
        refine ⟨by rw [ptDs_len]; omega, ?_⟩
        rw [ptDs_len]
        refine inner A.xe _ _ rfl ?_
        simp [ptDs_len]
        refine ⟨by simp at fl; omega, ?_⟩
        rw [hA]
        simpa using fin
    have hk := hle
    generalize ps[i] = q at *
    cases q with
    | seq b qs =>
      cases b
      · simp [ptD]
        subst hA
        simp
        simp [ptD] at J
        exact J _ qs _ _ rfl rfl (.inr rfl)
      · simp [ptD]
        subst hB
        simp
        simp [ptD] at J
        exact J _ [_] _ _ rfl rfl (.inl (by simp [ptDs, ptD]))
    | mark b m =>
      cases b
      all_goals
        simp [ptD]
        subst hB
        simp
        simp [ptD] at J
        exact J _ [_] _ _ rfl rfl (.inl (by simp [ptDs, ptD]))
    | _ =>
      simp [ptD]
      subst hB
      simp
      simp [ptD] at J
      exact J _ [_] _ _ rfl rfl (.inl (by simp [ptDs, ptD]))
  · rintro τ S1 ⟨x2, x3, x4, acc, rfl, rfl, hac, hal, hap⟩
    rw [ptDs_len, List.drop_length] at hac
    have e : eiF [] ps = acc := hac.symm
    rw [e, wrap_D] at h
    rw [ptDs_len, List.take_length] at hal
    subst hR
    dsimp only
    refine dSeqIf_gen fun A1 B1 R' hA hB hR' => ?_
    simp [ptDs_len]
    match acc, h with
    | [], h =>
      simp
      subst hB
      simp
      subst hR'
      simp [ptDs]
      exact .keep (S := S) (Sub.new hf) h
    | [p], h =>
      simp
      subst hA
      simp [ptDs]
      exact .keep (S := S) (Sub.new hf) h
    | p :: q :: r, h =>
      simp
      subst hB
      simp
      subst hR'
      simp
      exact .keep (S := S) (Sub.new hf) h

theorem pls_lc {k : Nat} {L : List Pt} {x0 x1 : Option D} {S : DH} {Q : DK} (hk : k ≤ 9) (hl : L.length ≤ 1000) (h0 : ∀ q ∈ L, q.okP Nm ∧ q.deep ≤ k ∧ q.all.length ≤ 100) (h : Q (.rol (ptDs (L.map pl))) S) :
    newO S (.lst []) fun p S1 => dLcL (dGN 2) dYes (dCall (prevSp sp_plainly k) (dCons (dVar 2) dNil)) DW0 [x0, x1, none] (fun _ => True) p (fzK Q (.ref p)) (ptDs L) S1 := by
  refine lcF_inv (fun i acc S1 => acc = ptDs ((L.map pl).take i) ∧ S1 = S) ⟨rfl, rfl⟩ (fun _ _ _ _ _ _ _ => trivial) ?_ (by rw [ptDs_len]; exact Nat.lt_of_le_of_lt hl (by decide)) ?_
  · rintro i d acc S1 q N hd ⟨rfl, rfl⟩ hq ha hN
    have hi : i < L.length := by
      have := (List.getElem?_eq_some_iff.mp hd).1
      rwa [ptDs_len] at this
    rw [ptDs_at hi] at hd
    cases hd
    have hm := h0 _ (List.getElem_mem hi)
    obtain ⟨m, rfl⟩ : ∃ m, k = m + 1 := ⟨k - 1, by have h1 := hm.2.1; have : 1 ≤ L[i].deep := dp_pos _; omega⟩
    simp [prevSp]
    refine ⟨L[i], rfl, hm.1, hm.2.1, by omega, hm.2.2, ?_⟩
    simp
    refine ⟨ha, hN _ _ hq ⟨?_, rfl⟩ (by simp)⟩
    rw [List.take_succ, List.getElem?_map, List.getElem?_eq_getElem hi, ptDs_app]
    rfl
  · rintro acc S1 ⟨rfl, rfl⟩
    rw [List.take_of_length_le (by rw [ptDs_len, List.length_map]; exact Nat.le_refl _)]
    exact h
theorem flat_len {f : Pt → List Pt} (hf : ∀ p, ((f p).flatMap Pt.all).length ≤ p.all.length) (ps : List Pt) : (ps.flatMap f).length ≤ (ps.flatMap Pt.all).length := by
  have h1 := szs_le hf ps
  have h2 : ∀ M : List Pt, M.length ≤ (M.flatMap Pt.all).length := fun M => by
    induction M with
    | nil => simp
    | cons e M ih => rw [List.flatMap_cons, List.length_append, List.length_cons]; have := Pt.all_pos e; omega
  exact Nat.le_trans (h2 _) h1
theorem okp_seq {b : Bool} {ps : List Pt} (h : (Pt.seq b ps).okP Nm) : ∀ p ∈ ps, p.okP Nm := fun p hp q hq => h q (by
  rw [Pt.all_seq, Pt.alls_flat]
  exact List.mem_cons_of_mem _ (List.mem_flatMap.mpr ⟨p, hp, hq⟩))
theorem okp_many {p : Pt} (h : (Pt.many p).okP Nm) : p.okP Nm := fun q hq => h q (by rw [Pt.all_many]; exact List.mem_cons_of_mem _ hq)
theorem plainly_seq {k : Nat} {ps : List Pt} (hk : k ≤ 9) (ho : ∀ p ∈ ps, p.okP Nm) (hd : Pt.deeps ps ≤ k) (ha : (ps.flatMap Pt.all).length ≤ 99) :
    (∀ q ∈ ps, q.okP Nm ∧ q.deep ≤ k ∧ q.all.length ≤ 100) ∧ ps.length ≤ 1000 ∧ (∀ p ∈ ps.map pl, p.okP Nm ∧ p.deep ≤ 20) ∧ ((ps.map pl).flatMap Pt.all).length ≤ 99 := by
  refine ⟨fun q hq => ⟨ho q hq, Nat.le_trans (deeps_mem hq) hd, ?_⟩, ?_, fun p hp => ?_, ?_⟩
  · have : q.all.length ≤ (ps.flatMap Pt.all).length := by
      obtain ⟨a, c, rfl⟩ := List.append_of_mem hq
      simp
      omega
    omega
  · have h2 : ∀ M : List Pt, M.length ≤ (M.flatMap Pt.all).length := fun M => by
      induction M with
      | nil => simp
      | cons e M ih => rw [List.flatMap_cons, List.length_append, List.length_cons]; have := Pt.all_pos e; omega
    have := h2 ps
    omega
  · obtain ⟨q, hq, rfl⟩ := List.mem_map.mp hp
    have h1 := pl_dp q
    have h2 := deeps_mem hq
    exact ⟨okp_pl (ho q hq), by omega⟩
  · refine Nat.le_trans ?_ ha
    clear ho hd ha
    induction ps with
    | nil => exact Nat.le_refl _
    | cons p ps ih =>
      have := pl_sz p
      simp only [List.map_cons, List.flatMap_cons, List.length_append]
      omega
theorem r_plainly (k : Nat) (ds S Q E) (h : sp_plainly k ds S Q E) : t_plainly (prevSp sp_plainly k) (dEnd Q E) (dstart N_plainly ds) S := by
  obtain ⟨p, rfl, ho, hd, hk, ha, h⟩ := h
  unfold t_plainly
  cases p with
  | stay =>
    rw [pl] at h
    simp [dstart, ptD] at h ⊢
    exact .same h
  | mark b m =>
    rw [pl] at h
    cases b <;> (simp [dstart, ptD] at h ⊢; exact .same h)
  | step b w =>
    rw [pl] at h
    cases b <;> (simp [dstart, ptD] at h ⊢; exact .same h)
  | seq b ps =>
    rw [Pt.deep_seq] at hd
    rw [Pt.all_seq, Pt.alls_flat, List.length_cons] at ha
    obtain ⟨h1, h2, h3, h4⟩ := plainly_seq (k := k) hk (okp_seq ho) (by omega) (by omega)
    rw [pl_seq] at h
    cases b
    · simp only [Bool.false_eq_true, ↓reduceIte] at h
      simp [-prevSp, dstart, ptD]
      refine pls_lc hk h2 h1 ?_
      refine ⟨ps.map pl, rfl, h3, by simpa using h2, Nat.le_trans (flat_len eiS_sz _) (by omega), ?_⟩
      exact .same h
    · simp only [↓reduceIte] at h
      simp [-prevSp, dstart, ptD]
      refine pls_lc hk h2 h1 ?_
      refine ⟨ps.map pl, rfl, h3, by simpa using h2, Nat.le_trans (flat_len thS_sz _) (by omega), ?_⟩
      exact .same h
  | many p =>
    rw [Pt.deep_many] at hd
    rw [Pt.all_many, List.length_cons] at ha
    have hp := okp_many ho
    obtain ⟨m, rfl⟩ : ∃ m, k = m + 1 := ⟨k - 1, by have : 1 ≤ p.deep := dp_pos _; omega⟩
    simp [-prevSp, dstart, ptD]
    refine ⟨p, rfl, hp, by omega, by omega, by omega, ?_⟩
    simp
    have hdq := pl_dp p
    have hsm : Sm 60 (ptD (pl p)) := (pt_sm _ (okp_pl hp)).mono (by omega)
    rw [pl] at h
    have e1 : ∀ q : Pt, (ptD q = D.tup [.str "stay"] ∨ ptD q = D.tup [.str "then", .tup []] ∨ ptD q = D.tup [.str "either", .tup []]) ↔ (q = .stay ∨ q = pNs ∨ q = pNo) := fun q =>
      ⟨fun h => h.imp (fun h => ptD_inj _ .stay h) fun h => h.imp (fun h => ptD_inj _ pNs h) fun h => ptD_inj _ pNo h, fun h => h.imp (fun h => by rw [h]; rfl) fun h => h.imp (fun h => by rw [h]; rfl) fun h => by rw [h]; rfl⟩
    generalize pl p = q at *
    refine ⟨hsm, ⟨sm_st, sm_ns, sm_no⟩, ?_⟩
    unfold plMany at h
    by_cases c : q = .stay ∨ q = pNs ∨ q = pNo
    · rw [if_pos ((e1 q).mpr c)]
      rw [if_pos c] at h
      exact .same h
    · rw [if_neg (fun x => c ((e1 q).mp x))]
      rw [if_neg c] at h
      cases q with
      | seq b qs => cases b <;> (simp [ptD, isMany] at h ⊢; exact .same h)
      | mark b m => cases b <;> (simp [ptD, isMany] at h ⊢; exact .same h)
      | _ => simp [ptD, isMany] at h ⊢; exact .same h
end L64
set_option maxRecDepth 100000
set_option maxHeartbeats 4000000
namespace L64
open PySem PySem.Spec L2
open L63
open Rm
open Rc
open Rq
open Sh hiding N_l_feed N_l_leaf N_l_names N_l_pattern deeps_le deeps_mem r_l_feed r_l_leaf r_l_names r_l_pattern sp_l_leaf sp_l_leaf_mono sp_l_names sp_l_names_mono sp_l_pattern sp_l_pattern_mono t_l_feed t_l_leaf t_l_names t_l_pattern
open Dt hiding nkeys sp_l_feed sp_l_feed_mono toPs_map
/-! K64u: needless things put in; nothing needless. -/
def menu (t : Pt) : List Pt := [t, .seq true [t], .seq false [t], .seq true [.stay, t], .seq true [t, pNs], .seq false [t, pNo], .seq false [t, t], .many t, .many (.many t), .seq true [.many .stay, t], .seq true [t, pNo], .seq false [t, .seq false [t, .stay]]]
def sp_l_needless (k : Nat) : DSp := fun ds S Q _ => ∃ (p : Addr) (t : Pt) (ws ms : List Str) (j n : Nat) (o : Ob), ds = [.ref p, ptD t, .int (j : Nat)] ∧ t.okP Nm ∧ OkW ws ms t ∧ t.all.length ≤ 50 ∧ 5 ≤ j + k ∧ j ≤ 100 ∧ k ≤ 5 ∧ S p = some o ∧ FeedC n o ∧ n + 2 * (k + 1) + 10 < 2 ^ 80 ∧
  ∀ (t' : Pt) (o' : Ob), t'.okP Nm → OkW ws ms t' → t'.all.length ≤ t.all.length + 34 → (12 < t.all.length → t' = t) → FeedC (n + 2 * (k + 1)) o' → Q (ptD t') (upo S p o')
theorem sp_l_needless_mono (k : Nat) : SpMono (sp_l_needless k) := fun ds S Q Q' E E' kk _ ⟨p, t, ws, ms, j, n, o, h1, h2, h3, h4, h5, h6, h7, h8, h9, h10, h⟩ => ⟨p, t, ws, ms, j, n, o, h1, h2, h3, h4, h5, h6, h7, h8, h9, h10, fun t' o' a b c d e => kk _ _ (h t' o' a b c d e)⟩
def sp_l_plain : DSp := fun ds S Q _ => ∃ t : Pt, ds = [ptD t] ∧ t.okP Nm ∧ t.all.length ≤ 50 ∧ t.deep ≤ 20 ∧ Pln t ∧ Q (.bl true) S
theorem sp_l_plain_mono : SpMono sp_l_plain := fun ds S Q Q' E E' kk _ ⟨t, h1, h2, h3, h4, h5, h⟩ => ⟨t, h1, h2, h3, h4, h5, kk _ _ h⟩
theorem menu_sz {t q : Pt} (h : q ∈ menu t) : q.all.length ≤ 2 * t.all.length + 3 := by
  have := Pt.all_pos t
  simp only [menu, List.mem_cons, List.not_mem_nil, or_false] at h
  rcases h with rfl | rfl | rfl | rfl | rfl | rfl | rfl | rfl | rfl | rfl | rfl | rfl <;> simp [Pt.all_seq, Pt.all_many, Pt.alls_flat, Pt.all] <;> omega
theorem okw_menu {ws ms : List Str} {t q : Pt} (ht : OkW ws ms t) (h : q ∈ menu t) : OkW ws ms q := by
  simp only [menu, List.mem_cons, List.not_mem_nil, or_false] at h
  rcases h with rfl | rfl | rfl | rfl | rfl | rfl | rfl | rfl | rfl | rfl | rfl | rfl <;> simp [okw_seq, okw_many, okw_stay, ht]
theorem okp_okw {p : Pt} : p.okP Nm ↔ OkW (p.all.filterMap Pt.word?) (p.all.filterMap Pt.mark?) p ∧ (∀ w ∈ p.all.filterMap Pt.word?, w = "*" ∨ Nm w) ∧ ∀ m ∈ p.all.filterMap Pt.mark?, Nm m := by
  constructor
  · intro h
    refine ⟨fun q hq => ?_, fun w hw => ?_, fun m hm => ?_⟩
    · cases q with
      | step b w => exact .inr (List.mem_filterMap.mpr ⟨_, hq, rfl⟩)
      | mark b m => exact List.mem_filterMap.mpr ⟨_, hq, rfl⟩
      | _ => trivial
    · obtain ⟨r, hr, er⟩ := List.mem_filterMap.mp hw
      cases r with
      | step b' w' => cases er; exact h _ hr
      | _ => cases er
    · obtain ⟨r, hr, er⟩ := List.mem_filterMap.mp hm
      cases r with
      | mark b' m' => cases er; exact h _ hr
      | _ => cases er
  · rintro ⟨h, h1, h2⟩ q hq
    have h3 := h q hq
    cases q with
    | step b w => exact h3.elim .inl (h1 w)
    | mark b m => exact h2 m h3
    | _ => trivial
theorem okp_by {p q : Pt} (h : p.okP Nm) (hq : ∀ ws ms, OkW ws ms p → OkW ws ms q) : q.okP Nm := by
  obtain ⟨h1, h2, h3⟩ := okp_okw.mp h
  intro r hr
  have h4 := hq _ _ h1 r hr
  cases r with
  | step b w => exact h4.elim .inl (h2 w)
  | mark b m => exact h3 m h4
  | _ => trivial
def t_l_plain : DTS := (dSeq (dFor (dSeqI (dCall (sp_l_all 50) (dCons (dVar 0) dNil))) (dGN 1)
      (dSeq (dIf (dTest (dOp (dIn false) (dOp dIxS (dVar 1) (dC (.int 0))) (dTup (dCons (dC (.str "then")) (dCons (dC (.str "either")) dNil)))))
      (dSeq (dAsg (dFz (dLc (dSeqI (dOp dIxS (dVar 1) (dC (.int 1)))) (dGN 3) dYes (dOp dIxS (dVar 3) (dC (.int 0))) [3])) (dGN 2))
    (dSeq (dIf (dOr (dTest (dOp (dEq false) (dCB cLen (dCons (dVar 2) dNil)) (dC (.int 1)))) (dOr (dTest (dOp (dIn false) (dOp dIxS (dVar 1) (dC (.int 0))) (dVar 2))) (dAnd (dTest (dOp (dEq false) (dOp dIxS (dVar 1) (dC (.int 0))) (dC (.str "then")))) (dTest (dOp (dIn false) (dC (.str "stay")) (dVar 2))))))
      (dRet (dC (.bl false)))
      dNx)
    (dSeq (dIf (dAnd (dTest (dOp (dEq false) (dOp dIxS (dVar 1) (dC (.int 0))) (dC (.str "then")))) (dTest (dOp (dInT false) (dTup (dCons (dC (.str "either")) (dCons (dTup dNil) dNil))) (dOp dIxS (dVar 1) (dC (.int 1))))))
      (dRet (dC (.bl false)))
      dNx)
    (dIf (dAnd (dTest (dOp (dEq false) (dOp dIxS (dVar 1) (dC (.int 0))) (dC (.str "either")))) (dTest (dOp (dEq true) (dFz (dLc (dSeqI (dOp dIxS (dVar 1) (dC (.int 1)))) (dGN 3) (dTest (dOp rGt (dBM "tuple" mCountT (dOp dIxS (dVar 1) (dC (.int 1))) (dCons (dVar 3) dNil)) (dC (.int 1)))) (dVar 3) [3])) (dLstF dNil))))
      (dRet (dC (.bl false)))
      dNx))))
      dNx)
    (dIf (dAnd (dTest (dOp (dEq false) (dOp dIxS (dVar 1) (dC (.int 0))) (dC (.str "many")))) (dOr (dTest (dOp (dIn false) (dOp dIxS (dOp dIxS (dVar 1) (dC (.int 1))) (dC (.int 0))) (dTup (dCons (dC (.str "many")) (dCons (dC (.str "stay")) dNil))))) (dTest (dOp (dInT false) (dOp dIxS (dVar 1) (dC (.int 1))) (dTup (dCons (dTup (dCons (dC (.str "then")) (dCons (dTup dNil) dNil))) (dCons (dTup (dCons (dC (.str "either")) (dCons (dTup dNil) dNil))) dNil)))))))
      (dRet (dC (.bl false)))
      dNx)))
    (dRet (dC (.bl true))))
abbrev N_l_plain : List Str := ["_law_pattern_here", "_law_one", "_law_heads", "_law_inner"]
def t_l_needless (spR : DSp) : DTS := (dSeq (dAsg (dCall sp_l_draw (dCons (dVar 0) (dCons (dC (.int 12)) dNil))) (dGN 3))
    (dSeq (dIf (dOr (dTest (dOp rGt (dVar 2) (dC (.int 4)))) (dTest (dOp rGt (dCB cLen (dCons (dCall (sp_l_all 50) (dCons (dVar 1) dNil)) dNil)) (dC (.int 12)))))
      (dRet (dVar 1))
      dNx)
    (dSeq (dIf (dAnd (dTest (dOp (dIn false) (dOp dIxS (dVar 1) (dC (.int 0))) (dTup (dCons (dC (.str "then")) (dCons (dC (.str "either")) dNil))))) (dTest (dOp (dEq true) (dOp dIxS (dVar 1) (dC (.int 1))) (dTup dNil))))
      (dSeq (dAsg (dCall sp_l_draw (dCons (dVar 0) (dCons (dCB cLen (dCons (dOp dIxS (dVar 1) (dC (.int 1))) dNil)) dNil))) (dGN 4))
    (dSeq (dAsg (dCall spR (dCons (dVar 0) (dCons (dOp dIxS (dOp dIxS (dVar 1) (dC (.int 1))) (dVar 4)) (dCons (dOp dAddF (dVar 2) (dC (.int 1))) dNil)))) (dGN 5))
    (dAsg (dTup (dCons (dOp dIxS (dVar 1) (dC (.int 0))) (dCons (dOp dAddF (dOp dAddF (dSlF (dOp dIxS (dVar 1) (dC (.int 1))) dNoP (dSoP (dVar 4))) (dTup (dCons (dVar 5) dNil))) (dSlF (dOp dIxS (dVar 1) (dC (.int 1))) (dSoP (dOp dAddF (dVar 4) (dC (.int 1)))) dNoP)) dNil))) (dGN 1))))
      dNx)
    (dSeq (dIf (dTest (dOp (dEq false) (dOp dIxS (dVar 1) (dC (.int 0))) (dC (.str "many"))))
      (dAsg (dTup (dCons (dC (.str "many")) (dCons (dCall spR (dCons (dVar 0) (dCons (dOp dIxS (dVar 1) (dC (.int 1))) (dCons (dOp dAddF (dVar 2) (dC (.int 1))) dNil)))) dNil))) (dGN 1))
      dNx)
    (dSeq (dIf (dTest (dOp rGt (dCB cLen (dCons (dCall (sp_l_all 50) (dCons (dVar 1) dNil)) dNil)) (dC (.int 16))))
      (dRet (dVar 1))
      dNx)
    (dSeq (dAsg (dLstF (dCons (dVar 1) (dCons (dTup (dCons (dC (.str "then")) (dCons (dTup (dCons (dVar 1) dNil)) dNil))) (dCons (dTup (dCons (dC (.str "either")) (dCons (dTup (dCons (dVar 1) dNil)) dNil))) (dCons (dTup (dCons (dC (.str "then")) (dCons (dTup (dCons (dTup (dCons (dC (.str "stay")) dNil)) (dCons (dVar 1) dNil))) dNil))) dNil))))) (dGN 6))
    (dSeq (dAsg (dOp dAddF (dVar 6) (dLstF (dCons (dTup (dCons (dC (.str "then")) (dCons (dTup (dCons (dVar 1) (dCons (dTup (dCons (dC (.str "then")) (dCons (dTup dNil) dNil))) dNil))) dNil))) (dCons (dTup (dCons (dC (.str "either")) (dCons (dTup (dCons (dVar 1) (dCons (dTup (dCons (dC (.str "either")) (dCons (dTup dNil) dNil))) dNil))) dNil))) dNil)))) (dGN 6))
    (dSeq (dAsg (dOp dAddF (dVar 6) (dLstF (dCons (dTup (dCons (dC (.str "either")) (dCons (dTup (dCons (dVar 1) (dCons (dVar 1) dNil))) dNil))) dNil))) (dGN 6))
    (dSeq (dAsg (dOp dAddF (dVar 6) (dLstF (dCons (dTup (dCons (dC (.str "many")) (dCons (dVar 1) dNil))) (dCons (dTup (dCons (dC (.str "many")) (dCons (dTup (dCons (dC (.str "many")) (dCons (dVar 1) dNil))) dNil))) (dCons (dTup (dCons (dC (.str "then")) (dCons (dTup (dCons (dTup (dCons (dC (.str "many")) (dCons (dTup (dCons (dC (.str "stay")) dNil)) dNil))) (dCons (dVar 1) dNil))) dNil))) dNil))))) (dGN 6))
    (dSeq (dAsg (dOp dAddF (dVar 6) (dLstF (dCons (dTup (dCons (dC (.str "then")) (dCons (dTup (dCons (dVar 1) (dCons (dTup (dCons (dC (.str "either")) (dCons (dTup dNil) dNil))) dNil))) dNil))) (dCons (dTup (dCons (dC (.str "either")) (dCons (dTup (dCons (dVar 1) (dCons (dTup (dCons (dC (.str "either")) (dCons (dTup (dCons (dVar 1) (dCons (dTup (dCons (dC (.str "stay")) dNil)) dNil))) dNil))) dNil))) dNil))) dNil)))) (dGN 6))
    (dRet (dOp dIxS (dVar 6) (dVar 3)))))))))))))
abbrev N_l_needless : List Str := ["_law_feed_here", "_law_pattern_here", "_law_deep", "_law_way", "_law_at", "_law_inner", "_law_some"]
abbrev TLn : DTS := (dSeq (dIf (dTest (dOp rGt (dCB cLen (dCons (dCall (sp_l_all 50) (dCons (dVar 1) dNil)) dNil)) (dC (.int 16))))
      (dRet (dVar 1))
      dNx)
    (dSeq (dAsg (dLstF (dCons (dVar 1) (dCons (dTup (dCons (dC (.str "then")) (dCons (dTup (dCons (dVar 1) dNil)) dNil))) (dCons (dTup (dCons (dC (.str "either")) (dCons (dTup (dCons (dVar 1) dNil)) dNil))) (dCons (dTup (dCons (dC (.str "then")) (dCons (dTup (dCons (dTup (dCons (dC (.str "stay")) dNil)) (dCons (dVar 1) dNil))) dNil))) dNil))))) (dGN 6))
    (dSeq (dAsg (dOp dAddF (dVar 6) (dLstF (dCons (dTup (dCons (dC (.str "then")) (dCons (dTup (dCons (dVar 1) (dCons (dTup (dCons (dC (.str "then")) (dCons (dTup dNil) dNil))) dNil))) dNil))) (dCons (dTup (dCons (dC (.str "either")) (dCons (dTup (dCons (dVar 1) (dCons (dTup (dCons (dC (.str "either")) (dCons (dTup dNil) dNil))) dNil))) dNil))) dNil)))) (dGN 6))
    (dSeq (dAsg (dOp dAddF (dVar 6) (dLstF (dCons (dTup (dCons (dC (.str "either")) (dCons (dTup (dCons (dVar 1) (dCons (dVar 1) dNil))) dNil))) dNil))) (dGN 6))
    (dSeq (dAsg (dOp dAddF (dVar 6) (dLstF (dCons (dTup (dCons (dC (.str "many")) (dCons (dVar 1) dNil))) (dCons (dTup (dCons (dC (.str "many")) (dCons (dTup (dCons (dC (.str "many")) (dCons (dVar 1) dNil))) dNil))) (dCons (dTup (dCons (dC (.str "then")) (dCons (dTup (dCons (dTup (dCons (dC (.str "many")) (dCons (dTup (dCons (dC (.str "stay")) dNil)) dNil))) (dCons (dVar 1) dNil))) dNil))) dNil))))) (dGN 6))
    (dSeq (dAsg (dOp dAddF (dVar 6) (dLstF (dCons (dTup (dCons (dC (.str "then")) (dCons (dTup (dCons (dVar 1) (dCons (dTup (dCons (dC (.str "either")) (dCons (dTup dNil) dNil))) dNil))) dNil))) (dCons (dTup (dCons (dC (.str "either")) (dCons (dTup (dCons (dVar 1) (dCons (dTup (dCons (dC (.str "either")) (dCons (dTup (dCons (dVar 1) (dCons (dTup (dCons (dC (.str "stay")) dNil)) dNil))) dNil))) dNil))) dNil))) dNil)))) (dGN 6))
    (dRet (dOp dIxS (dVar 6) (dVar 3)))))))))
/-! expressions that only build -/
def Ev (t : DTE) (τ : DSt) (d : D) : Prop := ∀ E S Q, Q d S → t E τ S Q
def EvA (t : DTA) (τ : DSt) (ds : List D) : Prop := ∀ E S Q, Q ds S → t E τ S Q
theorem ev_c {τ : DSt} {d : D} : Ev (dC d) τ d := fun _ _ _ h => h
theorem ev_var {τ : DSt} {i : Nat} {d : D} (h : τ[i]? = some (some d)) : Ev (dVar i) τ d := fun E S Q q => by
  unfold dVar
  rw [h]
  exact q
theorem eva_nil {τ : DSt} : EvA dNil τ [] := fun _ _ _ h => h
theorem eva_cons {τ : DSt} {t : DTE} {u : DTA} {d : D} {ds : List D} (h1 : Ev t τ d) (h2 : EvA u τ ds) : EvA (dCons t u) τ (d :: ds) := fun E S Q q => h1 E S _ (h2 E S _ q)
theorem ev_tup {τ : DSt} {t : DTA} {ds : List D} (h : EvA t τ ds) (hl : ds.length ≤ 1000) : Ev (dTup t) τ (.tup ds) := fun E S Q q => h E S _ ⟨by rw [line_le]; omega, q⟩
theorem ev_lstF {τ : DSt} {t : DTA} {ds : List D} (h : EvA t τ ds) (hl : ds.length ≤ 1000) : Ev (dLstF t) τ (.rol ds) := fun E S Q q => h E S _ ⟨by rw [line_le]; omega, q⟩
theorem ev_cat {τ : DSt} {a b : DTE} {xs ys : List D} (h1 : Ev a τ (.rol xs)) (h2 : Ev b τ (.rol ys)) (hl : xs.length + ys.length ≤ 1000) : Ev (dOp dAddF a b) τ (.rol (xs ++ ys)) := fun E S Q q => h1 E S _ (h2 E S _ (by
  show catD S (.rol xs) (.rol ys) fun zs => Q (.rol zs) S
  exact ⟨by rw [line_le]; omega, q⟩))
theorem ev_set {e : DTE} {i : Nat} {R : DTS} {A : DEnds} {τ : DSt} {S : DH} {d : D} (h : Ev e τ d) (q : R A (τ.set i (some d)) S) : dSeq (dAsg e (dGN i)) R A τ S := h _ _ _ q
theorem needless_end {Q : DK} {E : DXK} {a b c : D} {x4 x5 : Option D} {u : Nat} {l : List D} {t : Pt} {S : DH} (hl : l.length = 12) (hm : ∀ z ∈ l, ∃ q ∈ menu t, z = ptD q) (hu : u < 12) (h : ∀ q ∈ menu t, Q (ptD q) S) :
    dRet (dOp dIxS (dVar 6) (dVar 3)) (dEnd Q E) [some a, some b, some c, some (.int (u : Nat)), x4, x5, some (.rol l)] S := by
  simp
  refine opt_at (by omega) (by omega) fun z hz => ?_
  obtain ⟨q, hq, rfl⟩ := hm z hz
  exact .same (h q hq)
theorem needless_tl {Q : DK} {E : DXK} {p : Addr} {t : Pt} {j u : Nat} {o2 : Ob} {x4 x5 : Option D} {S : DH} (ho' : t.okP Nm) (hs' : t.all.length ≤ 50) (hu : u < 12)
    (h : ∀ t' : Pt, t' = t ∨ (t.all.length ≤ 16 ∧ t' ∈ menu t) → Q (ptD t') (upo S p o2)) :
    TLn (dEnd Q E) [some (.ref p), some (ptD t), some (.int (j : Nat)), some (.int (u : Nat)), x4, x5, none] (upo S p o2) := by
  have dp' := dp_sz t
  refine dSeqIf_gen fun A1 B1 R hA hB hR => ?_
  simp
  refine ⟨t, rfl, by omega, by omega, ?_⟩
  simp [ptDs_len]
  by_cases c16 : 16 < t.all.length
  · rw [if_pos (by omega)]
    subst hA
    simp
    exact .same (h t (.inl rfl))
  · rw [if_neg (by omega)]
    subst hB
    simp
    subst hR
    refine ev_set (ev_lstF (eva_cons (ev_var rfl) (eva_cons (ev_tup (eva_cons ev_c (eva_cons (ev_tup (eva_cons (ev_var rfl) eva_nil) (by simp)) eva_nil)) (by simp)) (eva_cons (ev_tup (eva_cons ev_c (eva_cons (ev_tup (eva_cons (ev_var rfl) eva_nil) (by simp)) eva_nil)) (by simp)) (eva_cons (ev_tup (eva_cons ev_c (eva_cons (ev_tup (eva_cons (ev_tup (eva_cons ev_c eva_nil) (by simp)) (eva_cons (ev_var rfl) eva_nil)) (by simp)) eva_nil)) (by simp)) eva_nil)))) (by simp)) ?_
    refine ev_set (ev_cat (ev_var rfl) (ev_lstF (eva_cons (ev_tup (eva_cons ev_c (eva_cons (ev_tup (eva_cons (ev_var rfl) (eva_cons (ev_tup (eva_cons ev_c (eva_cons (ev_tup eva_nil (by simp)) eva_nil)) (by simp)) eva_nil)) (by simp)) eva_nil)) (by simp)) (eva_cons (ev_tup (eva_cons ev_c (eva_cons (ev_tup (eva_cons (ev_var rfl) (eva_cons (ev_tup (eva_cons ev_c (eva_cons (ev_tup eva_nil (by simp)) eva_nil)) (by simp)) eva_nil)) (by simp)) eva_nil)) (by simp)) eva_nil)) (by simp)) (by simp)) ?_
    refine ev_set (ev_cat (ev_var rfl) (ev_lstF (eva_cons (ev_tup (eva_cons ev_c (eva_cons (ev_tup (eva_cons (ev_var rfl) (eva_cons (ev_var rfl) eva_nil)) (by simp)) eva_nil)) (by simp)) eva_nil) (by simp)) (by simp)) ?_
    refine ev_set (ev_cat (ev_var rfl) (ev_lstF (eva_cons (ev_tup (eva_cons ev_c (eva_cons (ev_var rfl) eva_nil)) (by simp)) (eva_cons (ev_tup (eva_cons ev_c (eva_cons (ev_tup (eva_cons ev_c (eva_cons (ev_var rfl) eva_nil)) (by simp)) eva_nil)) (by simp)) (eva_cons (ev_tup (eva_cons ev_c (eva_cons (ev_tup (eva_cons (ev_tup (eva_cons ev_c (eva_cons (ev_tup (eva_cons ev_c eva_nil) (by simp)) eva_nil)) (by simp)) (eva_cons (ev_var rfl) eva_nil)) (by simp)) eva_nil)) (by simp)) eva_nil))) (by simp)) (by simp)) ?_
    refine ev_set (ev_cat (ev_var rfl) (ev_lstF (eva_cons (ev_tup (eva_cons ev_c (eva_cons (ev_tup (eva_cons (ev_var rfl) (eva_cons (ev_tup (eva_cons ev_c (eva_cons (ev_tup eva_nil (by simp)) eva_nil)) (by simp)) eva_nil)) (by simp)) eva_nil)) (by simp)) (eva_cons (ev_tup (eva_cons ev_c (eva_cons (ev_tup (eva_cons (ev_var rfl) (eva_cons (ev_tup (eva_cons ev_c (eva_cons (ev_tup (eva_cons (ev_var rfl) (eva_cons (ev_tup (eva_cons ev_c eva_nil) (by simp)) eva_nil)) (by simp)) eva_nil)) (by simp)) eva_nil)) (by simp)) eva_nil)) (by simp)) eva_nil)) (by simp)) (by simp)) ?_
    refine needless_end (t := t) (by simp) (fun z hz => ?_) hu fun q hq => h q (.inr ⟨by omega, hq⟩)
    simp only [List.mem_append, List.mem_cons, List.not_mem_nil, or_false] at hz
    rcases hz with (((( rfl | rfl | rfl | rfl) | rfl | rfl) | rfl) | rfl | rfl | rfl) | rfl | rfl
    · exact ⟨t, by simp [menu], rfl⟩
    · exact ⟨.seq true [t], by simp [menu], rfl⟩
    · exact ⟨.seq false [t], by simp [menu], rfl⟩
    · exact ⟨.seq true [.stay, t], by simp [menu], rfl⟩
    · exact ⟨.seq true [t, pNs], by simp [menu], rfl⟩
    · exact ⟨.seq false [t, pNo], by simp [menu], rfl⟩
    · exact ⟨.seq false [t, t], by simp [menu], rfl⟩
    · exact ⟨.many t, by simp [menu], rfl⟩
    · exact ⟨.many (.many t), by simp [menu], rfl⟩
    · exact ⟨.seq true [.many .stay, t], by simp [menu], rfl⟩
    · exact ⟨.seq true [t, pNo], by simp [menu], rfl⟩
    · exact ⟨.seq false [t, .seq false [t, .stay]], by simp [menu], rfl⟩
end L64
set_option maxRecDepth 100000
set_option maxHeartbeats 4000000
namespace L64
open PySem PySem.Spec L2
open L63
open Rm
open Rc
open Rq
open Sh hiding N_l_feed N_l_leaf N_l_names N_l_pattern deeps_le deeps_mem r_l_feed r_l_leaf r_l_names r_l_pattern sp_l_leaf sp_l_leaf_mono sp_l_names sp_l_names_mono sp_l_pattern sp_l_pattern_mono t_l_feed t_l_leaf t_l_names t_l_pattern
open Dt hiding nkeys sp_l_feed sp_l_feed_mono toPs_map
theorem mem_sz {q : Pt} {ps : List Pt} (h : q ∈ ps) : q.all.length ≤ (ps.flatMap Pt.all).length := by
  obtain ⟨a, c, rfl⟩ := List.append_of_mem h
  simp
  omega
theorem row_len (M : List Pt) : M.length ≤ (M.flatMap Pt.all).length := by
  induction M with
  | nil => simp
  | cons e M ih => rw [List.flatMap_cons, List.length_append, List.length_cons]; have := Pt.all_pos e; omega
theorem r_l_needless (k : Nat) (ds S Q E) (h : sp_l_needless k ds S Q E) : t_l_needless (prevSp sp_l_needless k) (dEnd Q E) (dstart N_l_needless ds) S := by
  obtain ⟨p, t, ws, ms, j, n, o, rfl, hto, hw, hsz, hjk, hj, hk, hp, fo, hn, h⟩ := h
  unfold t_l_needless
  refine dSeq_gen fun R hR => ?_
  simp [-prevSp, dstart]
  refine ⟨p, 12, n, o, by simp, by decide, by decide, hp, fo, by omega, fun u o1 hu fo1 => ?_⟩
  subst hR
  refine dSeqIf_gen fun A1 B1 R hA hB hR => ?_
  have dps := dp_sz t
  have early : 12 < t.all.length ∨ 4 < j → Rt Q (ptD t) (upo S p o1) := fun _ => .same (h t o1 hto hw (by omega) (fun _ => rfl) (fo1.more (by omega)))
  simp [-prevSp]
  by_cases cj : 4 < j
  · rw [if_pos (by omega)]
    subst hA
    simp
    exact early (.inr cj)
  rw [if_neg (by omega)]
  refine ⟨t, rfl, by omega, by omega, ?_⟩
  simp [-prevSp, ptDs_len]
  by_cases cs : 12 < t.all.length
  · rw [if_pos (by omega)]
    subst hA
    simp
    exact early (.inl cs)
  rw [if_neg (by omega)]
  subst hB
  simp [-prevSp]
  obtain ⟨k, rfl⟩ : ∃ m, k = m + 1 := ⟨k - 1, by omega⟩
  have szt := Pt.all_pos t
  have fin : ∀ (t' : Pt) (o2 : Ob) (x4 x5 : Option D), t'.okP Nm → OkW ws ms t' → t'.all.length ≤ t.all.length + 34 → FeedC (n + 1 + 1 + 2 * (k + 1)) o2 →
      TLn (dEnd Q E) [some (.ref p), some (ptD t'), some (.int (j : Nat)), some (.int (u : Nat)), x4, x5, none] (upo S p o2) := fun t' o2 x4 x5 ho' hw' hs' fo2 =>
    needless_tl ho' (by omega) hu fun q hq => by
      rcases hq with rfl | ⟨h16, hq⟩
      · exact h q o2 ho' hw' hs' (fun z => absurd z (by omega)) (fo2.more (by omega))
      · have h1 := menu_sz hq
        exact h q o2 (okp_by ho' fun _ _ h => okw_menu h hq) (okw_menu hw' hq) (by omega) (fun z => absurd z (by omega)) (fo2.more (by omega))
  have call : ∀ (q : Pt) (o' : Ob) (n' : Nat) (Q' : DK) (E' : DXK), q.okP Nm → OkW ws ms q → q.all.length ≤ 50 → FeedC n' o' → n' ≤ n + 2 → (∀ (t' : Pt) (o2 : Ob), t'.okP Nm → OkW ws ms t' → t'.all.length ≤ q.all.length + 34 → FeedC (n' + 2 * (k + 1)) o2 → Q' (ptD t') (upo S p o2)) →
      sp_l_needless k [.ref p, ptD q, .int ((j : Int) + 1)] (upo S p o') Q' E' := fun q o' n' Q' E' a b c d e f =>
    ⟨p, q, ws, ms, j + 1, n', o', rfl, a, b, c, by omega, by omega, by omega, by simp, d, by omega, fun t' o2 a1 a2 a3 _ a4 => by rw [upo_upo]; exact f t' o2 a1 a2 a3 a4⟩
  subst hR
  refine dSeqIf_gen fun A2 B2 R2 hA2 hB2 hR2 => ?_
  cases t with
  | seq b ps =>
    rw [Pt.all_seq, Pt.alls_flat, List.length_cons] at *
    have hsm : Sm 60 (.tup (ptDs ps)) := by
      have h1 := pt_sm _ hto
      have h2 : Sm (2 * (Pt.seq b ps).deep + 1) (ptD (.seq b ps)) := h1.mono (by omega)
      exact (h2.kids (.tup (ptDs ps)) (by simp [ptD])).mono (by omega)
    have tl : ∀ (qs : List Pt) (o2 : Ob) (x4 x5 : Option D), (∀ q ∈ qs, q.okP Nm ∧ OkW ws ms q) → (qs.flatMap Pt.all).length ≤ (ps.flatMap Pt.all).length + 34 → FeedC (n + 1 + 1 + 2 * (k + 1)) o2 →
        R2 (dEnd Q E) [some (.ref p), some (ptD (.seq b qs)), some (.int (j : Nat)), some (.int (u : Nat)), x4, x5, none] (upo S p o2) := by
      intro qs o2 x4 x5 h1 h2 fo2
      subst hR2
      refine dSeqIf_gen fun A3 B3 R3 hA3 hB3 hR3 => ?_
      have fin' := fin (.seq b qs) o2 x4 x5 (fun r hr => by
        rw [Pt.all_seq, Pt.alls_flat] at hr
        rcases List.mem_cons.mp hr with rfl | hr
        · trivial
        · obtain ⟨q, hq, hr⟩ := List.mem_flatMap.mp hr
          exact (h1 q hq).1 r hr) (okw_seq.mpr fun q hq => (h1 q hq).2) (by rw [Pt.all_seq, Pt.alls_flat, List.length_cons]; omega) fo2
      generalize hT : TLn = TL at fin'
      have eR : R3 = TL := by rw [← hT]; exact hR3
      clear hR3 hT
      subst eR
      cases b
      all_goals
        simp [ptD] at fin' ⊢
        subst hB3
        simp
        exact fin'
    have hq0 : ∀ q ∈ ps, q.okP Nm ∧ OkW ws ms q := fun q hq => ⟨okp_seq hto q hq, okw_seq.mp hw q hq⟩
    have inn : ps ≠ [] → ∀ A : DEnds, A.nx = R2 (dEnd Q E) → A2 A [some (.ref p), some (ptD (.seq b ps)), some (.int (j : Nat)), some (.int (u : Nat)), none, none, none] (upo S p o1) := by
      intro hne A hAn
      have hl0 : 0 < ps.length := List.length_pos_iff.mpr hne
      have hl1 : ps.length ≤ (ps.flatMap Pt.all).length := by
        have : ∀ M : List Pt, M.length ≤ (M.flatMap Pt.all).length := fun M => by
          induction M with
          | nil => simp
          | cons e M ih => rw [List.flatMap_cons, List.length_append, List.length_cons]; have := Pt.all_pos e; omega
        exact this ps
      subst hA2
      refine dSeq_gen fun R3 hR3 => ?_
      simp [-prevSp, ptD, ptDs_len]
      refine ⟨p, ps.length, n + 1, o1, by simp, hl0, by omega, by simp, fo1, by omega, fun v o2 hv fo2 => ?_⟩
      rw [upo_upo]
      subst hR3
      refine dSeq_gen fun R3 hR3 => ?_
      have hv' : ps[v] ∈ ps := List.getElem_mem hv
      simp [prevSp, ptD, atI_nat (ptDs_at hv)]
      have hvs : ps[v].all.length ≤ (ps.flatMap Pt.all).length := mem_sz hv'
      refine call ps[v] o2 _ _ _ (hq0 _ hv').1 (hq0 _ hv').2 (by omega) fo2 (by omega) fun t' o3 a1 a2 a3 fo3 => ?_
      subst hR3
      have hsp : (ps.flatMap Pt.all).length = ((ps.take v).flatMap Pt.all).length + ps[v].all.length + ((ps.drop (v + 1)).flatMap Pt.all).length := by
        conv => lhs; rw [← List.take_append_drop v ps, List.drop_eq_getElem_cons hv, List.flatMap_append, List.flatMap_cons, List.length_append, List.length_append]
        omega
      have := tl (ps.take v ++ t' :: ps.drop (v + 1)) o3 (some (.int (v : Nat))) (some (ptD t')) (fun q hq => by
        rcases List.mem_append.mp hq with hq | hq
        · exact hq0 q (List.mem_of_mem_take hq)
        · rcases List.mem_cons.mp hq with rfl | hq
          · exact ⟨a1, a2⟩
          · exact hq0 q (List.mem_of_mem_drop hq)) (by rw [List.flatMap_append, List.flatMap_cons, List.length_append, List.length_append]; omega) (fo3.more (by omega))
      have e0 : ptDs (ps.take v ++ t' :: ps.drop (v + 1)) = (ptDs ps).take v ++ (ptD t' :: (ptDs ps).drop (v + 1)) := by
        rw [ptDs_map, ptDs_map, List.map_append, List.map_cons, List.map_take, List.map_drop]
      have c1 : cutD (ptDs ps) none (some (v : Int)) = (ptDs ps).take v := cutD_take _ _
      have c2 : cutD (ptDs ps) (some ((v : Int) + 1)) none = (ptDs ps).drop (v + 1) := cutD_drop _ (v + 1)
      simp [ptD, c1, c2]
      simp [ptD, e0] at this
      rw [hAn]
      exact ⟨by rw [ptDs_len]; omega, by rw [ptDs_len]; omega, this⟩
    have inTE : inF (.str (if b = true then Str.ofString "then" else Str.ofString "either")) [.str (Str.ofString "then"), .str (Str.ofString "either")] = true := by cases b <;> decide +kernel
    simp [-prevSp, ptD, inTE]
    refine dEq_sm hsm (Sm_tup (n := 59).mpr fun d hd => nomatch hd) ?_
    by_cases e : ps = []
    · subst e
      simp [ptDs]
      subst hB2
      simp
      have := tl [] o1 none none (fun q h => nomatch h) (by simp) (fo1.more (by omega))
      simpa [ptD, ptDs] using this
    · have e2 : ptDs ps ≠ [] := by rw [ptDs_map]; simpa using e
      simp [e2]
      have := inn e
      simp [ptD] at this
      exact this _ rfl
  | many q =>
    rw [Pt.all_many, List.length_cons] at *
    simp [-prevSp, ptD]
    have i1 : inF (.str (Str.ofString "many")) [.str (Str.ofString "then"), .str (Str.ofString "either")] = false := by decide +kernel
    simp [i1]
    subst hB2
    simp
    subst hR2
    refine dSeqIf_gen fun A3 B3 R3 hA3 hB3 hR3 => ?_
    simp
    subst hA3
    simp [prevSp]
    refine call q o1 _ _ _ (okp_many hto) (okw_many.mp hw) (by omega) fo1 (by omega) fun t' o3 a1 a2 a3 fo3 => ?_
    have fin' := fin (.many t') o3 none none (fun r hr => by
      rw [Pt.all_many] at hr
      rcases List.mem_cons.mp hr with rfl | hr
      · trivial
      · exact a1 r hr) (okw_many.mpr a2) (by rw [Pt.all_many, List.length_cons]; omega) (fo3.more (by omega))
    generalize hT : TLn = TL at fin'
    have eR : R3 = TL := by rw [← hT]; exact hR3
    clear hR3 hT
    subst eR
    simp [ptD] at fin' ⊢
    exact fin'
  | _ =>
    have fin' := fin _ o1 none none hto hw (by omega) (fo1.more (by omega))
    generalize hT : TLn = TL at fin'
    have i1 : ∀ x ∈ [Str.ofString "stay", Str.ofString "step", Str.ofString "at", Str.ofString "off"], inF (.str x) [.str (Str.ofString "then"), .str (Str.ofString "either")] = false := by decide +kernel
    have i2 := i1 _ (by simp : Str.ofString "stay" ∈ _)
    have i3 := i1 _ (by simp : Str.ofString "step" ∈ _)
    have i4 := i1 _ (by simp : Str.ofString "at" ∈ _)
    have i5 := i1 _ (by simp : Str.ofString "off" ∈ _)
    first
    | (simp [ptD, i2, i3]
       subst hB2
       simp
       subst hR2
       refine dSeqIf_gen fun A3 B3 R3 hA3 hB3 hR3 => ?_
       simp
       subst hB3
       simp
       have eR : R3 = TL := by rw [← hT]; exact hR3
       clear hR3 hT
       subst eR
       simp [ptD] at fin'
       exact fin')
    | (rename_i b _
       cases b
       all_goals
         simp [ptD, i4, i5]
         subst hB2
         simp
         subst hR2
         refine dSeqIf_gen fun A3 B3 R3 hA3 hB3 hR3 => ?_
         simp
         subst hB3
         simp
         have eR : R3 = TL := by rw [← hT]; exact hR3
         clear hR3 hT
         subst eR
         simp [ptD] at fin'
         exact fin')
end L64
set_option maxRecDepth 100000
set_option maxHeartbeats 4000000
namespace Sh
open PySem PySem.Spec L2 Dt Sh
/-! ShW: the class Web: its objects and what its methods do. -/
abbrev T3 := Str × Str × Str
def triD (t : T3) : D := .tup [.str t.1, .str t.2.1, .str t.2.2]
theorem okT_tri (t : T3) : okT (triD t) = true := rfl
def okT3 (t : T3) : Prop := okS t.1 ∧ okS t.2.1 ∧ okS t.2.2
abbrev triTy : Ty := .tup [.str, .str, .str]
/-- a web, told plainly -/
structure Wb where
  ks : List (Str × List Str)
  ts : List T3
def Wb.names (W : Wb) : List Str := W.ks.map (·.1)
def IsSt (W : Wb) (x : Str) (t : T3) : Prop := (t.1 = "on" ∧ (x, t.2.1, t.2.2) ∈ W.ts) ∨ (t.1 = "back" ∧ (t.2.2, t.2.1, x) ∈ W.ts)
structure OkWb (W : Wb) : Prop where
  nd : W.names.Nodup
  nt : W.ts.Nodup
  tn : ∀ t ∈ W.ts, t.1 ∈ W.names ∧ t.2.2 ∈ W.names
  on : ∀ x ∈ W.names, okS x
  om : ∀ k ∈ W.ks, ∀ m ∈ k.2, okS m
  ot : ∀ t ∈ W.ts, okS t.2.1
  lk : W.ks.length ≤ 100000
  lt : W.ts.length ≤ 100000
structure WRow where
  name : Str
  marks : List Str
  ma : Addr
  sa : Addr
  st : List T3
abbrev rMarks (rs : List WRow) : List (Key × D) := rs.map fun r => (.inr r.name, .ref r.ma)
abbrev rSteps (rs : List WRow) : List (Key × D) := rs.map fun r => (.inr r.name, .ref r.sa)
def rAdr (rs : List WRow) : List Addr := rs.flatMap fun r => [r.ma, r.sa]
structure WebR (C : Addr) (S : DH) (w a b c : Addr) (W : Wb) (rs : List WRow) : Prop where
  ks : rs.map (fun r => (r.name, r.marks)) = W.ks
  ins : S w = some (.ins C [("web_marks", .ref a), ("web_ties", .ref b), ("web_steps", .ref c)])
  sm : S a = some (.dK (rMarks rs))
  st : S b = some (.dN (kset (W.ts.map triD)))
  ss : S c = some (.dK (rSteps rs))
  rm : ∀ r ∈ rs, S r.ma = some (.lst (strsD r.marks))
  rt : ∀ r ∈ rs, S r.sa = some (.dN (kset (r.st.map triD))) ∧ r.st.Nodup ∧ ∀ t, t ∈ r.st ↔ IsSt W r.name t
  nd : (w :: a :: b :: c :: rAdr rs).Nodup
  ok : OkWb W
def WebAt (C : Addr) (S : DH) (w : Addr) (W : Wb) (F : List Addr) : Prop := ∃ a b c rs, F = w :: a :: b :: c :: rAdr rs ∧ WebR C S w a b c W rs
/-- what does not belong to F stays -/
def Fr (S : DH) (F : List Addr) (S' : DH) (F' : List Addr) : Prop := ∀ y o, y ∉ F → S y = some o → y ∉ F' ∧ S' y = some o
theorem Fr.refl {S : DH} {F : List Addr} : Fr S F S F := fun _ _ h e => ⟨h, e⟩
theorem Fr.trans {S S1 S2 : DH} {F F1 F2 : List Addr} (h : Fr S F S1 F1) (k : Fr S1 F1 S2 F2) : Fr S F S2 F2 := fun y o hy e => by
  obtain ⟨h1, h2⟩ := h y o hy e
  exact k y o h1 h2
theorem mem_rAdr {rs : List WRow} {y : Addr} : y ∈ rAdr rs ↔ ∃ r ∈ rs, y = r.ma ∨ y = r.sa := by
  simp [rAdr, List.mem_flatMap]
theorem WebAt.keep {C : Addr} {S S' : DH} {w : Addr} {W : Wb} {F : List Addr} (h : WebAt C S w W F) (k : ∀ y ∈ F, ∀ o, S y = some o → S' y = some o) : WebAt C S' w W F := by
  obtain ⟨a, b, c, rs, rfl, h⟩ := h
  refine ⟨a, b, c, rs, rfl, h.ks, k w (by simp) _ h.ins, k a (by simp) _ h.sm, k b (by simp) _ h.st, k c (by simp) _ h.ss, fun r hr => k _ (by simp [mem_rAdr]; exact .inr (.inr (.inr (.inr ⟨r, hr, .inl rfl⟩)))) _ (h.rm r hr), fun r hr => ?_, h.nd, h.ok⟩
  obtain ⟨h1, h2⟩ := h.rt r hr
  exact ⟨k _ (by simp [mem_rAdr]; exact .inr (.inr (.inr (.inr ⟨r, hr, .inr rfl⟩)))) _ h1, h2⟩
theorem WebAt.ext {C : Addr} {S S' : DH} {w : Addr} {W : Wb} {F : List Addr} (h : WebAt C S w W F) (e : Ext S S') : WebAt C S' w W F := h.keep fun y _ o h => e y o h
/-- rows by names -/
theorem row_at {rs : List WRow} {W : Wb} (h : rs.map (fun r => (r.name, r.marks)) = W.ks) {x : Str} : x ∈ W.names ↔ ∃ r ∈ rs, r.name = x := by
  simp [Wb.names, ← h]
theorem lk_rows {f : WRow → D} : ∀ {rs : List WRow}, (rs.map (·.name)).Nodup → ∀ r ∈ rs, lk (rs.map fun r => ((.inr r.name : Key), f r)) (.inr r.name) = some (f r)
  | q :: rs, nd, r, hr => by
    simp only [List.map_cons, List.nodup_cons] at nd
    rcases List.mem_cons.mp hr with rfl | hr
    · simp [lk]
    · have ne : q.name ≠ r.name := fun e => nd.1 (e ▸ List.mem_map.mpr ⟨r, hr, rfl⟩)
      simp [lk, ne]
      exact lk_rows nd.2 r hr
theorem lk_rows_none {f : WRow → D} {x : Str} : ∀ {rs : List WRow}, (∀ r ∈ rs, r.name ≠ x) → lk (rs.map fun r => ((.inr r.name : Key), f r)) (.inr x) = none
  | [], _ => rfl
  | q :: rs, h => by
    have := h q (List.mem_cons_self ..)
    simp [lk, this]
    exact lk_rows_none fun r hr => h r (List.mem_cons_of_mem _ hr)
theorem WebR.names {C : Addr} {S : DH} {w a b c : Addr} {W : Wb} {rs : List WRow} (h : WebR C S w a b c W rs) : rs.map (·.name) = W.names := by
  simp [Wb.names, ← h.ks]
theorem WebR.len {C : Addr} {S : DH} {w a b c : Addr} {W : Wb} {rs : List WRow} (h : WebR C S w a b c W rs) : rs.length = W.ks.length := by
  rw [← h.ks, List.length_map]
def wMarks (W : Wb) (x : Str) : List Str := ((W.ks.find? fun k => k.1 = x).map (·.2)).getD []
theorem WebR.marks {C : Addr} {S : DH} {w a b c : Addr} {W : Wb} {rs : List WRow} (h : WebR C S w a b c W rs) {r : WRow} (hr : r ∈ rs) : wMarks W r.name = r.marks := by
  have nd : (rs.map (·.name)).Nodup := h.names ▸ h.ok.nd
  unfold wMarks
  rw [← h.ks]
  clear h
  induction rs with
  | nil => cases hr
  | cons q rs ih =>
    simp only [List.map_cons, List.nodup_cons] at nd
    rcases List.mem_cons.mp hr with rfl | hr
    · simp
    · have ne : q.name ≠ r.name := fun e => nd.1 (e ▸ List.mem_map.mpr ⟨r, hr, rfl⟩)
      simp [ne] at ih ⊢
      exact ih hr nd.2
end Sh
set_option maxRecDepth 100000
set_option maxHeartbeats 4000000
namespace Sh
open PySem PySem.Spec L2 Dt Sh
section
variable (C : Addr)
def sp_Web_init : DSp := fun ds S Q _ => ∃ w : Addr, ds = [.ref w] ∧ S w = some (.ins C []) ∧ ∀ S' F, WebAt C S' w ⟨[], []⟩ F → Fr S [w] S' F → Q .non S'
def sp_Web_ask_knot : DSp := fun ds S Q _ => ∃ (w : Addr) (W : Wb) (F : List Addr) (x : Str), ds = [.ref w, .str x] ∧ WebAt C S w W F ∧ x ∈ W.names ∧ Q .non S
def sp_Web_lay_knot : DSp := fun ds S Q _ => ∃ (w : Addr) (W : Wb) (F : List Addr) (x : Str) (d : D) (ms : List Str), ds = [.ref w, .str x, d] ∧ WebAt C S w W F ∧ (d = .tup (strsD ms) ∨ seqD S d = some (strsD ms)) ∧ OkWb ⟨W.ks ++ [(x, ms)], W.ts⟩ ∧
  ∀ S' F', WebAt C S' w ⟨W.ks ++ [(x, ms)], W.ts⟩ F' → Fr S F S' F' → Q .non S'
def sp_Web_put_knot : DSp := fun ds S Q _ => ∃ (w : Addr) (W : Wb) (F : List Addr) (x : Str) (d : D) (ms : List Str), ds = [.ref w, .str x, d] ∧ WebAt C S w W F ∧ (d = .tup (strsD ms) ∨ seqD S d = some (strsD ms)) ∧ OkWb ⟨W.ks ++ [(x, ms)], W.ts⟩ ∧ W.ks.length < 40 ∧
  ∀ S' F', WebAt C S' w ⟨W.ks ++ [(x, ms)], W.ts⟩ F' → Fr S F S' F' → Q .non S'
def sp_Web_lay_tie : DSp := fun ds S Q _ => ∃ (w : Addr) (W : Wb) (F : List Addr) (t : T3), ds = [.ref w, triD t] ∧ WebAt C S w W F ∧ OkWb ⟨W.ks, W.ts ++ [t]⟩ ∧
  ∀ S', WebAt C S' w ⟨W.ks, W.ts ++ [t]⟩ F → Fr S F S' F → Q .non S'
def sp_Web_put_tie : DSp := fun ds S Q _ => ∃ (w : Addr) (W : Wb) (F : List Addr) (t : T3), ds = [.ref w, .str t.1, .str t.2.1, .str t.2.2] ∧ WebAt C S w W F ∧ OkWb ⟨W.ks, W.ts ++ [t]⟩ ∧ W.ts.length < 300 ∧
  ∀ S', WebAt C S' w ⟨W.ks, W.ts ++ [t]⟩ F → Fr S F S' F → Q .non S'
/-- texts, sorted -/
def sortS (xs : List Str) : List D := srtD (strsD xs)
def sp_Web_knots : DSp := fun ds S Q _ => ∃ (w : Addr) (W : Wb) (F : List Addr), ds = [.ref w] ∧ WebAt C S w W F ∧ (Q (.rol (sortS W.names)) S ∨ ∀ q, S q = none → Q (.ref q) (upo S q (.lst (sortS W.names))))
def sp_Web_marks : DSp := fun ds S Q _ => ∃ (w : Addr) (W : Wb) (F : List Addr) (x : Str), ds = [.ref w, .str x] ∧ WebAt C S w W F ∧ x ∈ W.names ∧ (Q (.rol (sortS (wMarks W x))) S ∨ ∀ q, S q = none → Q (.ref q) (upo S q (.lst (sortS (wMarks W x)))))
def sp_Web_has_tie : DSp := fun ds S Q _ => ∃ (w : Addr) (W : Wb) (F : List Addr) (t : T3), ds = [.ref w, .str t.1, .str t.2.1, .str t.2.2] ∧ WebAt C S w W F ∧ Q (.bl (decide (t ∈ W.ts))) S
/-- the steps from a knot, each once, sorted -/
structure StepsOf (W : Wb) (x : Str) (st : List T3) : Prop where
  nd : st.Nodup
  mem : ∀ t, t ∈ st ↔ IsSt W x t
  srt : (st.map triD).Pairwise fun a b => ltD a b = true
def sp_Web_steps : DSp := fun ds S Q _ => ∃ (w : Addr) (W : Wb) (F : List Addr) (x : Str), ds = [.ref w, .str x] ∧ WebAt C S w W F ∧ x ∈ W.names ∧ ((∀ st, StepsOf W x st → Q (.rol (st.map triD)) S) ∨ ∀ st q, StepsOf W x st → S q = none → Q (.ref q) (upo S q (.lst (st.map triD))))
/-- a web's rows -/
structure RowsOf (W : Wb) (d : D) : Prop where
  ex : ∃ (ns : List Str) (ts : List T3), ns.Perm W.names ∧ ts.Perm W.ts ∧ sortS W.names = strsD ns ∧ srtD (W.ts.map triD) = ts.map triD ∧
    d = .tup [.tup (ns.map fun x => .tup [.str x, .tup (sortS (wMarks W x))]), .tup (ts.map triD)]
def sp_Web_rows : DSp := fun ds S Q _ => ∃ (w : Addr) (W : Wb) (F : List Addr), ds = [.ref w] ∧ WebAt C S w W F ∧ ∀ d, RowsOf W d → Q d S
end
def t_Web_init (C_Web : Addr) : DTS := (dSeq (dPutF C_Web "web_marks" (dVar 0) dDnK)
    (dSeq (dPutF C_Web "web_ties" (dVar 0) dDnN)
    (dPutF C_Web "web_steps" (dVar 0) dDnK)))
abbrev N_Web_init : List Str := ["self"]
def t_Web_ask_knot (C_Web : Addr) : DTS := (dIf (dTest (dOp (dIn true) (dVar 1) (dFld C_Web "web_marks" (dVar 0))))
      dNever
      dNx)
abbrev N_Web_ask_knot : List Str := ["self", "name"]
def t_Web_lay_knot (C_Web : Addr) : DTS := (dSeq (dPut (dFld C_Web "web_marks" (dVar 0)) (dVar 1) (dCB cListA (dCons (dVar 2) dNil)))
    (dPut (dFld C_Web "web_steps" (dVar 0)) (dVar 1) dDnN))
abbrev N_Web_lay_knot : List Str := ["self", "name", "marks"]
def t_Web_lay_tie (C_Web : Addr) : DTS := (dSeq (dAsg (dVar 1) (dGTupA 3 (dGCons (dGN 2) (dGCons (dGN 3) (dGCons (dGN 4) dGNil)))))
    (dSeq (dPut (dFld C_Web "web_ties" (dVar 0)) (dVar 1) (dC (.bl true)))
    (dSeq (dPut (dOp dIxS (dFld C_Web "web_steps" (dVar 0)) (dVar 2)) (dTup (dCons (dC (.str "on")) (dCons (dVar 3) (dCons (dVar 4) dNil)))) (dC (.bl true)))
    (dPut (dOp dIxS (dFld C_Web "web_steps" (dVar 0)) (dVar 4)) (dTup (dCons (dC (.str "back")) (dCons (dVar 3) (dCons (dVar 2) dNil)))) (dC (.bl true))))))
abbrev N_Web_lay_tie : List Str := ["self", "tie", "one", "word", "other"]
def t_Web_knots (C_Web : Addr) : DTS := (dRet (dCB cSortA (dCons (dFld C_Web "web_marks" (dVar 0)) dNil)))
abbrev N_Web_knots : List Str := ["self"]
def t_Web_has_tie (C_Web : Addr) : DTS := (dRet (dOp (dIn false) (dTup (dCons (dVar 1) (dCons (dVar 2) (dCons (dVar 3) dNil)))) (dFld C_Web "web_ties" (dVar 0))))
abbrev N_Web_has_tie : List Str := ["self", "one", "word", "other"]
def t_Web_put_knot (C_Web : Addr) : DTS := (dSeq (dIf (dTest (dOp (dIn false) (dVar 1) (dFld C_Web "web_marks" (dVar 0))))
      dNever
      dNx)
    (dSeq (dIf (dTest (dOp rGe (dCB cLen (dCons (dFld C_Web "web_marks" (dVar 0)) dNil)) (dC (.int 40))))
      dNever
      dNx)
    (dDrop (dMeth C_Web "lay_knot" (sp_Web_lay_knot C_Web) (dVar 0) (dCons (dVar 1) (dCons (dVar 2) dNil))))))
abbrev N_Web_put_knot : List Str := ["self", "name", "marks"]
def t_Web_put_tie (C_Web : Addr) : DTS := (dSeq (dDrop (dMeth C_Web "ask_knot" (sp_Web_ask_knot C_Web) (dVar 0) (dCons (dVar 1) dNil)))
    (dSeq (dDrop (dMeth C_Web "ask_knot" (sp_Web_ask_knot C_Web) (dVar 0) (dCons (dVar 3) dNil)))
    (dSeq (dIf (dTest (dMeth C_Web "has_tie" (sp_Web_has_tie C_Web) (dVar 0) (dCons (dVar 1) (dCons (dVar 2) (dCons (dVar 3) dNil)))))
      dNever
      dNx)
    (dSeq (dIf (dTest (dOp rGe (dCB cLen (dCons (dFld C_Web "web_ties" (dVar 0)) dNil)) (dC (.int 300))))
      dNever
      dNx)
    (dDrop (dMeth C_Web "lay_tie" (sp_Web_lay_tie C_Web) (dVar 0) (dCons (dTup (dCons (dVar 1) (dCons (dVar 2) (dCons (dVar 3) dNil)))) dNil)))))))
abbrev N_Web_put_tie : List Str := ["self", "one", "word", "other"]
def t_Web_marks (C_Web : Addr) : DTS := (dSeq (dDrop (dMeth C_Web "ask_knot" (sp_Web_ask_knot C_Web) (dVar 0) (dCons (dVar 1) dNil)))
    (dRet (dCB cSortA (dCons (dOp dIxS (dFld C_Web "web_marks" (dVar 0)) (dVar 1)) dNil))))
abbrev N_Web_marks : List Str := ["self", "knot"]
def t_Web_steps (C_Web : Addr) : DTS := (dSeq (dDrop (dMeth C_Web "ask_knot" (sp_Web_ask_knot C_Web) (dVar 0) (dCons (dVar 1) dNil)))
    (dRet (dCB cSortA (dCons (dOp dIxS (dFld C_Web "web_steps" (dVar 0)) (dVar 1)) dNil))))
abbrev N_Web_steps : List Str := ["self", "knot"]
def t_Web_rows (C_Web : Addr) : DTS := (dSeq (dAsg (dFz (dLc (dSeqI (dMeth C_Web "knots" (sp_Web_knots C_Web) (dVar 0) dNil)) (dGN 2) dYes (dTup (dCons (dVar 2) (dCons (dCB cTuple (dCons (dMeth C_Web "marks" (sp_Web_marks C_Web) (dVar 0) (dCons (dVar 2) dNil)) dNil)) dNil))) [2])) (dGN 1))
    (dRet (dTup (dCons (dCB cTuple (dCons (dVar 1) dNil)) (dCons (dCB cTuple (dCons (dCB cSortAF (dCons (dFld C_Web "web_ties" (dVar 0)) dNil)) dNil)) dNil)))))
abbrev N_Web_rows : List Str := ["self", "knots", "name"]
@[simp] theorem fw1 (a b c : D) : List.lookup (Str.ofString "web_marks") [(Str.ofString "web_marks", a), (Str.ofString "web_ties", b), (Str.ofString "web_steps", c)] = some a := by simp [List.lookup]
@[simp] theorem fw2 (a b c : D) : List.lookup (Str.ofString "web_ties") [(Str.ofString "web_marks", a), (Str.ofString "web_ties", b), (Str.ofString "web_steps", c)] = some b := by
  have e : (Str.ofString "web_ties" == Str.ofString "web_marks") = false := by decide +kernel
  simp [List.lookup, e]
@[simp] theorem fw3 (a b c : D) : List.lookup (Str.ofString "web_steps") [(Str.ofString "web_marks", a), (Str.ofString "web_ties", b), (Str.ofString "web_steps", c)] = some c := by
  have e : (Str.ofString "web_steps" == Str.ofString "web_marks") = false := by decide +kernel
  have e2 : (Str.ofString "web_steps" == Str.ofString "web_ties") = false := by decide +kernel
  simp [List.lookup, e, e2]
theorem fwn {m : Str} (a b c : D) (h1 : (m == Str.ofString "web_marks") = false) (h2 : (m == Str.ofString "web_ties") = false) (h3 : (m == Str.ofString "web_steps") = false) : List.lookup m [(Str.ofString "web_marks", a), (Str.ofString "web_ties", b), (Str.ofString "web_steps", c)] = none := by simp [List.lookup, h1, h2, h3]
@[simp] theorem fwn_ask_knot (a b c : D) : List.lookup (Str.ofString "ask_knot") [(Str.ofString "web_marks", a), (Str.ofString "web_ties", b), (Str.ofString "web_steps", c)] = none := fwn a b c (by decide +kernel) (by decide +kernel) (by decide +kernel)
@[simp] theorem fwn_lay_knot (a b c : D) : List.lookup (Str.ofString "lay_knot") [(Str.ofString "web_marks", a), (Str.ofString "web_ties", b), (Str.ofString "web_steps", c)] = none := fwn a b c (by decide +kernel) (by decide +kernel) (by decide +kernel)
@[simp] theorem fwn_lay_tie (a b c : D) : List.lookup (Str.ofString "lay_tie") [(Str.ofString "web_marks", a), (Str.ofString "web_ties", b), (Str.ofString "web_steps", c)] = none := fwn a b c (by decide +kernel) (by decide +kernel) (by decide +kernel)
@[simp] theorem fwn_cut_tie (a b c : D) : List.lookup (Str.ofString "cut_tie") [(Str.ofString "web_marks", a), (Str.ofString "web_ties", b), (Str.ofString "web_steps", c)] = none := fwn a b c (by decide +kernel) (by decide +kernel) (by decide +kernel)
@[simp] theorem fwn_put_knot (a b c : D) : List.lookup (Str.ofString "put_knot") [(Str.ofString "web_marks", a), (Str.ofString "web_ties", b), (Str.ofString "web_steps", c)] = none := fwn a b c (by decide +kernel) (by decide +kernel) (by decide +kernel)
@[simp] theorem fwn_take_knot (a b c : D) : List.lookup (Str.ofString "take_knot") [(Str.ofString "web_marks", a), (Str.ofString "web_ties", b), (Str.ofString "web_steps", c)] = none := fwn a b c (by decide +kernel) (by decide +kernel) (by decide +kernel)
@[simp] theorem fwn_ties_at (a b c : D) : List.lookup (Str.ofString "ties_at") [(Str.ofString "web_marks", a), (Str.ofString "web_ties", b), (Str.ofString "web_steps", c)] = none := fwn a b c (by decide +kernel) (by decide +kernel) (by decide +kernel)
@[simp] theorem fwn_put_tie (a b c : D) : List.lookup (Str.ofString "put_tie") [(Str.ofString "web_marks", a), (Str.ofString "web_ties", b), (Str.ofString "web_steps", c)] = none := fwn a b c (by decide +kernel) (by decide +kernel) (by decide +kernel)
@[simp] theorem fwn_take_tie (a b c : D) : List.lookup (Str.ofString "take_tie") [(Str.ofString "web_marks", a), (Str.ofString "web_ties", b), (Str.ofString "web_steps", c)] = none := fwn a b c (by decide +kernel) (by decide +kernel) (by decide +kernel)
@[simp] theorem fwn_put_mark (a b c : D) : List.lookup (Str.ofString "put_mark") [(Str.ofString "web_marks", a), (Str.ofString "web_ties", b), (Str.ofString "web_steps", c)] = none := fwn a b c (by decide +kernel) (by decide +kernel) (by decide +kernel)
@[simp] theorem fwn_take_mark (a b c : D) : List.lookup (Str.ofString "take_mark") [(Str.ofString "web_marks", a), (Str.ofString "web_ties", b), (Str.ofString "web_steps", c)] = none := fwn a b c (by decide +kernel) (by decide +kernel) (by decide +kernel)
@[simp] theorem fwn_knots (a b c : D) : List.lookup (Str.ofString "knots") [(Str.ofString "web_marks", a), (Str.ofString "web_ties", b), (Str.ofString "web_steps", c)] = none := fwn a b c (by decide +kernel) (by decide +kernel) (by decide +kernel)
@[simp] theorem fwn_marks (a b c : D) : List.lookup (Str.ofString "marks") [(Str.ofString "web_marks", a), (Str.ofString "web_ties", b), (Str.ofString "web_steps", c)] = none := fwn a b c (by decide +kernel) (by decide +kernel) (by decide +kernel)
@[simp] theorem fwn_has_tie (a b c : D) : List.lookup (Str.ofString "has_tie") [(Str.ofString "web_marks", a), (Str.ofString "web_ties", b), (Str.ofString "web_steps", c)] = none := fwn a b c (by decide +kernel) (by decide +kernel) (by decide +kernel)
@[simp] theorem fwn_steps (a b c : D) : List.lookup (Str.ofString "steps") [(Str.ofString "web_marks", a), (Str.ofString "web_ties", b), (Str.ofString "web_steps", c)] = none := fwn a b c (by decide +kernel) (by decide +kernel) (by decide +kernel)
@[simp] theorem fwn_rows (a b c : D) : List.lookup (Str.ofString "rows") [(Str.ofString "web_marks", a), (Str.ofString "web_ties", b), (Str.ofString "web_steps", c)] = none := fwn a b c (by decide +kernel) (by decide +kernel) (by decide +kernel)
@[simp] theorem fwn_like (a b c : D) : List.lookup (Str.ofString "like") [(Str.ofString "web_marks", a), (Str.ofString "web_ties", b), (Str.ofString "web_steps", c)] = none := fwn a b c (by decide +kernel) (by decide +kernel) (by decide +kernel)
section
variable {C : Addr}
theorem IsSt.ok {W : Wb} (ok : OkWb W) {x : Str} {t : T3} (hx : okS x) (h : IsSt W x t) : okT3 t := by
  obtain ⟨t1, t2, t3⟩ := t
  rcases h with ⟨h1, h2⟩ | ⟨h1, h2⟩
  · simp at h1 h2; subst h1
    have a1 := ok.ot _ h2
    exact ⟨ok_lit _, a1, ok.on _ (ok.tn _ h2).2⟩
  · simp at h1 h2; subst h1
    have a1 := ok.ot _ h2
    exact ⟨ok_lit _, a1, ok.on _ (ok.tn _ h2).1⟩
theorem rAdr_cons (r : WRow) (rs : List WRow) : rAdr (r :: rs) = r.ma :: r.sa :: rAdr rs := rfl
theorem rAdr_ms : ∀ {rs : List WRow}, (rAdr rs).Nodup → ∀ r ∈ rs, ∀ q ∈ rs, r.ma ≠ q.sa
  | s :: rs, nd, r, hr, q, hq => by
    rw [rAdr_cons] at nd
    simp [mem_rAdr] at nd
    rcases List.mem_cons.mp hr with e1 | hr' <;> rcases List.mem_cons.mp hq with e2 | hq'
    · rw [e1, e2]; exact nd.1.1
    · rw [e1]; exact (nd.1.2 q hq').2
    · rw [e2]; exact fun e => (nd.2.1 r hr').1 e.symm
    · exact rAdr_ms nd.2.2 r hr' q hq'
theorem name_inj : ∀ {rs : List WRow}, (rs.map (·.name)).Nodup → ∀ r ∈ rs, ∀ q ∈ rs, r.name = q.name → r = q
  | s :: rs, nd, r, hr, q, hq, e => by
    simp only [List.map_cons, List.nodup_cons] at nd
    rcases List.mem_cons.mp hr with e1 | hr' <;> rcases List.mem_cons.mp hq with e2 | hq'
    · rw [e1, e2]
    · exact absurd (List.mem_map.mpr ⟨q, hq', by rw [← e, e1]⟩) nd.1
    · exact absurd (List.mem_map.mpr ⟨r, hr', by rw [e, e2]⟩) nd.1
    · exact name_inj nd.2 r hr' q hq' e
theorem WebR.ms {S : DH} {w a b c : Addr} {W : Wb} {rs : List WRow} (h : WebR C S w a b c W rs) (x : Str) : (lk (rMarks rs) (.inr x)).isSome = decide (x ∈ W.names) := by
  have nd : (rs.map (·.name)).Nodup := h.names ▸ h.ok.nd
  by_cases hx : x ∈ W.names
  · obtain ⟨r, hr, rfl⟩ := (row_at h.ks).mp hx
    rw [lk_rows nd r hr]; simp [hx]
  · rw [lk_rows_none fun r hr e => hx ((row_at h.ks).mpr ⟨r, hr, e⟩)]; simp [hx]
end
section
variable {C : Addr}
end
end Sh
set_option maxRecDepth 100000
set_option maxHeartbeats 4000000
namespace Sh
open PySem PySem.Spec L2 Dt Sh
/-! marks put on and taken off -/
def Wb.setM (W : Wb) (x : Str) (ms : List Str) : Wb := ⟨W.ks.map fun k => if k.1 = x then (k.1, ms) else k, W.ts⟩
theorem Wb.setM_names (W : Wb) (x : Str) (ms : List Str) : (W.setM x ms).names = W.names := by
  simp only [Wb.names, Wb.setM, List.map_map]
  exact List.map_congr_left fun k _ => by simp only [Function.comp]; split <;> rfl
theorem OkWb.setM {W : Wb} (h : OkWb W) (x : Str) {ms : List Str} (hm : ∀ m ∈ ms, okS m) : OkWb (W.setM x ms) := by
  have e := W.setM_names x ms
  refine ⟨by rw [e]; exact h.nd, h.nt, fun t ht => by rw [e]; exact h.tn t ht, fun y hy => h.on y (by rwa [e] at hy), fun k hk m hmk => ?_, h.ot, by simpa [Wb.setM] using h.lk, h.lt⟩
  obtain ⟨k', hk', rfl⟩ := List.mem_map.mp hk
  split at hmk
  · exact hm m hmk
  · exact h.om k' hk' m hmk
theorem rAdr_ma : ∀ {rs : List WRow}, (rAdr rs).Nodup → ∀ r ∈ rs, ∀ q ∈ rs, r.ma = q.ma → r = q
  | s :: rs, nd, r, hr, q, hq, e => by
    rw [rAdr_cons] at nd
    simp [mem_rAdr] at nd
    rcases List.mem_cons.mp hr with e1 | hr' <;> rcases List.mem_cons.mp hq with e2 | hq'
    · rw [e1, e2]
    · exact absurd (e1 ▸ e) (nd.1.2 q hq').1
    · exact absurd (e2 ▸ e).symm (nd.1.2 r hr').1
    · exact rAdr_ma nd.2.2 r hr' q hq' e
def rSetM (rs : List WRow) (x : Str) (ms : List Str) : List WRow := rs.map fun q => if q.name = x then { q with marks := ms } else q
theorem rSetM_adr (rs : List WRow) (x : Str) (ms : List Str) : rAdr (rSetM rs x ms) = rAdr rs := by
  induction rs with
  | nil => rfl
  | cons q rs ih =>
    show rAdr ((if q.name = x then { q with marks := ms } else q) :: rSetM rs x ms) = _
    rw [rAdr_cons, rAdr_cons, ih]
    split <;> rfl
theorem WebR.setM {C : Addr} {S : DH} {w a b c : Addr} {W : Wb} {rs : List WRow} (h : WebR C S w a b c W rs) {r : WRow} (hr : r ∈ rs) {ms : List Str} (hm : ∀ m ∈ ms, okS m) :
    WebR C (upo S r.ma (.lst (strsD ms))) w a b c (W.setM r.name ms) (rSetM rs r.name ms) := by
  have nd : (rs.map (·.name)).Nodup := h.names ▸ h.ok.nd
  have na : (rAdr rs).Nodup := by
    have := h.nd
    simp only [List.nodup_cons] at this
    exact this.2.2.2.2
  have hma : r.ma ∈ rAdr rs := mem_rAdr.mpr ⟨r, hr, .inl rfl⟩
  have nw : w ≠ r.ma := fun e => by have := h.nd; simp only [List.nodup_cons, List.mem_cons] at this; exact this.1 (.inr (.inr (.inr (e ▸ hma))))
  have nA : a ≠ r.ma := fun e => by have := h.nd; simp only [List.nodup_cons, List.mem_cons] at this; exact this.2.1 (.inr (.inr (e ▸ hma)))
  have nB : b ≠ r.ma := fun e => by have := h.nd; simp only [List.nodup_cons, List.mem_cons] at this; exact this.2.2.1 (.inr (e ▸ hma))
  have nC : c ≠ r.ma := fun e => by have := h.nd; simp only [List.nodup_cons, List.mem_cons] at this; exact this.2.2.2.1 (e ▸ hma)
  refine ⟨?_, ?_, ?_, ?_, ?_, ?_, ?_, ?_, h.ok.setM _ hm⟩
  · show _ = W.ks.map _
    rw [← h.ks, rSetM, List.map_map, List.map_map]
    exact List.map_congr_left fun q _ => by simp only [Function.comp]; split <;> rfl
  · rw [upo_ne nw]; exact h.ins
  · rw [upo_ne nA, h.sm, rMarks, rMarks, rSetM, List.map_map]
    refine congrArg (fun z => some (Ob.dK z)) (List.map_congr_left fun q _ => ?_)
    simp only [Function.comp]; split <;> rfl
  · rw [upo_ne nB]; exact h.st
  · rw [upo_ne nC, h.ss, rSteps, rSteps, rSetM, List.map_map]
    refine congrArg (fun z => some (Ob.dK z)) (List.map_congr_left fun q _ => ?_)
    simp only [Function.comp]; split <;> rfl
  · intro q' hq'
    obtain ⟨q, hq, rfl⟩ := List.mem_map.mp hq'
    split
    · rename_i e
      have := name_inj nd q hq r hr e
      subst this
      exact upo_same
    · rename_i e
      rw [upo_ne fun z => e (by rw [rAdr_ma na q hq r hr z])]
      exact h.rm q hq
  · intro q' hq'
    obtain ⟨q, hq, rfl⟩ := List.mem_map.mp hq'
    have e0 : (if q.name = r.name then { q with marks := ms } else q : WRow).sa = q.sa := by split <;> rfl
    have e1 : (if q.name = r.name then { q with marks := ms } else q : WRow).st = q.st := by split <;> rfl
    have e2 : (if q.name = r.name then { q with marks := ms } else q : WRow).name = q.name := by split <;> rfl
    rw [e0, e1, e2, upo_ne fun z => rAdr_ms na r hr q hq z.symm]
    exact h.rt q hq
  · rw [rSetM_adr]; exact h.nd
section
variable (C : Addr)
def sp_Web_put_mark : DSp := fun ds S Q _ => ∃ (w : Addr) (W : Wb) (F : List Addr) (x m : Str), ds = [.ref w, .str x, .str m] ∧ WebAt C S w W F ∧ x ∈ W.names ∧ m ∉ wMarks W x ∧ (wMarks W x).length < 5 ∧ okS m ∧
  ∀ S', WebAt C S' w (W.setM x (wMarks W x ++ [m])) F → Fr S F S' F → Q .non S'
def sp_Web_take_mark : DSp := fun ds S Q _ => ∃ (w : Addr) (W : Wb) (F : List Addr) (x m : Str), ds = [.ref w, .str x, .str m] ∧ WebAt C S w W F ∧ x ∈ W.names ∧ m ∈ wMarks W x ∧
  ∀ S', WebAt C S' w (W.setM x ((wMarks W x).erase m)) F → Fr S F S' F → Q .non S'
end
def t_Web_put_mark (C_Web : Addr) : DTS := (dSeq (dDrop (dMeth C_Web "ask_knot" (sp_Web_ask_knot C_Web) (dVar 0) (dCons (dVar 1) dNil)))
    (dSeq (dIf (dTest (dOp (dIn false) (dVar 2) (dOp dIxS (dFld C_Web "web_marks" (dVar 0)) (dVar 1))))
      dNever
      dNx)
    (dSeq (dIf (dTest (dOp rGe (dCB cLen (dCons (dOp dIxS (dFld C_Web "web_marks" (dVar 0)) (dVar 1)) dNil)) (dC (.int 5))))
      dNever
      dNx)
    (dDrop (dBM "list" mAppend (dOp dIxS (dFld C_Web "web_marks" (dVar 0)) (dVar 1)) (dCons (dVar 2) dNil))))))
abbrev N_Web_put_mark : List Str := ["self", "knot", "mark"]
def t_Web_take_mark (C_Web : Addr) : DTS := (dSeq (dDrop (dMeth C_Web "ask_knot" (sp_Web_ask_knot C_Web) (dVar 0) (dCons (dVar 1) dNil)))
    (dSeq (dIf (dTest (dOp (dIn true) (dVar 2) (dOp dIxS (dFld C_Web "web_marks" (dVar 0)) (dVar 1))))
      dNever
      dNx)
    (dDrop (dBM "list" mRemove (dOp dIxS (dFld C_Web "web_marks" (dVar 0)) (dVar 1)) (dCons (dVar 2) dNil)))))
abbrev N_Web_take_mark : List Str := ["self", "knot", "mark"]
section
variable {C : Addr}
theorem Fr.row {S : DH} {w a b c : Addr} {rs : List WRow} {r : WRow} (hr : r ∈ rs) {o : Ob} : Fr S (w :: a :: b :: c :: rAdr rs) (upo S r.ma o) (w :: a :: b :: c :: rAdr rs) := fun y u hy e =>
  ⟨hy, by rw [upo_ne fun z => hy (by rw [z]; simp [mem_rAdr]; exact .inr (.inr (.inr (.inr ⟨r, hr, .inl rfl⟩))))]; exact e⟩
end
end Sh
set_option maxRecDepth 100000
set_option maxHeartbeats 4000000
namespace L64
open PySem PySem.Spec L2
open L63
open Rm
open Rc
open Rq
open Sh hiding N_l_feed N_l_leaf N_l_names N_l_pattern deeps_le deeps_mem r_l_feed r_l_leaf r_l_names r_l_pattern sp_l_leaf sp_l_leaf_mono sp_l_names sp_l_names_mono sp_l_pattern sp_l_pattern_mono t_l_feed t_l_leaf t_l_names t_l_pattern
open Dt hiding nkeys sp_l_feed sp_l_feed_mono toPs_map
/-! K64v: nothing needless, looked at by the law. -/
theorem hd_many {q : Pt} (h : okM q) : hd q ≠ "many" ∧ hd q ≠ "stay" := by
  obtain ⟨h1, h2, _⟩ := h
  cases q with
  | stay => exact absurd rfl h2
  | step b w => exact ⟨by simp only [hd]; decide, by simp only [hd]; decide⟩
  | mark b m => cases b <;> exact ⟨by simp only [hd]; decide, by simp only [hd]; decide⟩
  | seq b ps => cases b <;> exact ⟨by simp only [hd]; decide, by simp only [hd]; decide⟩
  | many p => simp [isMany] at h1
theorem hd_then {q : Pt} : hd q = "then" ↔ ∃ ps, q = .seq true ps := by
  cases q with
  | stay => exact ⟨fun z => absurd z (by simp only [hd]; decide), fun ⟨_, z⟩ => by cases z⟩
  | step b w => exact ⟨fun z => absurd z (by simp only [hd]; decide), fun ⟨_, z⟩ => by cases z⟩
  | mark b m => cases b <;> exact ⟨fun z => absurd z (by simp only [hd]; decide), fun ⟨_, z⟩ => by cases z⟩
  | seq b ps =>
    cases b
    · exact ⟨fun z => absurd z (by simp only [hd]; decide), fun ⟨_, z⟩ => by cases z⟩
    · exact ⟨fun _ => ⟨ps, rfl⟩, fun _ => rfl⟩
  | many p => exact ⟨fun z => absurd z (by simp only [hd]; decide), fun ⟨_, z⟩ => by cases z⟩
theorem hd_either {q : Pt} : hd q = "either" ↔ ∃ ps, q = .seq false ps := by
  cases q with
  | stay => exact ⟨fun z => absurd z (by simp only [hd]; decide), fun ⟨_, z⟩ => by cases z⟩
  | step b w => exact ⟨fun z => absurd z (by simp only [hd]; decide), fun ⟨_, z⟩ => by cases z⟩
  | mark b m => cases b <;> exact ⟨fun z => absurd z (by simp only [hd]; decide), fun ⟨_, z⟩ => by cases z⟩
  | seq b ps =>
    cases b
    · exact ⟨fun _ => ⟨ps, rfl⟩, fun _ => rfl⟩
    · exact ⟨fun z => absurd z (by simp only [hd]; decide), fun ⟨_, z⟩ => by cases z⟩
  | many p => exact ⟨fun z => absurd z (by simp only [hd]; decide), fun ⟨_, z⟩ => by cases z⟩
theorem hd_stay {q : Pt} : hd q = "stay" ↔ q = .stay := by
  cases q with
  | stay => exact ⟨fun _ => rfl, fun _ => rfl⟩
  | step b w => exact ⟨fun z => absurd z (by simp only [hd]; decide), fun z => by cases z⟩
  | mark b m => cases b <;> exact ⟨fun z => absurd z (by simp only [hd]; decide), fun z => by cases z⟩
  | seq b ps => cases b <;> exact ⟨fun z => absurd z (by simp only [hd]; decide), fun z => by cases z⟩
  | many p => exact ⟨fun z => absurd z (by simp only [hd]; decide), fun z => by cases z⟩
theorem in_te1 : inF (D.str "then") [D.str "then", D.str "either"] = true := by decide +kernel
theorem in_te2 : inF (D.str "either") [D.str "then", D.str "either"] = true := by decide +kernel
theorem in_te3 : inF (D.str "many") [D.str "then", D.str "either"] = false := by decide +kernel
theorem in_ms {p : Pt} (h : okM p) : inF (D.str (hd p)) [D.str "many", D.str "stay"] = false := by
  obtain ⟨h1, h2, _⟩ := h
  cases p with
  | stay => exact absurd rfl h2
  | step b w => simp only [hd]; decide +kernel
  | mark b m => cases b <;> (simp only [hd]; decide +kernel)
  | seq b ps => cases b <;> (simp only [hd]; decide +kernel)
  | many p => simp [isMany] at h1
theorem mem_dp : ∀ {T t : Pt}, t ∈ T.all → t.deep ≤ T.deep := by
  intro T
  refine pt_ind (P := fun T => ∀ {t : Pt}, t ∈ T.all → t.deep ≤ T.deep) ?_ (fun b w => ?_) (fun b m => ?_) (fun b ps ih => ?_) (fun p ih => ?_) T
  · intro t h; rw [List.mem_singleton.mp (show t ∈ [Pt.stay] from h)]; exact Nat.le_refl _
  · intro t h; rw [List.mem_singleton.mp (show t ∈ [Pt.step b w] from h)]; exact Nat.le_refl _
  · intro t h; rw [List.mem_singleton.mp (show t ∈ [Pt.mark b m] from h)]; exact Nat.le_refl _
  · intro t h
    rw [Pt.all_seq, Pt.alls_flat] at h
    rcases List.mem_cons.mp h with rfl | h
    · exact Nat.le_refl _
    · obtain ⟨p, hp, h⟩ := List.mem_flatMap.mp h
      have h1 := ih p hp h
      have h2 := deeps_mem hp
      rw [Pt.deep_seq]
      omega
  · intro t h
    rw [Pt.all_many] at h
    rcases List.mem_cons.mp h with rfl | h
    · exact Nat.le_refl _
    · have h1 := ih h
      rw [Pt.deep_many]
      omega
/-- heads of the parts -/
theorem heads_lc {v : Nat} {ps : List Pt} {S : DH} {Q : DK} {τ : DSt} (hv : v < τ.length) (hl : ps.length ≤ 1000) (h : Q (.rol (strsD (ps.map hd))) S) :
    newO S (.lst []) fun q S1 => dLcL (dGN v) dYes (dOp dIxS (dVar v) (dC (.int 0))) DW0 τ (fun _ => True) q (fzK Q (.ref q)) (ptDs ps) S1 := by
  refine lcF_inv (G := fun _ => True) (fun i acc S1 => acc = strsD ((ps.map hd).take i) ∧ S1 = S) ⟨rfl, rfl⟩ (fun _ _ _ _ _ _ _ => trivial) ?_ (by rw [ptDs_len]; exact Nat.lt_of_le_of_lt hl (by decide)) ?_
  · rintro i d acc S1 q N hd1 ⟨rfl, rfl⟩ hq hac hN
    have hi : i < ps.length := by
      have := (List.getElem?_eq_some_iff.mp hd1).1
      rwa [ptDs_len] at this
    rw [ptDs_at hi] at hd1
    cases hd1
    obtain ⟨r, er⟩ := ptD_hd ps[i]
    simp [er, hv]
    have := hN (strsD ((ps.map hd).take (i + 1))) S1 hq ⟨rfl, rfl⟩ (by simp; omega)
    rw [List.take_succ, List.getElem?_map, List.getElem?_eq_getElem hi] at this
    exact ⟨by simpa using hac, by simpa using this⟩
  · rintro acc S1 ⟨rfl, rfl⟩
    rw [List.take_of_length_le (by rw [ptDs_len, List.length_map]; exact Nat.le_refl _)]
    exact h
theorem ptDs_count (q : Pt) : ∀ ps : List Pt, (ptDs ps).count (ptD q) = ps.count q := by
  intro ps
  induction ps with
  | nil => rfl
  | cons p ps ih =>
    rw [ptDs, List.count_cons, List.count_cons, ih]
    congr 1
    by_cases e : p = q
    · subst e; simp
    · have : ptD p ≠ ptD q := fun z => e (ptD_inj _ _ z)
      simp [e, this]
/-- no part stands twice -/
theorem twice_lc {v u : Nat} {ps : List Pt} {r : List D} {S : DH} {Q : DK} {τ : DSt} (huv : u ≠ v) (hu : τ[u]? = some (some (.tup (r ++ [.tup (ptDs ps)])))) (hr : r.length = 1) (hv : v < τ.length) (hl : ps.length ≤ 1000) (hs : ∀ q ∈ ps, Sm 60 (ptD q)) (nd : ps.Nodup) (h : Q (.rol []) S) :
    newO S (.lst []) fun q S1 => dLcL (dGN v) (dTest (dOp rGt (dBM "tuple" mCountT (dOp dIxS (dVar u) (dC (.int 1))) (dCons (dVar v) dNil)) (dC (.int 1)))) (dVar v) DW0 τ (fun _ => True) q (fzK Q (.ref q)) (ptDs ps) S1 := by
  obtain ⟨d0, rfl⟩ : ∃ d0, r = [d0] := by
    cases r with
    | nil => simp at hr
    | cons a r => cases r with
      | nil => exact ⟨a, rfl⟩
      | cons b r => simp at hr
  refine lcF_inv (G := fun _ => True) (fun i acc S1 => acc = [] ∧ S1 = S) ⟨rfl, rfl⟩ (fun _ _ _ _ _ _ _ => trivial) ?_ (by rw [ptDs_len]; exact Nat.lt_of_le_of_lt hl (by decide)) ?_
  · rintro i d acc S1 q N hd1 ⟨rfl, rfl⟩ hq hac hN
    have hi : i < ps.length := by
      have := (List.getElem?_eq_some_iff.mp hd1).1
      rwa [ptDs_len] at this
    rw [ptDs_at hi] at hd1
    cases hd1
    have hu' : (τ.set v (some (ptD ps[i])))[u]? = some (some (.tup ([d0] ++ [.tup (ptDs ps)]))) := by rw [List.getElem?_set_ne (Ne.symm huv)]; exact hu
    simp [hv]
    rw [hu']
    simp
    refine ⟨hs _ (List.getElem_mem hi), fun x hx => ?_, ?_⟩
    · rw [ptDs_map] at hx
      obtain ⟨y, hy, rfl⟩ := List.mem_map.mp hx
      exact hs y hy
    · rw [ptDs_count, nd.count, if_pos (List.getElem_mem hi)]
      simp
      exact hN [] S1 hq ⟨rfl, rfl⟩ (by simp)
  · rintro acc S1 ⟨rfl, rfl⟩
    exact h
theorem r_l_plain (ds S Q E) (h : sp_l_plain ds S Q E) : t_l_plain (dEnd Q E) (dstart N_l_plain ds) S := by
  obtain ⟨t, rfl, ho, ha, hdp, hp, h⟩ := h
  unfold t_l_plain
  refine dSeqFor_gen fun B R hB hR => ?_
  simp [dstart]
  refine ⟨t, rfl, by omega, by omega, ?_⟩
  simp
  refine loop_inv (fun i τ S' => S' = S ∧ ∃ x1 x2 x3 : Option D, τ = [some (ptD t), x1, x2, x3]) ⟨rfl, none, none, none, rfl⟩ (fun _ _ _ _ _ => trivial) ?_ ?_
  · rintro i d τ S1 N hd1 ⟨rfl, x1, x2, x3, rfl⟩ hN
    have hi : i < t.all.length := by
      have := (List.getElem?_eq_some_iff.mp hd1).1
      rwa [ptDs_len] at this
    rw [ptDs_at hi] at hd1
    cases hd1
    have hm := List.getElem_mem hi
    have h1 := hp _ hm
    have hq := okp_mem ho hm
    have hsz := all_sz hm
    have hdq : (t.all[i]).deep ≤ 20 := Nat.le_trans (mem_dp hm) hdp
    generalize t.all[i] = q at *
    have nx : ∀ x2 x3, N [some (ptD t), some (ptD q), x2, x3] S1 := fun x2 x3 => hN _ _ ⟨rfl, _, x2, x3, rfl⟩
    subst hB
    refine dSeqIf_gen fun A1 B1 R' hA hB hR' => ?_
    cases q with
    | stay => simp [ptD]; subst hB; simp; subst hR'; simp [ptD]; exact nx _ _
    | step b w => simp [ptD]; subst hB; simp; subst hR'; simp [ptD]; exact nx _ _
    | mark b m => cases b <;> (simp [ptD]; subst hB; simp; subst hR'; simp [ptD]; exact nx _ _)
    | many p =>
      have hM : okM p := h1
      obtain ⟨hm1, hm2⟩ := hd_many hM
      have hsp : Sm 60 (ptD p) := (pt_sm p (okp_many hq)).mono (by rw [Pt.deep_many] at hdq; omega)
      simp [ptD, in_te3]
      subst hB
      simp
      subst hR'
      obtain ⟨r, er⟩ := ptD_hd p
      rw [er] at hsp
      have n1 : D.tup (.str (hd p) :: r) ≠ .tup [.str "then", .tup []] := fun z => hM.2.2.1 (ptD_inj _ _ (er.trans z))
      have n2 : D.tup (.str (hd p) :: r) ≠ .tup [.str "either", .tup []] := fun z => hM.2.2.2 (ptD_inj _ _ (er.trans z))
      simp [ptD, er, in_ms hM]
      refine ⟨hsp, ⟨sm_ns, sm_no⟩, ?_⟩
      rw [if_neg (fun z => z.elim (fun z => n1 (by rw [z.1, z.2])) fun z => n2 (by rw [z.1, z.2]))]
      have := nx x2 x3
      simp only [ptD, er] at this
      exact this
    | seq b ps =>
      have ho1 := h1
      have hkl : ps.length ≤ 1000 := by
        rw [Pt.all_seq, Pt.alls_flat, List.length_cons] at hsz
        have := row_len ps
        omega
      have hsq : ∀ q ∈ ps, Sm 60 (ptD q) := fun q hq2 => (pt_sm q (okp_seq hq q hq2)).mono (by have := deeps_mem hq2; rw [Pt.deep_seq] at hdq; omega)
      cases b
      · simp [ptD, in_te2]
        subst hA
        refine dSeq_gen fun R2 hR2 => ?_
        simp
        refine heads_lc (v := 3) (by simp) hkl ?_
        have hHl : (ps.map hd).length = ps.length := List.length_map ..
        have hHt : ("either" : Str) ∉ ps.map hd := fun z => by
          obtain ⟨q, hq2, e⟩ := List.mem_map.mp z
          obtain ⟨qs, rfl⟩ := hd_either.mp e
          exact ho1.2.1 _ hq2 qs rfl
        have hH1 : ps.length ≠ 1 := ho1.1
        generalize ps.map hd = H at *
        subst hR2
        simp
        rw [if_neg (by omega), if_neg hHt]
        refine twice_lc (v := 3) (u := 1) (r := [.str "either"]) (by decide) rfl rfl (by simp) hkl hsq (ho1.2.2 rfl) ?_
        refine dEq_sm (Sm_rol.mpr fun d hd => nomatch hd) (Sm_rol.mpr fun d hd => nomatch hd) ?_
        have := fun x2 x3 => nx x2 x3
        simp only [ptD, Bool.false_eq_true, if_false] at this
        subst hR'
        simp
        exact this _ _
      · simp [ptD, in_te1]
        subst hA
        refine dSeq_gen fun R2 hR2 => ?_
        simp
        refine heads_lc (v := 3) (by simp) hkl ?_
        have hHl : (ps.map hd).length = ps.length := List.length_map ..
        have hHt : ("then" : Str) ∉ ps.map hd := fun z => by
          obtain ⟨q, hq2, e⟩ := List.mem_map.mp z
          obtain ⟨qs, rfl⟩ := hd_then.mp e
          exact (ho1.2.1 _ hq2).1 qs rfl
        have hHs : ("stay" : Str) ∉ ps.map hd := fun z => by
          obtain ⟨q, hq2, e⟩ := List.mem_map.mp z
          obtain rfl := hd_stay.mp e
          exact (ho1.2.1 _ hq2).2.1 rfl
        have hH1 : ps.length ≠ 1 := ho1.1
        have hno : D.tup [.str "either", .tup []] ∉ ptDs ps := fun z => by
          rw [ptDs_map] at z
          obtain ⟨q, hq2, e⟩ := List.mem_map.mp z
          exact (ho1.2.1 _ hq2).2.2 (ptD_inj q pNo e)
        have hall : ∀ e ∈ ptDs ps, Sm 60 e := fun e he => by
          rw [ptDs_map] at he
          obtain ⟨q, hq2, rfl⟩ := List.mem_map.mp he
          exact hsq q hq2
        generalize ps.map hd = H at *
        subst hR2
        simp
        rw [if_neg (by omega), if_neg hHt, if_neg hHs]
        refine ⟨sm_no, hall, ?_⟩
        rw [if_neg hno]
        have := fun x2 x3 => nx x2 x3
        simp only [ptD, if_true] at this
        subst hR'
        simp
        exact this _ _
  · rintro τ S1 ⟨rfl, x1, x2, x3, rfl⟩
    subst hR
    simp
    exact .same h
end L64
set_option maxRecDepth 100000
set_option maxHeartbeats 4000000
namespace L64
open PySem PySem.Spec L2
open L63
open Rm
open Rc
open Rq
open Sh hiding N_l_feed N_l_leaf N_l_names N_l_pattern deeps_le deeps_mem r_l_feed r_l_leaf r_l_names r_l_pattern sp_l_leaf sp_l_leaf_mono sp_l_names sp_l_names_mono sp_l_pattern sp_l_pattern_mono t_l_feed t_l_leaf t_l_names t_l_pattern
open Dt hiding nkeys sp_l_feed sp_l_feed_mono toPs_map
/-! K64w: lines gone by a pattern, of any width. -/
def sp_l_gone (k : Nat) : DSp := fun ds S Q _ => ∃ (p : Addr) (t : Pt) (ws ms : List Str) (n : Nat) (o : Ob), ds = [.ref p, ptD t, .rol (strsD ws), .rol (strsD ms)] ∧ ws.length ≤ 100 ∧ ms.length ≤ 100 ∧ (∀ w ∈ ws, Nm w) ∧ (∀ m ∈ ms, Nm m) ∧ ms.Nodup ∧ OkW ws ms t ∧ t.deep ≤ k + 1 ∧ k ≤ 9 ∧ t.all.length ≤ 60 ∧ S p = some o ∧ FeedC n o ∧ n + 110 * (2 ^ k * t.all.length) < 2 ^ 80 ∧
  ∀ (L : Ln) (o' : Ob), OkN ms L → L.2.length ≤ 2 ^ k * t.all.length → FeedC (n + 110 * (2 ^ k * t.all.length)) o' → Q (lnD L) (upo S p o')
theorem sp_l_gone_mono (k : Nat) : SpMono (sp_l_gone k) := fun ds S Q Q' E E' kk _ ⟨p, t, ws, ms, n, o, h1, h2, h3, h4, h5, h6, h7, h8, h9, h10, h11, h12, h13, h⟩ => ⟨p, t, ws, ms, n, o, h1, h2, h3, h4, h5, h6, h7, h8, h9, h10, h11, h12, h13, fun L o' a b c => kk _ _ (h L o' a b c)⟩
def sp_l_line : DSp := fun ds S Q _ => ∃ (p : Addr) (t : Pt) (ws ms : List Str) (n : Nat) (o : Ob), ds = [.ref p, ptD t, .rol (strsD ws), .rol (strsD ms)] ∧ ws.length ≤ 100 ∧ ms.length ≤ 100 ∧ (∀ w ∈ ws, Nm w) ∧ (∀ m ∈ ms, Nm m) ∧ ms.Nodup ∧ OkW ws ms t ∧ t.deep ≤ 10 ∧ t.all.length ≤ 60 ∧ S p = some o ∧ FeedC n o ∧ n < 2 ^ 70 ∧
  ∀ (L : Ln) (o' : Ob), OkN ms L → L.2.length ≤ 11 → FeedC (n + 10000000) o' → Q (lnD L) (upo S p o')
theorem sp_l_line_mono : SpMono sp_l_line := fun ds S Q Q' E E' kk _ ⟨p, t, ws, ms, n, o, h1, h2, h3, h4, h5, h6, h7, h8, h9, h10, h11, h12, h⟩ => ⟨p, t, ws, ms, n, o, h1, h2, h3, h4, h5, h6, h7, h8, h9, h10, h11, h12, fun L o' a b c => kk _ _ (h L o' a b c)⟩
def t_l_gone (spR : DSp) : DTS := (dSeq (dAsg (dCB cTuple (dCons (dFz (dLc (dSeqI (dVar 3)) (dGN 9) (dTest (dOp (dEq false) (dCall sp_l_draw (dCons (dVar 0) (dCons (dC (.int 2)) dNil))) (dC (.int 1)))) (dVar 9) [9])) dNil)) (dGN 4))
    (dSeq (dAsg (dTup (dCons (dLstF (dCons (dVar 4) dNil)) (dCons (dLstF dNil) dNil))) (dGN 5))
    (dSeq (dIf (dTest (dOp (dEq false) (dOp dIxS (dVar 1) (dC (.int 0))) (dC (.str "at"))))
      (dRet (dTup (dCons (dLstF (dCons (dTup (dCons (dOp dIxS (dVar 1) (dC (.int 1))) dNil)) dNil)) (dCons (dLstF dNil) dNil))))
      dNx)
    (dSeq (dIf (dTest (dOp (dEq false) (dOp dIxS (dVar 1) (dC (.int 0))) (dC (.str "off"))))
      (dRet (dTup (dCons (dLstF (dCons (dTup dNil) dNil)) (dCons (dLstF dNil) dNil))))
      dNx)
    (dSeq (dIf (dTest (dOp (dEq false) (dOp dIxS (dVar 1) (dC (.int 0))) (dC (.str "step"))))
      (dSeq (dAsg (dOp dIxS (dVar 1) (dC (.int 2))) (dGN 6))
    (dSeq (dIf (dTest (dOp (dEq false) (dVar 6) (dC (.str "*"))))
      (dAsg (dOp dIxS (dOp dAddF (dVar 2) (dLstF (dCons (dC (.str "u")) dNil))) (dCall sp_l_draw (dCons (dVar 0) (dCons (dOp dAddF (dCB cLen (dCons (dVar 2) dNil)) (dC (.int 1))) dNil)))) (dGN 6))
      dNx)
    (dRet (dTup (dCons (dLstF (dCons (dVar 4) (dCons (dTup dNil) dNil))) (dCons (dLstF (dCons (dTup (dCons (dOp dIxS (dVar 1) (dC (.int 1))) (dCons (dVar 6) dNil))) dNil)) dNil))))))
      dNx)
    (dSeq (dIf (dTest (dOp (dEq false) (dOp dIxS (dVar 1) (dC (.int 0))) (dC (.str "many"))))
      (dFor (dRng1 (dCons (dCall sp_l_draw (dCons (dVar 0) (dCons (dC (.int 3)) dNil))) dNil)) (dGN 7)
      (dAsg (dCall sp_l_join (dCons (dVar 5) (dCons (dCall spR (dCons (dVar 0) (dCons (dOp dIxS (dVar 1) (dC (.int 1))) (dCons (dVar 2) (dCons (dVar 3) dNil))))) dNil))) (dGN 5)))
      dNx)
    (dSeq (dIf (dTest (dOp (dEq false) (dOp dIxS (dVar 1) (dC (.int 0))) (dC (.str "then"))))
      (dFor (dSeqI (dOp dIxS (dVar 1) (dC (.int 1)))) (dGN 8)
      (dAsg (dCall sp_l_join (dCons (dVar 5) (dCons (dCall spR (dCons (dVar 0) (dCons (dVar 8) (dCons (dVar 2) (dCons (dVar 3) dNil))))) dNil))) (dGN 5)))
      dNx)
    (dSeq (dIf (dAnd (dTest (dOp (dEq false) (dOp dIxS (dVar 1) (dC (.int 0))) (dC (.str "either")))) (dTest (dOp (dEq true) (dOp dIxS (dVar 1) (dC (.int 1))) (dTup dNil))))
      (dAsg (dCall spR (dCons (dVar 0) (dCons (dOp dIxS (dOp dIxS (dVar 1) (dC (.int 1))) (dCall sp_l_draw (dCons (dVar 0) (dCons (dCB cLen (dCons (dOp dIxS (dVar 1) (dC (.int 1))) dNil)) dNil)))) (dCons (dVar 2) (dCons (dVar 3) dNil))))) (dGN 5))
      dNx)
    (dRet (dVar 5))))))))))
abbrev N_l_gone : List Str := ["_law_feed_here", "_law_pattern_here", "_law_words", "_law_marks", "_law_here", "_law_line_here", "_law_word", "_law_k", "_law_one", "_law_mark"]
def t_l_line : DTS := (dSeq (dIf (dTest (dOp rGt (dCall sp_l_draw (dCons (dVar 0) (dCons (dC (.int 3)) dNil))) (dC (.int 0))))
      (dSeq (dAsg (dCall (sp_l_gone 9) (dCons (dVar 0) (dCons (dVar 1) (dCons (dVar 2) (dCons (dVar 3) dNil))))) (dGN 4))
    (dIf (dTest (dOp rLt (dCB cLen (dCons (dOp dIxS (dVar 4) (dC (.int 1))) dNil)) (dC (.int 12))))
      (dRet (dVar 4))
      dNx))
      dNx)
    (dSeq (dAsg (dTup (dCons (dLst (dCons (dCB cTuple (dCons (dFz (dLc (dSeqI (dVar 3)) (dGN 6) (dTest (dOp (dEq false) (dCall sp_l_draw (dCons (dVar 0) (dCons (dC (.int 2)) dNil))) (dC (.int 1)))) (dVar 6) [6])) dNil)) dNil)) (dCons (dLst dNil) dNil))) (dGN 4))
    (dSeq (dFor (dRng1 (dCons (dCall sp_l_draw (dCons (dVar 0) (dCons (dC (.int 5)) dNil))) dNil)) (dGN 5)
      (dSeq (dDrop (dBM "list" mAppend (dOp dIxS (dVar 4) (dC (.int 1))) (dCons (dTup (dCons (dOp dIxS (dLstF (dCons (dC (.str "on")) (dCons (dC (.str "back")) dNil))) (dCall sp_l_draw (dCons (dVar 0) (dCons (dC (.int 2)) dNil)))) (dCons (dOp dIxS (dOp dAddF (dVar 2) (dLstF (dCons (dC (.str "u")) dNil))) (dCall sp_l_draw (dCons (dVar 0) (dCons (dOp dAddF (dCB cLen (dCons (dVar 2) dNil)) (dC (.int 1))) dNil)))) dNil))) dNil)))
    (dDrop (dBM "list" mAppend (dOp dIxS (dVar 4) (dC (.int 0))) (dCons (dCB cTuple (dCons (dFz (dLc (dSeqI (dVar 3)) (dGN 6) (dTest (dOp (dEq false) (dCall sp_l_draw (dCons (dVar 0) (dCons (dC (.int 2)) dNil))) (dC (.int 1)))) (dVar 6) [6])) dNil)) dNil)))))
    (dRet (dVar 4)))))
abbrev N_l_line : List Str := ["_law_feed_here", "_law_pattern_here", "_law_words", "_law_marks", "_law_line_here", "_law_k", "_law_mark"]
theorem r_l_gone (k : Nat) (ds S Q E) (h : sp_l_gone k ds S Q E) : t_l_gone (prevSp sp_l_gone k) (dEnd Q E) (dstart N_l_gone ds) S := by
  obtain ⟨p, t, ws, ms, n, o, rfl, hw, hm, hwn, hmn, hmd, hok, hd, hk4, hal, hp, fo, hn, h⟩ := h
  have hV1 : 1 ≤ 2 ^ k := Nat.one_le_two_pow
  have hta := Pt.all_pos t
  have hVt : 2 ^ k ≤ 2 ^ k * t.all.length := Nat.le_mul_of_pos_right _ hta
  have hV9 : 2 ^ k ≤ 512 := Nat.pow_le_pow_right (show 0 < 2 by decide) hk4
  unfold t_l_gone
  refine dSeq_gen fun R hR => ?_
  simp [-prevSp, dstart]
  refine here_lc (v := 9) rfl (by decide) (by simp) hm (fun m hm => nm_ok (hmn m hm)) hmd hp fo (by omega) fun A o1 a1 a2 fo1 => ?_
  simp
  subst hR
  refine dSeq_gen fun R hR => ?_
  simp
  subst hR
  have hL0 : OkN ms ([A], []) := ⟨rfl, fun m hm => by simp at hm; subst hm; exact ⟨a1, a2⟩, fun t ht => nomatch ht⟩
  have hc1 : n + 110 ≤ n + 110 * (2 ^ k * t.all.length) := by omega
  have leaf : ∀ (L : Ln) (o2 : Ob), OkN ms L → L.2.length ≤ 1 → FeedC (n + 110) o2 → Q (lnD L) (upo S p o2) := fun L o2 a b c => h L o2 a (by omega) (c.more hc1)
  have skip : ∀ (b : Bool), True := fun _ => trivial
  cases t with
  | stay =>
    simp [-prevSp, ptD]
    exact .same (by simpa [lnD] using leaf ([A], []) o1 hL0 (Nat.zero_le _) (fo1.more (by omega)))
  | step b w =>
    have hws : ∀ z : Str, (z = "u" ∨ z ∈ ws) → okS z := fun z hz => by
      rcases hz with rfl | hz
      · unfold okS; decide +kernel
      · exact nm_ok (hwn z hz)
    have fin : ∀ (z : Str) (o2 : Ob), okS z → FeedC (n + 110) o2 → Rt Q (.tup [.rol [.tup (strsD A), .tup []], .rol [.tup [.str (if b then "on" else "back"), .str z]]]) (upo S p o2) := fun z o2 hz fo2 => by
      have := leaf ([A, []], [(b, z)]) o2 ⟨rfl, fun m hm => by simp at hm; rcases hm with rfl | rfl; exact ⟨a1, a2⟩; exact ⟨.nil, fun _ z => nomatch z⟩, fun t ht => by simp at ht; subst ht; exact hz⟩ (Nat.le_refl _) fo2
      exact .same (by simpa [lnD] using this)
    have hwb := hok _ (Pt.self_all _)
    cases b
    all_goals
      simp [-prevSp, ptD]
      split
      · simp [catD]
        refine ⟨by omega, p, ws.length + 1, n + ms.length, o1, by simp, by omega, by omega, by simp, fo1, by omega, fun u o2 u1 fo2 => ?_⟩
        refine opt_at (by omega) (by simp; omega) fun z hz => ?_
        obtain ⟨y, hy, rfl⟩ : ∃ y : Str, (y = "u" ∨ y ∈ ws) ∧ z = .str y := by
          rcases List.mem_append.mp hz with hz | hz
          · obtain ⟨y, hy, rfl⟩ := List.mem_map.mp hz
            exact ⟨y, .inr hy, rfl⟩
          · exact ⟨"u", .inl rfl, List.mem_singleton.mp hz⟩
        rw [upo_upo]
        exact fin y o2 (hws y hy) (fo2.more (by omega))
      · rename_i hne
        exact fin w o1 (hws w (.inr (hwb.resolve_left hne))) (fo1.more (by omega))
  | mark b m =>
    have hmb : m ∈ ms := hok _ (Pt.self_all _)
    cases b
    all_goals
      simp [-prevSp, ptD]
    · exact .same (by simpa [lnD] using leaf ([[]], []) o1 ⟨rfl, fun m hm => by simp at hm; subst hm; exact ⟨.nil, fun _ z => nomatch z⟩, fun t ht => nomatch ht⟩ (Nat.zero_le _) (fo1.more (by omega)))
    · exact .same (by simpa [lnD] using leaf ([[m]], []) o1 ⟨rfl, fun m' hm => by simp at hm; subst hm; exact ⟨List.nodup_cons.mpr ⟨List.not_mem_nil, .nil⟩, fun x hx => by rw [List.mem_singleton.mp hx]; exact hmb⟩, fun t ht => nomatch ht⟩ (Nat.zero_le _) (fo1.more (by omega)))
  | seq b ps =>
    rw [Pt.deep_seq] at hd
    have okq : ∀ q ∈ ps, OkW ws ms q := okw_seq.mp hok
    have okp : (Pt.seq b ps).okP Nm := okw_okp hok hwn hmn
    have eall : (Pt.seq b ps).all.length = 1 + (ps.flatMap Pt.all).length := by rw [Pt.all_seq, Pt.alls_flat, List.length_cons, Nat.add_comm]
    rw [eall] at hal hn h hVt hc1
    have hpl := row_len ps
    have hps : ps.length ≤ 60 := by omega
    have hWV : 2 ^ (k - 1) ≤ 2 ^ k := Nat.pow_le_pow_right (by decide) (Nat.sub_le _ _)
    generalize hWe : 2 ^ (k - 1) = W at *
    generalize hVe : 2 ^ k = V at *
    generalize hAe : (ps.flatMap Pt.all).length = A0 at *
    have hVA : V * (1 + A0) = V + V * A0 := by rw [Nat.mul_add, Nat.mul_one]
    have hWA : W * A0 ≤ V * A0 := Nat.mul_le_mul_right _ hWV
    have hVA9 : V * A0 ≤ 512 * 60 := Nat.mul_le_mul hV9 (by omega)
    have sub1 : ∀ q ∈ ps, W * q.all.length ≤ W * A0 := fun q hq => Nat.mul_le_mul_left _ (by rw [← hAe]; exact mem_sz hq)
    have allq : ∀ q ∈ ps, q.all.length ≤ 60 := fun q hq => by have := mem_sz hq; omega
    have call : ∀ (q : Pt) (n' : Nat) (o' : Ob) (Q' : DK) (E' : DXK), q ∈ ps → FeedC n' o' → n' + 110 * (W * q.all.length) < 2 ^ 80 → (∀ (L : Ln) (o'' : Ob), OkN ms L → L.2.length ≤ W * q.all.length → FeedC (n' + 110 * (W * q.all.length)) o'' → Q' (lnD L) (upo S p o'')) →
        prevSp sp_l_gone k [.ref p, ptD q, .rol (strsD ws), .rol (strsD ms)] (upo S p o') Q' E' := fun q n' o' Q' E' hq fo' hn' hQ => by
      have h1 := deeps_mem hq
      have : 1 ≤ q.deep := by cases q <;> simp [Pt.deep]
      obtain ⟨m, rfl⟩ : ∃ m, k = m + 1 := ⟨k - 1, by omega⟩
      subst hWe
      exact ⟨p, q, ws, ms, n', o', rfl, hw, hm, hwn, hmn, hmd, okq q hq, by omega, by omega, allq q hq, by simp, fo', hn', fun L o'' a b c => by rw [upo_upo]; exact hQ L o'' a b c⟩
    refine dSeqIf_gen fun A1 B1 R hA hB hR => ?_
    cases b
    · simp [-prevSp, ptD]
      subst hB
      simp
      subst hR
      refine dSeqIf_gen fun A1 B1 R hA hB hR => ?_
      simp [-prevSp, ptD]
      subst hB
      simp
      subst hR
      refine dSeqIf_gen fun A1 B1 R hA hB hR => ?_
      simp [-prevSp, ptD]
      subst hB
      simp
      subst hR
      refine dSeqIf_gen fun A1 B1 R hA hB hR => ?_
      simp [-prevSp, ptD]
      subst hB
      simp
      subst hR
      refine dSeqIf_gen fun A1 B1 R hA hB hR => ?_
      simp [-prevSp, ptD]
      subst hB
      simp
      subst hR
      refine dSeqIf_gen fun A1 B1 R hA hB hR => ?_
      simp [-prevSp, ptD]
      have hsm : Sm 60 (.tup (ptDs ps)) := by
        have h1 := (pt_sm _ okp)
        have h2 : Sm (2 * (Pt.seq false ps).deep + 1) (ptD (.seq false ps)) := h1.mono (by omega)
        exact (h2.kids (.tup (ptDs ps)) (by simp)).mono (by rw [Pt.deep_seq]; omega)
      refine dEq_sm hsm (Sm_tup (n := 59).mpr fun d hd => nomatch hd) ?_
      by_cases e : ps = []
      · subst e
        simp [ptDs]
        subst hB
        simp
        subst hR
        simp [ptD, ptDs]
        exact .same (by simpa [lnD] using leaf ([A], []) o1 hL0 (Nat.zero_le _) (fo1.more (by omega)))
      · have e2 : ptDs ps ≠ [] := by rw [ptDs_map]; simpa using e
        have hl0 : 0 < ps.length := List.length_pos_iff.mpr e
        simp [e2]
        subst hA
        simp [-prevSp, ptDs_len]
        refine ⟨p, ps.length, n + ms.length, o1, by simp, hl0, by omega, by simp, fo1, by omega, fun u o2 u1 fo2 => ?_⟩
        rw [upo_upo]
        simp [-prevSp, atI_nat (ptDs_at u1)]
        have hs1 := sub1 _ (List.getElem_mem u1)
        refine call _ (n + ms.length + 1) o2 _ _ (List.getElem_mem u1) fo2 (by omega) fun L o3 a b c => ?_
        subst hR
        simp [-prevSp]
        exact .same (h L o3 a (by omega) (c.more (by omega)))
    · simp [-prevSp, ptD]
      subst hB
      simp
      subst hR
      refine dSeqIf_gen fun A1 B1 R hA hB hR => ?_
      simp [-prevSp, ptD]
      subst hB
      simp
      subst hR
      refine dSeqIf_gen fun A1 B1 R hA hB hR => ?_
      simp [-prevSp, ptD]
      subst hB
      simp
      subst hR
      refine dSeqIf_gen fun A1 B1 R hA hB hR => ?_
      simp [-prevSp, ptD]
      subst hB
      simp
      subst hR
      refine dSeqIf_gen fun A1 B1 R hA hB hR => ?_
      simp [-prevSp, ptD]
      subst hA
      refine dFor_gen fun B hB => ?_
      simp
      refine loop_inv (fun i τ S' => ∃ (L : Ln) (o3 : Ob) (x8 : Option D), τ = [some (.ref p), some (ptD (.seq true ps)), some (.rol (strsD ws)), some (.rol (strsD ms)), some (.tup (strsD A)), some (lnD L), none, none, x8, none] ∧
        S' = upo S p o3 ∧ OkN ms L ∧ L.2.length ≤ W * ((ps.take i).flatMap Pt.all).length ∧ FeedC (n + ms.length + 1 + 110 * (W * ((ps.take i).flatMap Pt.all).length)) o3) ⟨([A], []), o1, none, rfl, rfl, hL0, Nat.zero_le _, fo1.more (by omega)⟩ (fun _ _ _ _ _ => trivial) ?_ ?_
      · rintro i d τ S1 N hd' ⟨L, o3, x8, rfl, rfl, g1, g2, fo3⟩ hN
        have hi : i < ps.length := by
          have h1 := (List.getElem?_eq_some_iff.mp hd').1
          rwa [ptDs_len] at h1
        rw [ptDs_at hi] at hd'
        cases hd'
        have tk : ((ps.take (i + 1)).flatMap Pt.all).length = ((ps.take i).flatMap Pt.all).length + ps[i].all.length := by
          rw [List.take_succ, List.getElem?_eq_getElem hi, List.flatMap_append, List.length_append]
          simp
        have tkW : W * ((ps.take (i + 1)).flatMap Pt.all).length = W * ((ps.take i).flatMap Pt.all).length + W * ps[i].all.length := by rw [tk, Nat.mul_add]
        have tkA : W * ((ps.take (i + 1)).flatMap Pt.all).length ≤ W * A0 := Nat.mul_le_mul_left _ (by
          rw [← hAe]
          conv => rhs; rw [← List.take_append_drop (i + 1) ps, List.flatMap_append, List.length_append]
          omega)
        subst hB
        simp [-prevSp]
        refine call _ (n + ms.length + 1 + 110 * (W * ((ps.take i).flatMap Pt.all).length)) o3 _ _ (List.getElem_mem hi) fo3 (by omega) fun L' o4 a b c => ?_
        refine ⟨ms, L, L', rfl, hm, fun x hx => nm_ok (hmn x hx), g1, a, by omega, by omega, fun X hX => ?_⟩
        simp
        refine hN _ _ ⟨_, o4, _, rfl, rfl, hX, ?_, c.more (by omega)⟩
        rw [tkW]
        show (L.2 ++ L'.2).length ≤ _
        rw [List.length_append]
        omega
      · rintro τ S1 ⟨L, o3, x8, rfl, rfl, g1, g2, fo3⟩
        rw [ptDs_len, List.take_length, hAe] at g2 fo3
        have hq := h L o3 g1 (by omega) (fo3.more (by omega))
        subst hR
        simp [-prevSp, ptD]
        exact .same hq
  | many q =>
    obtain ⟨m, rfl⟩ : ∃ m, k = m + 1 := ⟨k - 1, by rw [Pt.deep_many] at hd; have : 1 ≤ q.deep := by { cases q <;> simp [Pt.deep] }; omega⟩
    rw [Pt.deep_many] at hd
    have okq : OkW ws ms q := okw_many.mp hok
    have eall : (Pt.many q).all.length = 1 + q.all.length := by rw [Pt.all_many, List.length_cons, Nat.add_comm]
    rw [eall] at hal hn h hVt hc1
    have hWV : 2 ^ (m + 1) = 2 * 2 ^ m := by rw [Nat.pow_succ, Nat.mul_comm]
    generalize hVe : 2 ^ (m + 1) = V at *
    generalize hWe : 2 ^ m = W at *
    generalize hBe : q.all.length = B0 at *
    have hVB : V * (1 + B0) = V + 2 * (W * B0) := by rw [Nat.mul_add, Nat.mul_one, hWV, Nat.mul_assoc]
    have hVB9 : W * B0 ≤ 512 * 60 := Nat.mul_le_mul (by omega) (by omega)
    refine dSeqIf_gen fun A1 B1 R hA hB hR => ?_
    simp [-prevSp, ptD]
    subst hB
    simp
    subst hR
    refine dSeqIf_gen fun A1 B1 R hA hB hR => ?_
    simp [-prevSp, ptD]
    subst hB
    simp
    subst hR
    refine dSeqIf_gen fun A1 B1 R hA hB hR => ?_
    simp [-prevSp, ptD]
    subst hB
    simp
    subst hR
    refine dSeqIf_gen fun A1 B1 R hA hB hR => ?_
    have tail : ∀ (L : Ln) (o2 : Ob) (x7 : Option D), OkN ms L → L.2.length ≤ V * (1 + B0) → FeedC (n + 110 * (V * (1 + B0))) o2 →
        R (dEnd Q E) [some (.ref p), some (ptD (.many q)), some (.rol (strsD ws)), some (.rol (strsD ms)), some (.tup (strsD A)), some (lnD L), none, x7, none, none] (upo S p o2) := fun L o2 x7 a b c => by
      subst hR
      simp [-prevSp, ptD]
      exact .same (h L o2 a b c)
    simp [ptD]
    subst hA
    refine dFor_gen fun B hB => ?_
    simp
    refine ⟨p, 3, n + ms.length, o1, by simp, by decide, by decide, by simp, fo1, by omega, fun u o2 u1 fo2 => ?_⟩
    rw [upo_upo]
    simp
    refine ⟨by omega, ?_⟩
    refine loop_inv (fun i τ S' => ∃ (L : Ln) (o3 : Ob) (x7 : Option D), τ = [some (.ref p), some (ptD (.many q)), some (.rol (strsD ws)), some (.rol (strsD ms)), some (.tup (strsD A)), some (lnD L), none, x7, none, none] ∧
      S' = upo S p o3 ∧ OkN ms L ∧ L.2.length ≤ i * (W * B0) ∧ FeedC (n + ms.length + 1 + i * (110 * (W * B0))) o3) ⟨([A], []), o2, none, rfl, rfl, hL0, Nat.zero_le _, fo2.more (by omega)⟩ (fun _ _ _ _ _ => trivial) ?_ ?_
    · rintro i d τ S1 N hd' ⟨L, o3, x7, rfl, rfl, g1, g2, fo3⟩ hN
      have hi : i < u := by
        have h1 := (List.getElem?_eq_some_iff.mp hd').1
        simpa [rngD] using h1
      have im : i * (110 * (W * B0)) + 110 * (W * B0) ≤ 2 * (110 * (W * B0)) := by
        rw [← Nat.succ_mul]
        exact Nat.mul_le_mul_right _ (by omega)
      have il : i * (W * B0) + W * B0 ≤ 2 * (W * B0) := by
        rw [← Nat.succ_mul]
        exact Nat.mul_le_mul_right _ (by omega)
      subst hB
      simp [-prevSp, ptD]
      subst hWe hBe
      refine ⟨p, q, ws, ms, n + ms.length + 1 + i * (110 * (2 ^ m * q.all.length)), o3, rfl, hw, hm, hwn, hmn, hmd, okq, by omega, by omega, by omega, by simp, fo3, by omega, fun L' o4 a b c => ?_⟩
      rw [upo_upo]
      simp
      refine ⟨ms, L, L', rfl, hm, fun x hx => nm_ok (hmn x hx), g1, a, by omega, by omega, fun X hX => ?_⟩
      simp
      have e3 := Nat.add_one_mul i (110 * (2 ^ m * q.all.length))
      have e4 := Nat.add_one_mul i (2 ^ m * q.all.length)
      refine hN _ _ ⟨_, o4, _, rfl, rfl, hX, ?_, c.more (by omega)⟩
      show (L.2 ++ L'.2).length ≤ _
      rw [List.length_append]
      omega
    · rintro τ S1 ⟨L, o3, x7, rfl, rfl, g1, g2, fo3⟩
      have hu : (rngD 0 u).length = u := by simp [rngD]
      rw [hu] at g2 fo3
      have im : u * (110 * (W * B0)) ≤ 2 * (110 * (W * B0)) := Nat.mul_le_mul_right _ (by omega)
      have il : u * (W * B0) ≤ 2 * (W * B0) := Nat.mul_le_mul_right _ (by omega)
      exact tail L o3 x7 g1 (by omega) (fo3.more (by omega))
theorem r_l_line (ds S Q E) (h : sp_l_line ds S Q E) : t_l_line (dEnd Q E) (dstart N_l_line ds) S := by
  obtain ⟨p, t, ws, ms, n, o, rfl, hw, hm, hwn, hmn, hmd, hok, hd, hal, hp, fo, hn, h⟩ := h
  have c4 : 2 ^ 9 * t.all.length ≤ 512 * 60 := Nat.mul_le_mul_left _ hal
  unfold t_l_line
  refine dSeqIf_gen fun A1 B1 R hA hB hR => ?_
  have tail : ∀ (o2 : Ob) (x4 : Option D), FeedC (n + 4000000) o2 → R (dEnd Q E) [some (.ref p), some (ptD t), some (.rol (strsD ws)), some (.rol (strsD ms)), x4, none, none] (upo S p o2) := by
    intro o2 x4 fo2
    subst hR
    refine dSeq_gen fun R hR => ?_
    simp
    refine here_lc (v := 6) rfl (by decide) (by simp) hm (fun m hm => nm_ok (hmn m hm)) hmd (by simp) fo2 (by omega) fun A o3 a1 a2 fo3 => ?_
    rw [upo_upo]
    simp
    intro a ha b hb
    have npa : p ≠ a := fun z => by subst z; simp at ha
    have npb : p ≠ b := fun z => by subst z; rw [upo_ne npa] at hb; simp at hb
    have nab : a ≠ b := fun z => by subst z; simp at hb
    have ha' : S a = none := by rw [upo_ne npa.symm] at ha; exact ha
    have hb' : S b = none := by rw [upo_ne nab.symm, upo_ne npb.symm] at hb; exact hb
    subst hR
    refine dSeqFor_gen fun B R hB hR => ?_
    simp
    refine ⟨p, 5, n + 4000000 + ms.length, o3, by simp, by decide, by decide, by rw [upo_ne npb, upo_ne npa]; simp, fo3, by omega, fun u o4 u1 fo4 => ?_⟩
    have re : ∀ (o o' : Ob) (x y : Ob), upo (upo (upo (upo S p o) a x) b y) p o' = upo (upo (upo S p o') a x) b y := fun o o' x y => by
      rw [upo_comm npb.symm, upo_comm npa.symm, upo_upo]
    rw [re]
    simp
    refine ⟨by omega, ?_⟩
    refine loop_inv (fun i τ S' => ∃ (L : Ln) (o5 : Ob) (x5 x6 : Option D), τ = [some (.ref p), some (ptD t), some (.rol (strsD ws)), some (.rol (strsD ms)), some (.tup [.ref a, .ref b]), x5, x6] ∧
      S' = upo (upo (upo S p o5) a (.lst (L.1.map fun m => .tup (strsD m)))) b (.lst (L.2.map fun t => .tup [.str (if t.1 then "on" else "back"), .str t.2])) ∧ OkN ms L ∧ L.2.length = i ∧ FeedC (n + 4000000 + ms.length + 1 + i * 110) o5)
      ⟨([A], []), o4, none, none, rfl, rfl, ⟨rfl, fun m hm => by simp at hm; subst hm; exact ⟨a1, a2⟩, fun t ht => nomatch ht⟩, rfl, fo4.more (by omega)⟩ (fun _ _ _ _ _ => trivial) ?_ ?_
    · rintro i d τ S1 N hd' ⟨⟨M, T⟩, o5, x5, x6, rfl, rfl, ⟨g1, g2, g3⟩, g4, fo5⟩ hN
      dsimp only at g1 g2 g3 g4
      have hi : i < u := by
        have h1 := (List.getElem?_eq_some_iff.mp hd').1
        simpa [rngD] using h1
      subst hB
      refine dSeq_gen fun R' hR' => ?_
      simp [catD]
      refine ⟨p, 2, n + 4000000 + ms.length + 1 + i * 110, o5, by simp, by decide, by decide, by rw [upo_ne npb, upo_ne npa]; simp, fo5, by omega, fun v o6 v1 fo6 => ?_⟩
      rw [re]
      refine opt_at (by omega) (by simp; omega) fun y hy => ?_
      obtain ⟨sd, rfl⟩ : ∃ sd : Bool, y = .str (if sd then "on" else "back") := by
        simp at hy
        rcases hy with rfl | rfl
        · exact ⟨true, rfl⟩
        · exact ⟨false, rfl⟩
      refine ⟨by omega, p, ws.length + 1, n + 4000000 + ms.length + 1 + i * 110 + 1, o6, by simp, by omega, by omega, by rw [upo_ne npb, upo_ne npa]; simp, fo6, by omega, fun v' o7 v1' fo7 => ?_⟩
      rw [re]
      refine opt_at (by omega) (by simp; omega) fun z hz => ?_
      obtain ⟨w, hw2, rfl⟩ : ∃ w : Str, okS w ∧ z = .str w := by
        rcases List.mem_append.mp hz with hz | hz
        · obtain ⟨y, hy, rfl⟩ := List.mem_map.mp hz
          exact ⟨y, nm_ok (hwn y hy), rfl⟩
        · exact ⟨"u", by unfold okS; decide +kernel, List.mem_singleton.mp hz⟩
      simp
      refine ⟨by omega, ?_⟩
      subst hR'
      simp
      refine ⟨by rw [upo_ne nab]; simp, ?_⟩
      refine here_lc (v := 6) rfl (by decide) (by simp) hm (fun m hm => nm_ok (hmn m hm)) hmd (by rw [upo_ne npb, upo_ne npa]; simp) fo7 (by omega) fun X o8 b1 b2 fo8 => ?_
      rw [re]
      have ea : ∀ y : Ob, upo (upo (upo S p o8) a (.lst (M.map fun m => .tup (strsD m)))) b y a = some (.lst (M.map fun m => .tup (strsD m))) := fun y => by rw [upo_ne nab]; simp
      simp [ea]
      refine ⟨by omega, ?_⟩
      rw [upo_comm nab.symm, upo_upo]
      have := fun x5 x6 => hN _ _ ⟨(M ++ [X], T ++ [(sd, w)]), o8, x5, x6, rfl, rfl, ⟨by simp; omega, fun m hm => ?_, fun t ht => ?_⟩, by simp; omega, fo8.more (by rw [Nat.succ_mul]; omega)⟩
      · simp at this
        exact this _ _
      · rcases List.mem_append.mp hm with hm | hm
        · exact g2 m hm
        · rw [List.mem_singleton.mp hm]; exact ⟨b1, b2⟩
      · rcases List.mem_append.mp ht with ht | ht
        · exact g3 t ht
        · rw [List.mem_singleton.mp ht]; exact hw2
    · rintro τ S1 ⟨⟨M, T⟩, o5, x5, x6, rfl, rfl, g, g4, fo5⟩
      have hu : (rngD 0 u).length = u := by simp [rngD]
      rw [hu] at g4 fo5
      subst hR
      simp
      refine ⟨[a, b], lnD (M, T), upo S p o5, .tup (.cons (.lst (by rw [upo_ne nab]; simp) (by simp) (Vws.same _)) (.cons (.lst (by simp) (by simp) (Vws.same _)) .nil)), fun c hc => ?_, by simp; exact nab, fun c o ec => ?_, h (M, T) o5 g (by simp at g4 ⊢; omega) (fo5.more (by omega))⟩
      · simp at hc
        rcases hc with rfl | rfl
        · exact ⟨M.map fun m => .tup (strsD m), by rw [upo_ne nab]; simp⟩
        · exact ⟨T.map fun t => .tup [.str (if t.1 then "on" else "back"), .str t.2], by simp⟩
      · have nca : c ≠ a := fun z => by subst z; rw [upo_ne npa.symm] at ec; rw [ha'] at ec; cases ec
        have ncb : c ≠ b := fun z => by subst z; rw [upo_ne npb.symm] at ec; rw [hb'] at ec; cases ec
        exact ⟨by rw [upo_ne ncb, upo_ne nca]; exact ec, by simp; exact ⟨nca, ncb⟩⟩
  simp [dstart]
  refine ⟨p, 3, n, o, by simp, by decide, by decide, hp, fo, by omega, fun u o1 u1 fo1 => ?_⟩
  simp
  split
  · subst hA
    simp
    refine ⟨p, t, ws, ms, n + 1, o1, rfl, hw, hm, hwn, hmn, hmd, hok, hd, by decide, hal, by simp, fo1, by omega, fun L o2 a b c => ?_⟩
    rw [upo_upo]
    simp [lnD]
    split
    · exact .same (by simpa [lnD] using h L o2 a (by omega) (c.more (by omega)))
    · exact tail o2 _ (c.more (by omega))
  · subst hB
    simp
    exact tail o1 none (fo1.more (by omega))
end L64
set_option maxRecDepth 100000
set_option maxHeartbeats 4000000
namespace L64
open PySem PySem.Spec L2
open L63
open Rm
open Rc
open Rq
open Sh hiding N_l_feed N_l_leaf N_l_names N_l_pattern deeps_le deeps_mem r_l_feed r_l_leaf r_l_names r_l_pattern sp_l_leaf sp_l_leaf_mono sp_l_names sp_l_names_mono sp_l_pattern sp_l_pattern_mono t_l_feed t_l_leaf t_l_names t_l_pattern
open Dt hiding nkeys sp_l_feed sp_l_feed_mono toPs_map
/-! K64x: the law. -/
def sp_law : DSp := fun ds S Q _ => ∃ ns : List Int, ds = [.rol (ns.map D.int)] ∧ ns.length ≤ 63 ∧ ∀ S', Q (.bl true) S'
theorem sp_law_mono : SpMono sp_law := fun ds S Q Q' E E' k _ ⟨ns, h1, h2, h⟩ => ⟨ns, h1, h2, fun S' => k _ _ (h S')⟩
theorem Wh_pl {L : Ln} {p : Pt} : Wh L (pl p) ↔ Wh L p := pl_F L p _ _
def t_law : DTS := (dSeq (dAsg (dCall sp_l_feed (dCons (dVar 0) dNil)) (dGN 1))
    (dSeq (dAsg (dCall sp_l_names (dCons (dVar 1) (dCons (dOp dAddF (dC (.int 1)) (dCall sp_l_draw (dCons (dVar 1) (dCons (dC (.int 3)) dNil)))) dNil))) (dGN 2))
    (dSeq (dAsg (dCall sp_l_names (dCons (dVar 1) (dCons (dCall sp_l_draw (dCons (dVar 1) (dCons (dC (.int 3)) dNil))) dNil))) (dGN 3))
    (dSeq (dAsg (dCall (sp_l_pattern 4) (dCons (dVar 1) (dCons (dVar 2) (dCons (dVar 3) (dCons (dLst (dCons (dOp dAddF (dC (.int 1)) (dCall sp_l_draw (dCons (dVar 1) (dCons (dC (.int 8)) dNil)))) dNil)) (dCons (dC (.int 4)) dNil)))))) (dGN 4))
    (dSeq (dFor (dRng1 (dCons (dCall sp_l_draw (dCons (dVar 1) (dCons (dC (.int 4)) dNil))) dNil)) (dGN 5)
      (dAsg (dCall (sp_l_needless 5) (dCons (dVar 1) (dCons (dVar 4) (dCons (dC (.int 0)) dNil)))) (dGN 4)))
    (dSeq (dIf (dNot (dTest (dCall sp_is_pattern (dCons (dVar 4) dNil))))
      (dRet (dC (.bl true)))
      dNx)
    (dSeq (dAsg (dCall (sp_plainly 9) (dCons (dVar 4) dNil)) (dGN 6))
    (dSeq (dIf (dOr (dNot (dTest (dCall sp_is_pattern (dCons (dVar 6) dNil)))) (dOr (dTest (dOp rGt (dCB cLen (dCons (dCall (sp_l_all 50) (dCons (dVar 6) dNil)) dNil)) (dCB cLen (dCons (dCall (sp_l_all 50) (dCons (dVar 4) dNil)) dNil)))) (dNot (dTest (dCall sp_l_plain (dCons (dVar 6) dNil))))))
      (dRet (dC (.bl false)))
      dNx)
    (dSeq (dAsg (dCall (sp_plainly 9) (dCons (dVar 6) dNil)) (dGN 7))
    (dSeq (dIf (dOr (dNot (dTest (dCall sp_is_pattern (dCons (dVar 7) dNil)))) (dOr (dTest (dOp rGt (dCB cLen (dCons (dCall (sp_l_all 50) (dCons (dVar 7) dNil)) dNil)) (dCB cLen (dCons (dCall (sp_l_all 50) (dCons (dVar 6) dNil)) dNil)))) (dNot (dTest (dCall sp_l_plain (dCons (dVar 7) dNil))))))
      (dRet (dC (.bl false)))
      dNx)
    (dSeq (dFor (dRng1 (dCons (dOp dAddF (dC (.int 8)) (dCall sp_l_draw (dCons (dVar 1) (dCons (dC (.int 33)) dNil)))) dNil)) (dGN 5)
      (dSeq (dAsg (dCall sp_l_line (dCons (dVar 1) (dCons (dOp dIxS (dLstF (dCons (dVar 4) (dCons (dVar 6) (dCons (dVar 7) dNil)))) (dOp rMod (dVar 5) (dC (.int 3)))) (dCons (dVar 2) (dCons (dVar 3) dNil))))) (dGN 8))
    (dSeq (dAsg (dCall sp_l_right (dCons (dVar 4) (dCons (dVar 8) dNil))) (dGN 9))
    (dIf (dOr (dTest (dOp (dEq true) (dCall sp_l_right (dCons (dVar 6) (dCons (dVar 8) dNil))) (dVar 9))) (dTest (dOp (dEq true) (dCall sp_l_right (dCons (dVar 7) (dCons (dVar 8) dNil))) (dVar 9))))
      (dRet (dC (.bl false)))
      dNx))))
    (dRet (dC (.bl true))))))))))))))
abbrev N_law : List Str := ["_law_script", "_law_feed_here", "_law_words", "_law_marks", "_law_pattern_here", "_law_k", "_law_found", "_law_again", "_law_line_here", "_law_due"]
theorem r_law (ds S Q E) (h : sp_law ds S Q E) : t_law (dEnd Q E) (dstart N_law ds) S := by
  obtain ⟨ns, rfl, hl, h⟩ := h
  unfold t_law
  refine dSeq_gen fun R hR => ?_
  simp [dstart]
  refine ⟨ns, rfl, hl, fun p o hp fo => ?_⟩
  subst hR
  refine dSeq_gen fun R hR => ?_
  simp
  refine ⟨p, 3, 0, o, by simp, by decide, by decide, by simp, fo, by decide, fun v1 o1 b1 fo1 => ?_⟩
  rw [upo_upo]
  refine ⟨p, 1 + v1, 1, o1, by simp, by omega, by simp, fo1.more (by omega), by decide, fun ws o2 w1 w2 w3 fo2 => ?_⟩
  rw [upo_upo]
  subst hR
  refine dSeq_gen fun R hR => ?_
  simp
  refine ⟨p, 3, 3, o2, by simp, by decide, by decide, by simp, fo2, by decide, fun v2 o3 b2 fo3 => ?_⟩
  rw [upo_upo]
  refine ⟨p, v2, 4, o3, by simp, by omega, by simp, fo3.more (by omega), by decide, fun ms o4 m1 m2 m3 fo4 => ?_⟩
  rw [upo_upo]
  subst hR
  refine dSeq_gen fun R hR => ?_
  simp
  refine ⟨p, 8, 6, o4, by simp, by decide, by decide, by simp, fo4, by decide, fun v3 o5 b3 fo5 => ?_⟩
  rw [upo_upo]
  intro q hq
  have npq : p ≠ q := fun z => by subst z; simp at hq
  refine ⟨p, q, ws, ms, 4, 1 + v3, 7, o5, by simp, by omega, by omega, m2, by decide, by rw [upo_ne npq]; simp, fo5.more (by omega), by omega, by omega, by simp, by omega, fun t o6 c ok dp al fo6 => ?_⟩
  rw [upo_comm npq.symm, upo_upo, upo_upo]
  have fo6 : FeedC 100 o6 := fo6.more (by omega)
  have hS0 : upo (upo S p o6) q (.lst [.int (c : Nat)]) p = some o6 := by rw [upo_ne npq]; simp
  generalize upo (upo S p o6) q (.lst [.int (c : Nat)]) = S1 at hS0
  subst hR
  refine dSeqFor_gen fun B R hB hR => ?_
  simp
  refine ⟨p, 4, 100, o6, by simp, by decide, by decide, hS0, fo6, by decide, fun v4 o7 b4 fo7 => ?_⟩
  simp
  refine ⟨by omega, ?_⟩
  refine loop_inv (fun i τ S' => ∃ (t : Pt) (o8 : Ob) (x5 : Option D), τ = [some (.rol (ns.map D.int)), some (.ref p), some (.rol (strsD ws)), some (.rol (strsD ms)), some (ptD t), x5, none, none, none, none] ∧
    S' = upo S1 p o8 ∧ t.okP Nm ∧ OkW ws ms t ∧ t.all.length ≤ 46 ∧ FeedC (101 + i * 100) o8) ⟨t, o7, none, rfl, rfl, okc_okp ok w2 m2, okc_okw ok, by omega, fo7.more (by omega)⟩ (fun _ _ _ _ _ => trivial) ?_ ?_
  · rintro i d τ S2 N hd1 ⟨t, o8, x5, rfl, rfl, h1, h2, h3, fo8⟩ hN
    have hi : i < v4 := by
      have h1 := (List.getElem?_eq_some_iff.mp hd1).1
      simpa [rngD] using h1
    subst hB
    simp
    refine ⟨p, t, ws, ms, 0, 101 + i * 100, o8, rfl, h1, h2, by omega, by omega, by decide, by decide, by simp, fo8, by omega, fun t' o9 a1 a2 a3 a4 fo9 => ?_⟩
    rw [upo_upo]
    simp
    refine hN _ _ ⟨t', o9, _, rfl, rfl, a1, a2, ?_, fo9.more (by omega)⟩
    by_cases c : 12 < t.all.length
    · rw [a4 c]; exact h3
    · omega
  rintro τ S2 ⟨t, o8, x5, rfl, rfl, h1, h2, h3, fo8⟩
  have hv : (rngD 0 v4).length = v4 := by simp [rngD]
  rw [hv] at fo8
  have fo8 : FeedC 1000 o8 := fo8.more (by omega)
  subst hR
  dsimp only
  refine dSeqIf_gen fun A1 B1 R hA hB hR => ?_
  simp
  refine ⟨t, rfl, h1, by omega, fun b hb1 hb2 => ?_⟩
  cases b
  · simp
    subst hA
    simp
    exact .same (h _)
  obtain ⟨t40, t10⟩ := hb1 rfl
  simp
  subst hB
  simp
  subst hR
  have step : ∀ u : Pt, u.okP Nm → OkW ws ms u → u.all.length ≤ 40 → u.deep ≤ 10 → (pl u).okP Nm ∧ OkW ws ms (pl u) ∧ (pl u).all.length ≤ u.all.length ∧ (pl u).deep ≤ 10 ∧ Pln (pl u) := fun u a b c d =>
    ⟨okp_pl a, okw_pl u b, pl_sz u, Nat.le_trans (pl_dp u) d, pl_pln u⟩
  obtain ⟨f1, f2, f3, f4, f5⟩ := step t h1 h2 t40 t10
  obtain ⟨g1, g2, g3, g4, g5⟩ := step (pl t) f1 f2 (by omega) f4
  refine dSeq_gen fun R hR => ?_
  simp
  refine ⟨t, rfl, h1, by omega, by decide, by omega, ?_⟩
  simp
  subst hR
  refine dSeqIf_gen fun A1 B1 R hA hB hR => ?_
  simp
  refine ⟨pl t, rfl, f1, by omega, fun b hb1 hb2 => ?_⟩
  obtain rfl := hb2 (by omega) f4
  simp
  refine ⟨pl t, rfl, by omega, by omega, ?_⟩
  refine ⟨t, rfl, by omega, by omega, ?_⟩
  simp [ptDs_len]
  rw [if_neg (by omega)]
  refine ⟨pl t, rfl, f1, by omega, by omega, f5, ?_⟩
  simp
  subst hB
  simp
  subst hR
  refine dSeq_gen fun R hR => ?_
  simp
  refine ⟨pl t, rfl, f1, by omega, by decide, by omega, ?_⟩
  simp
  subst hR
  refine dSeqIf_gen fun A1 B1 R hA hB hR => ?_
  simp
  refine ⟨pl (pl t), rfl, g1, by omega, fun b hb1 hb2 => ?_⟩
  obtain rfl := hb2 (by omega) g4
  simp
  refine ⟨pl (pl t), rfl, by omega, by omega, ?_⟩
  refine ⟨pl t, rfl, by omega, by omega, ?_⟩
  simp [ptDs_len]
  rw [if_neg (by omega)]
  refine ⟨pl (pl t), rfl, g1, by omega, by omega, g5, ?_⟩
  simp
  subst hB
  simp
  subst hR
  refine dSeqFor_gen fun B R hB hR => ?_
  simp
  refine ⟨p, 33, 1000, o8, by simp, by decide, by decide, by simp, fo8, by decide, fun v5 o9 b5 fo9 => ?_⟩
  rw [upo_upo]
  simp
  refine ⟨by omega, ?_⟩
  refine loop_inv (fun i τ S' => ∃ (o8 : Ob) (x5 x8 x9 : Option D), τ = [some (.rol (ns.map D.int)), some (.ref p), some (.rol (strsD ws)), some (.rol (strsD ms)), some (ptD t), x5, some (ptD (pl t)), some (ptD (pl (pl t))), x8, x9] ∧
    S' = upo S1 p o8 ∧ FeedC (1001 + i * 10000000) o8) ⟨o9, _, none, none, rfl, rfl, fo9.more (by omega)⟩ (fun _ _ _ _ _ => trivial) ?_ ?_
  · rintro i d τ S2 N hd1 ⟨o8, x5, x8, x9, rfl, rfl, fo8⟩ hN
    have hi : i < 8 + v5 := by
      have h1 := (List.getElem?_eq_some_iff.mp hd1).1
      simp [rngD] at h1
      omega
    obtain rfl : d = .int (i : Nat) := by
      simp [rngD] at hd1
      obtain ⟨j, hj, e⟩ := hd1
      rw [List.getElem?_range (by omega)] at hj
      cases hj
      exact e.symm
    subst hB
    refine dSeq_gen fun R' hR' => ?_
    simp
    refine opt_at (by omega) (by simp; omega) fun z hz => ?_
    obtain ⟨u, rfl, u1, u2, u3, u4⟩ : ∃ u : Pt, z = ptD u ∧ u.okP Nm ∧ OkW ws ms u ∧ u.all.length ≤ 60 ∧ u.deep ≤ 10 := by
      simp at hz
      rcases hz with rfl | rfl | rfl
      · exact ⟨t, rfl, h1, h2, by omega, t10⟩
      · exact ⟨pl t, rfl, f1, f2, by omega, f4⟩
      · exact ⟨pl (pl t), rfl, g1, g2, by omega, g4⟩
    refine ⟨p, u, ws, ms, 1001 + i * 10000000, o8, rfl, by omega, by omega, w2, m2, m3, u2, u4, u3, by simp, fo8, by omega, fun L o9 a b fo9 => ?_⟩
    rw [upo_upo]
    subst hR'
    refine dSeq_gen fun R' hR' => ?_
    simp
    refine ⟨t, ms, L, rfl, ⟨a, by omega, h1, by omega, by omega⟩, t10, fun due hdue => ?_⟩
    subst hR'
    simp
    refine ⟨pl t, ms, L, rfl, ⟨a, by omega, f1, by omega, by omega⟩, f4, fun d1 h1' => ?_⟩
    have e1 : d1 = due := Bool.eq_iff_iff.mpr (h1'.trans (Wh_pl.trans hdue.symm))
    subst e1
    simp
    refine ⟨pl (pl t), ms, L, rfl, ⟨a, by omega, g1, by omega, by omega⟩, g4, fun d2 h2' => ?_⟩
    have e2 : d2 = d1 := Bool.eq_iff_iff.mpr (h2'.trans (Wh_pl.trans h1'.symm))
    subst e2
    simp
    exact hN _ _ ⟨o9, _, _, _, rfl, rfl, fo9.more (by omega)⟩
  · rintro τ S2 ⟨o8, x5, x8, x9, rfl, rfl, fo8⟩
    subst hR
    simp
    exact .same (h _)
end L64
set_option maxRecDepth 100000
set_option maxHeartbeats 4000000
namespace K64X
open PySem PySem.Spec L2
open L64
open L63 hiding N_l_ends N_l_gone N_l_line N_l_right N_law r_l_ends r_l_gone r_l_line r_l_right r_law sp_l_ends sp_l_ends_mono sp_l_gone sp_l_gone_mono sp_l_line sp_l_line_mono sp_l_right sp_l_right_mono sp_law sp_law_mono t_l_ends t_l_gone t_l_line t_l_right t_law
open Rm
open Rc hiding N_is_pattern N_parts_right r_is_pattern r_parts_right sp_is_pattern sp_is_pattern_mono sp_parts_right sp_parts_right_mono t_is_pattern t_parts_right
open Rq
open Sh hiding N_l_feed N_l_leaf N_l_names N_l_pattern deeps_le deeps_mem r_l_feed r_l_leaf r_l_names r_l_pattern sp_l_leaf sp_l_leaf_mono sp_l_names sp_l_names_mono sp_l_pattern sp_l_pattern_mono t_l_feed t_l_leaf t_l_names t_l_pattern
open Dt hiding nkeys pl pls sp_l_feed sp_l_feed_mono toPs_map
/-! the text by places -/
def topS (i : Nat) : Stmt := PySem.Challenge.pw_pathask_k64_plainly.main.body.getD i (.Pass ⟨0, 0, 0, 0⟩)
abbrev s_is_name : Stmt := topS 3
theorem sc_is_name : FnScope ["thing", "sign"] ["thing"] (defScope s_is_name) := ⟨rfl, rfl, rfl, by decide +kernel, rfl, by decide +kernel, by decide +kernel⟩
abbrev s_is_one_of : Stmt := topS 11
theorem sc_is_one_of : FnScope ["thing", "some"] ["thing", "some"] (defScope s_is_one_of) := ⟨rfl, rfl, rfl, by decide +kernel, rfl, by decide +kernel, by decide +kernel⟩
abbrev s_plain_then : Stmt := topS 19
theorem sc_plain_then : FnScope ["parts", "found", "one"] ["parts"] (defScope s_plain_then) := ⟨rfl, rfl, rfl, by decide +kernel, rfl, by decide +kernel, by decide +kernel⟩
abbrev s_plain_either : Stmt := topS 20
theorem sc_plain_either : FnScope ["parts", "found", "one", "some", "k"] ["parts"] (defScope s_plain_either) := ⟨rfl, rfl, rfl, by decide +kernel, rfl, by decide +kernel, by decide +kernel⟩
abbrev s_l_feed : Stmt := topS 23
theorem sc_l_feed : FnScope ["_law_script"] ["_law_script"] (defScope s_l_feed) := ⟨rfl, rfl, rfl, by decide +kernel, rfl, by decide +kernel, by decide +kernel⟩
abbrev s_l_draw : Stmt := topS 24
theorem sc_l_draw : FnScope ["_law_feed_here", "_law_many", "_law_found", "_law_at", "_law_cell", "_law_number"] ["_law_feed_here", "_law_many"] (defScope s_l_draw) := ⟨rfl, rfl, rfl, by decide +kernel, rfl, by decide +kernel, by decide +kernel⟩
abbrev s_l_join : Stmt := topS 31
theorem sc_l_join : FnScope ["_law_one", "_law_other", "_law_meet"] ["_law_one", "_law_other"] (defScope s_l_join) := ⟨rfl, rfl, rfl, by decide +kernel, rfl, by decide +kernel, by decide +kernel⟩
abbrev s_is_word : Stmt := topS 10
theorem sc_is_word : FnScope ["thing"] ["thing"] (defScope s_is_word) := ⟨rfl, rfl, rfl, by decide +kernel, rfl, by decide +kernel, by decide +kernel⟩
abbrev s_l_names : Stmt := topS 25
theorem sc_l_names : FnScope ["_law_feed_here", "_law_many", "_law_some", "_law_names_here", "_law_at"] ["_law_feed_here", "_law_many"] (defScope s_l_names) := ⟨rfl, rfl, rfl, by decide +kernel, rfl, by decide +kernel, by decide +kernel⟩
abbrev s_l_leaf : Stmt := topS 26
theorem sc_l_leaf : FnScope ["_law_feed_here", "_law_words", "_law_marks", "_law_way"] ["_law_feed_here", "_law_words", "_law_marks"] (defScope s_l_leaf) := ⟨rfl, rfl, rfl, by decide +kernel, rfl, by decide +kernel, by decide +kernel⟩
abbrev s_is_leaf : Stmt := topS 12
theorem sc_is_leaf : FnScope ["thing"] ["thing"] (defScope s_is_leaf) := ⟨rfl, rfl, rfl, by decide +kernel, rfl, by decide +kernel, by decide +kernel⟩
abbrev s_parts_right : Stmt := topS 13
theorem sc_parts_right : FnScope ["thing"] ["thing"] (defScope s_parts_right) := ⟨rfl, rfl, rfl, by decide +kernel, rfl, by decide +kernel, by decide +kernel⟩
abbrev s_is_pattern : Stmt := topS 14
theorem sc_is_pattern : FnScope ["thing", "left", "count", "part", "deep", "some", "one"] ["thing"] (defScope s_is_pattern) := ⟨rfl, rfl, rfl, by decide +kernel, rfl, by decide +kernel, by decide +kernel⟩
abbrev s_l_pattern : Stmt := topS 27
theorem sc_l_pattern : FnScope ["_law_feed_here", "_law_words", "_law_marks", "_law_bag", "_law_deep", "_law_way", "_law_some", "_law_k"] ["_law_feed_here", "_law_words", "_law_marks", "_law_bag", "_law_deep"] (defScope s_l_pattern) := ⟨rfl, rfl, rfl, by decide +kernel, rfl, by decide +kernel, by decide +kernel⟩
abbrev s_plainly : Stmt := topS 21
theorem sc_plainly : FnScope ["pattern", "inner", "one"] ["pattern"] (defScope s_plainly) := ⟨rfl, rfl, rfl, by decide +kernel, rfl, by decide +kernel, by decide +kernel⟩
abbrev s_l_gone : Stmt := topS 32
theorem sc_l_gone : FnScope ["_law_feed_here", "_law_pattern_here", "_law_words", "_law_marks", "_law_here", "_law_line_here", "_law_word", "_law_k", "_law_one", "_law_mark"] ["_law_feed_here", "_law_pattern_here", "_law_words", "_law_marks"] (defScope s_l_gone) := ⟨rfl, rfl, rfl, by decide +kernel, rfl, by decide +kernel, by decide +kernel⟩
abbrev s_l_line : Stmt := topS 33
theorem sc_l_line : FnScope ["_law_feed_here", "_law_pattern_here", "_law_words", "_law_marks", "_law_line_here", "_law_k", "_law_mark"] ["_law_feed_here", "_law_pattern_here", "_law_words", "_law_marks"] (defScope s_l_line) := ⟨rfl, rfl, rfl, by decide +kernel, rfl, by decide +kernel, by decide +kernel⟩
abbrev s_l_ends : Stmt := topS 28
theorem sc_l_ends : FnScope ["_law_pattern_here", "_law_line_here", "_law_at", "_law_known", "_law_mark"] ["_law_pattern_here", "_law_line_here", "_law_at", "_law_known"] (defScope s_l_ends) := ⟨rfl, rfl, rfl, by decide +kernel, rfl, by decide +kernel, by decide +kernel⟩
abbrev s_l_ends_anew : Stmt := topS 29
theorem sc_l_ends_anew : FnScope ["_law_pattern_here", "_law_line_here", "_law_at", "_law_known", "_law_good", "_law_spots", "_law_k", "_law_behind", "_law_one", "_law_spot", "_law_end"] ["_law_pattern_here", "_law_line_here", "_law_at", "_law_known"] (defScope s_l_ends_anew) := ⟨rfl, rfl, rfl, by decide +kernel, rfl, by decide +kernel, by decide +kernel⟩
abbrev s_l_right : Stmt := topS 30
theorem sc_l_right : FnScope ["_law_pattern_here", "_law_line_here"] ["_law_pattern_here", "_law_line_here"] (defScope s_l_right) := ⟨rfl, rfl, rfl, by decide +kernel, rfl, by decide +kernel, by decide +kernel⟩
abbrev s_l_all : Stmt := topS 34
theorem sc_l_all : FnScope ["_law_pattern_here", "_law_found", "_law_one"] ["_law_pattern_here"] (defScope s_l_all) := ⟨rfl, rfl, rfl, by decide +kernel, rfl, by decide +kernel, by decide +kernel⟩
abbrev s_l_plain : Stmt := topS 36
theorem sc_l_plain : FnScope ["_law_pattern_here", "_law_one", "_law_heads", "_law_inner"] ["_law_pattern_here"] (defScope s_l_plain) := ⟨rfl, rfl, rfl, by decide +kernel, rfl, by decide +kernel, by decide +kernel⟩
abbrev s_l_needless : Stmt := topS 35
theorem sc_l_needless : FnScope ["_law_feed_here", "_law_pattern_here", "_law_deep", "_law_way", "_law_at", "_law_inner", "_law_some"] ["_law_feed_here", "_law_pattern_here", "_law_deep"] (defScope s_l_needless) := ⟨rfl, rfl, rfl, by decide +kernel, rfl, by decide +kernel, by decide +kernel⟩
abbrev s_law : Stmt := topS 37
theorem sc_law : FnScope ["_law_script", "_law_feed_here", "_law_words", "_law_marks", "_law_pattern_here", "_law_k", "_law_found", "_law_again", "_law_line_here", "_law_due"] ["_law_script"] (defScope s_law) := ⟨rfl, rfl, rfl, by decide +kernel, rfl, by decide +kernel, by decide +kernel⟩
set_option genInjectivity false in
set_option genSizeOf false in
structure Txt0 (w : World) (K : PySem.W.Frag) (mg : Str → Option Value) where
  a_is_name : Addr
  f_is_name : FuncData
  F_is_name : Fun K "is_name" "is_name" s_is_name a_is_name f_is_name
  m_is_name : mg "is_name" = some (.ref a_is_name)
  d_is_name : Binds K f_is_name ["thing"] []
  a_is_one_of : Addr
  f_is_one_of : FuncData
  F_is_one_of : Fun K "is_one_of" "is_one_of" s_is_one_of a_is_one_of f_is_one_of
  m_is_one_of : mg "is_one_of" = some (.ref a_is_one_of)
  d_is_one_of : Binds K f_is_one_of ["thing", "some"] []
  a_plain_then : Addr
  f_plain_then : FuncData
  F_plain_then : Fun K "plain_then" "plain_then" s_plain_then a_plain_then f_plain_then
  m_plain_then : mg "plain_then" = some (.ref a_plain_then)
  d_plain_then : Binds K f_plain_then ["parts"] []
  a_plain_either : Addr
  f_plain_either : FuncData
  F_plain_either : Fun K "plain_either" "plain_either" s_plain_either a_plain_either f_plain_either
  m_plain_either : mg "plain_either" = some (.ref a_plain_either)
  d_plain_either : Binds K f_plain_either ["parts"] []
  a_l_feed : Addr
  f_l_feed : FuncData
  F_l_feed : Fun K "_law_feed" "_law_feed" s_l_feed a_l_feed f_l_feed
  m_l_feed : mg "_law_feed" = some (.ref a_l_feed)
  d_l_feed : Binds K f_l_feed ["_law_script"] []
structure Txt1 (w : World) (K : PySem.W.Frag) (mg : Str → Option Value) extends Txt0 w K mg where
  a_l_draw : Addr
  f_l_draw : FuncData
  F_l_draw : Fun K "_law_draw" "_law_draw" s_l_draw a_l_draw f_l_draw
  m_l_draw : mg "_law_draw" = some (.ref a_l_draw)
  d_l_draw : Binds K f_l_draw ["_law_feed_here", "_law_many"] []
  a_l_join : Addr
  f_l_join : FuncData
  F_l_join : Fun K "_law_join" "_law_join" s_l_join a_l_join f_l_join
  m_l_join : mg "_law_join" = some (.ref a_l_join)
  d_l_join : Binds K f_l_join ["_law_one", "_law_other"] []
  a_is_word : Addr
  f_is_word : FuncData
  F_is_word : Fun K "is_word" "is_word" s_is_word a_is_word f_is_word
  m_is_word : mg "is_word" = some (.ref a_is_word)
  d_is_word : Binds K f_is_word ["thing"] []
  a_l_names : Addr
  f_l_names : FuncData
  F_l_names : Fun K "_law_names" "_law_names" s_l_names a_l_names f_l_names
  m_l_names : mg "_law_names" = some (.ref a_l_names)
  d_l_names : Binds K f_l_names ["_law_feed_here", "_law_many"] []
  a_l_leaf : Addr
  f_l_leaf : FuncData
  F_l_leaf : Fun K "_law_leaf" "_law_leaf" s_l_leaf a_l_leaf f_l_leaf
  m_l_leaf : mg "_law_leaf" = some (.ref a_l_leaf)
  d_l_leaf : Binds K f_l_leaf ["_law_feed_here", "_law_words", "_law_marks"] []
structure Txt2 (w : World) (K : PySem.W.Frag) (mg : Str → Option Value) extends Txt1 w K mg where
  a_is_leaf : Addr
  f_is_leaf : FuncData
  F_is_leaf : Fun K "is_leaf" "is_leaf" s_is_leaf a_is_leaf f_is_leaf
  m_is_leaf : mg "is_leaf" = some (.ref a_is_leaf)
  d_is_leaf : Binds K f_is_leaf ["thing"] []
  a_parts_right : Addr
  f_parts_right : FuncData
  F_parts_right : Fun K "parts_right" "parts_right" s_parts_right a_parts_right f_parts_right
  m_parts_right : mg "parts_right" = some (.ref a_parts_right)
  d_parts_right : Binds K f_parts_right ["thing"] []
  a_is_pattern : Addr
  f_is_pattern : FuncData
  F_is_pattern : Fun K "is_pattern" "is_pattern" s_is_pattern a_is_pattern f_is_pattern
  m_is_pattern : mg "is_pattern" = some (.ref a_is_pattern)
  d_is_pattern : Binds K f_is_pattern ["thing"] []
  a_l_pattern : Addr
  f_l_pattern : FuncData
  F_l_pattern : Fun K "_law_pattern" "_law_pattern" s_l_pattern a_l_pattern f_l_pattern
  m_l_pattern : mg "_law_pattern" = some (.ref a_l_pattern)
  d_l_pattern : Binds K f_l_pattern ["_law_feed_here", "_law_words", "_law_marks", "_law_bag", "_law_deep"] []
  a_plainly : Addr
  f_plainly : FuncData
  F_plainly : Fun K "plainly" "plainly" s_plainly a_plainly f_plainly
  m_plainly : mg "plainly" = some (.ref a_plainly)
  d_plainly : Binds K f_plainly ["pattern"] []
structure Txt3 (w : World) (K : PySem.W.Frag) (mg : Str → Option Value) extends Txt2 w K mg where
  a_l_gone : Addr
  f_l_gone : FuncData
  F_l_gone : Fun K "_law_gone" "_law_gone" s_l_gone a_l_gone f_l_gone
  m_l_gone : mg "_law_gone" = some (.ref a_l_gone)
  d_l_gone : Binds K f_l_gone ["_law_feed_here", "_law_pattern_here", "_law_words", "_law_marks"] []
  a_l_line : Addr
  f_l_line : FuncData
  F_l_line : Fun K "_law_line" "_law_line" s_l_line a_l_line f_l_line
  m_l_line : mg "_law_line" = some (.ref a_l_line)
  d_l_line : Binds K f_l_line ["_law_feed_here", "_law_pattern_here", "_law_words", "_law_marks"] []
  a_l_ends : Addr
  f_l_ends : FuncData
  F_l_ends : Fun K "_law_ends" "_law_ends" s_l_ends a_l_ends f_l_ends
  m_l_ends : mg "_law_ends" = some (.ref a_l_ends)
  d_l_ends : Binds K f_l_ends ["_law_pattern_here", "_law_line_here", "_law_at", "_law_known"] []
  a_l_ends_anew : Addr
  f_l_ends_anew : FuncData
  F_l_ends_anew : Fun K "_law_ends_anew" "_law_ends_anew" s_l_ends_anew a_l_ends_anew f_l_ends_anew
  m_l_ends_anew : mg "_law_ends_anew" = some (.ref a_l_ends_anew)
  d_l_ends_anew : Binds K f_l_ends_anew ["_law_pattern_here", "_law_line_here", "_law_at", "_law_known"] []
  a_l_right : Addr
  f_l_right : FuncData
  F_l_right : Fun K "_law_right" "_law_right" s_l_right a_l_right f_l_right
  m_l_right : mg "_law_right" = some (.ref a_l_right)
  d_l_right : Binds K f_l_right ["_law_pattern_here", "_law_line_here"] []
structure Txt4 (w : World) (K : PySem.W.Frag) (mg : Str → Option Value) extends Txt3 w K mg where
  a_l_all : Addr
  f_l_all : FuncData
  F_l_all : Fun K "_law_all" "_law_all" s_l_all a_l_all f_l_all
  m_l_all : mg "_law_all" = some (.ref a_l_all)
  d_l_all : Binds K f_l_all ["_law_pattern_here"] []
  a_l_plain : Addr
  f_l_plain : FuncData
  F_l_plain : Fun K "_law_plain" "_law_plain" s_l_plain a_l_plain f_l_plain
  m_l_plain : mg "_law_plain" = some (.ref a_l_plain)
  d_l_plain : Binds K f_l_plain ["_law_pattern_here"] []
  a_l_needless : Addr
  f_l_needless : FuncData
  F_l_needless : Fun K "_law_needless" "_law_needless" s_l_needless a_l_needless f_l_needless
  m_l_needless : mg "_law_needless" = some (.ref a_l_needless)
  d_l_needless : Binds K f_l_needless ["_law_feed_here", "_law_pattern_here", "_law_deep"] []
  a_law : Addr
  f_law : FuncData
  F_law : Fun K "law" "law" s_law a_law f_law
  m_law : mg "law" = some (.ref a_law)
  d_law : Binds K f_law ["_law_script"] []
  t_ANY_WORD : Tok
  g_ANY_WORD : mg "ANY_WORD" = some (.str "*" t_ANY_WORD)
  t_LETTERS : Tok
  g_LETTERS : mg "LETTERS" = some (.str "abcdefghijklmnopqrstuvwxyz" t_LETTERS)
  t_MOST_DEEP : Tok
structure Txt5 (w : World) (K : PySem.W.Frag) (mg : Str → Option Value) extends Txt4 w K mg where
  g_MOST_DEEP : mg "MOST_DEEP" = some (.int 10 t_MOST_DEEP)
  t_MOST_PARTS : Tok
  g_MOST_PARTS : mg "MOST_PARTS" = some (.int 40 t_MOST_PARTS)
  t_MOST_SIGNS : Tok
  g_MOST_SIGNS : mg "MOST_SIGNS" = some (.int 8 t_MOST_SIGNS)
  t_MOST_WITHIN : Tok
  g_MOST_WITHIN : mg "MOST_WITHIN" = some (.int 39 t_MOST_WITHIN)
  a_NOTHING : Addr
  i_NOTHING : Array Value
  n_NOTHING : Nat
  g_NOTHING : mg "NOTHING" = some (.ref a_NOTHING)
  l_NOTHING : K.lookup a_NOTHING = some ⟨.type "tuple", none, .seq i_NOTHING n_NOTHING, #[]⟩
  z_NOTHING : i_NOTHING.size ≤ sizeLine
  v_NOTHING : ∃ vs : List V, Vals vs i_NOTHING.toList ∧ ∀ H, RDs K H [.str "either", (.tup [])] vs
  a_NO_STEPS : Addr
  i_NO_STEPS : Array Value
  n_NO_STEPS : Nat
  g_NO_STEPS : mg "NO_STEPS" = some (.ref a_NO_STEPS)
  l_NO_STEPS : K.lookup a_NO_STEPS = some ⟨.type "tuple", none, .seq i_NO_STEPS n_NO_STEPS, #[]⟩
  z_NO_STEPS : i_NO_STEPS.size ≤ sizeLine
  v_NO_STEPS : ∃ vs : List V, Vals vs i_NO_STEPS.toList ∧ ∀ H, RDs K H [.str "then", (.tup [])] vs
  a_SIDES : Addr
  i_SIDES : Array Value
  n_SIDES : Nat
  g_SIDES : mg "SIDES" = some (.ref a_SIDES)
structure Txt (w : World) (K : PySem.W.Frag) (mg : Str → Option Value) extends Txt5 w K mg where
  l_SIDES : K.lookup a_SIDES = some ⟨.type "tuple", none, .seq i_SIDES n_SIDES, #[]⟩
  z_SIDES : i_SIDES.size ≤ sizeLine
  v_SIDES : ∃ vs : List V, Vals vs i_SIDES.toList ∧ ∀ H, RDs K H [.str "on", .str "back"] vs
  a_STAY : Addr
  i_STAY : Array Value
  n_STAY : Nat
  g_STAY : mg "STAY" = some (.ref a_STAY)
  l_STAY : K.lookup a_STAY = some ⟨.type "tuple", none, .seq i_STAY n_STAY, #[]⟩
  z_STAY : i_STAY.size ≤ sizeLine
  v_STAY : ∃ vs : List V, Vals vs i_STAY.toList ∧ ∀ H, RDs K H [.str "stay"] vs
  b_all : mg "all" = none
  b_int : mg "int" = none
  b_isinstance : mg "isinstance" = none
  b_len : mg "len" = none
  b_list : mg "list" = none
  b_range : mg "range" = none
  b_repr : mg "repr" = none
  b_set : mg "set" = none
  b_sorted : mg "sorted" = none
  b_str : mg "str" = none
  b_tuple : mg "tuple" = none
end K64X
set_option maxRecDepth 100000
set_option maxHeartbeats 4000000
namespace K64X
open PySem PySem.Spec L2
open L64
open L63 hiding N_l_ends N_l_gone N_l_line N_l_right N_law r_l_ends r_l_gone r_l_line r_l_right r_law sp_l_ends sp_l_ends_mono sp_l_gone sp_l_gone_mono sp_l_line sp_l_line_mono sp_l_right sp_l_right_mono sp_law sp_law_mono t_l_ends t_l_gone t_l_line t_l_right t_law
open Rm
open Rc hiding N_is_pattern N_parts_right r_is_pattern r_parts_right sp_is_pattern sp_is_pattern_mono sp_parts_right sp_parts_right_mono t_is_pattern t_parts_right
open Rq
open Sh hiding N_l_feed N_l_leaf N_l_names N_l_pattern deeps_le deeps_mem r_l_feed r_l_leaf r_l_names r_l_pattern sp_l_leaf sp_l_leaf_mono sp_l_names sp_l_names_mono sp_l_pattern sp_l_pattern_mono t_l_feed t_l_leaf t_l_names t_l_pattern
open Dt hiding nkeys pl pls sp_l_feed sp_l_feed_mono toPs_map

/-! is_name -/
def t_is_name : DTS := (dSeq (dIf (dOr (dNot (dTest (dIsi "str" (dVar 0)))) (dOr (dTest (dOp rLt (dCB cLen (dCons (dVar 0) dNil)) (dC (.int 1)))) (dTest (dOp rGt (dCB cLen (dCons (dVar 0) dNil)) (dC (.int 8))))))
      (dRet (dC (.bl false)))
      dNx)
    (dRet (dCB cAll (dCons (dFz (dLc (dSeqI (dVar 0)) (dGN 1) dYes (dOp (dInS false) (dVar 1) (dC (.str "abcdefghijklmnopqrstuvwxyz"))) [1])) dNil))))
abbrev N_is_name : List Str := ["thing", "sign"]
theorem ok_is_name {P : Program} {w : World} {K : PySem.W.Frag} {mg : Str → Option Value} {base : Heap} (T : Txt w K mg) {sp : DSp}
    (mono : SpMono sp) (len : ∀ ds S Q E, sp ds S Q E → ds.length = 1)
    (h : ∀ ds S Q E, sp ds S Q E → t_is_name (dEnd Q E) (dstart ["thing", "sign"] ds) S) : DFn P w K mg base 1 T.a_is_name T.f_is_name ["thing"] sp := by
  refine dfn_of2 (t := t_is_name) T.F_is_name sc_is_name mono len (fun cdv A outer s H E hr gu => ?_) h
  have hu1 := hu_of hr
  have hu2 := hu_big hr
  exact (dss_cons (ds_if (DWt.pt (dw_or (dt_not (dt_val (de_isi (T := "str") (by decide) (dv 0) (by rfl) T.b_isinstance (by rfl) T.b_str (by decide +kernel)))) (dw_or (dt_cmp od_lt (de_callB cd_len (by rfl) T.b_len (by decide +kernel) (da_cons (dv 0) da_nil)) de_int (nomark _)) (dw_or1 (dt_cmp od_gt (de_callB cd_len (by rfl) T.b_len (by decide +kernel) (da_cons (dv 0) da_nil)) (de_gint (by rfl) T.g_MOST_SIGNS) (nomark _))))))
      (dss_one (ds_ret de_bl))
      dss_nil)
    (dss_one (ds_ret (de_callB (cd_all rfl) (by rfl) T.b_all (by decide +kernel) (da_cons (de_fz (de_lc (own := [("sign", 1)]) rfl sc_is_name.nd (di_seq (dv 0)) (blkOk_by (own := [("sign", 1)]) (N := ["thing", "sign"]) (sc := defScope s_is_name) (by decide +kernel)) ⟨fun _ _ _ _ _ => (dw_name (i := 1) sc_is_name.nd rfl (by first | exact Or.inl rfl | exact Or.inr rfl) (by decide)), fun _ _ _ _ _ => dts_nil, fun _ _ _ _ _ => (de_cmp od_inS (dv 1) (de_gstr (by rfl) T.g_LETTERS) (by rfl))⟩)) da_nil)))))

/-! is_one_of -/
def t_is_one_of : DTS := (dRet (dAndV (dIsi "str" (dVar 0)) (dOp (dIn false) (dVar 0) (dVar 1))))
abbrev N_is_one_of : List Str := ["thing", "some"]
theorem ok_is_one_of {P : Program} {w : World} {K : PySem.W.Frag} {mg : Str → Option Value} {base : Heap} (T : Txt w K mg) {sp : DSp}
    (mono : SpMono sp) (len : ∀ ds S Q E, sp ds S Q E → ds.length = 2)
    (h : ∀ ds S Q E, sp ds S Q E → t_is_one_of (dEnd Q E) (dstart ["thing", "some"] ds) S) : DFn P w K mg base 1 T.a_is_one_of T.f_is_one_of ["thing", "some"] sp := by
  refine dfn_of2 (t := t_is_one_of) T.F_is_one_of sc_is_one_of mono len (fun cdv A outer s H E hr gu => ?_) h
  have hu1 := hu_of hr
  have hu2 := hu_big hr
  exact (dss_one (ds_ret (de_and (de_isi (T := "str") (by decide) (dv 0) (by rfl) T.b_isinstance (by rfl) T.b_str (by decide +kernel)) (de_one (de_cmp (od_in hu2) (dv 0) (dv 1) (by rfl))))))

/-! plain_then -/
def t_plain_then : DTS := (dSeq (dAsg (dLst dNil) (dGN 1))
    (dSeq (dFor (dSeqI (dVar 0)) (dGN 2)
      (dSeq (dIf (dTest (dOp (dEq false) (dVar 2) (dC (.tup [.str "either", (.tup [])]))))
      (dRet (dC (.tup [.str "either", (.tup [])])))
      dNx)
    (dIf (dTest (dOp (dEq false) (dOp dIxS (dVar 2) (dC (.int 0))) (dC (.str "then"))))
      (dDrop (dBM "list" mExtendT (dVar 1) (dCons (dOp dIxS (dVar 2) (dC (.int 1))) dNil)))
      (dIf (dTest (dOp (dEq true) (dVar 2) (dC (.tup [.str "stay"]))))
      (dDrop (dBM "list" mAppend (dVar 1) (dCons (dVar 2) dNil)))
      dNx))))
    (dSeq (dIf (dTest (dOp (dEq false) (dCB cLen (dCons (dVar 1) dNil)) (dC (.int 1))))
      (dRet (dOp dIxS (dVar 1) (dC (.int 0))))
      dNx)
    (dRet (dTup (dCons (dC (.str "then")) (dCons (dCB cTuple (dCons (dVar 1) dNil)) dNil)))))))
abbrev N_plain_then : List Str := ["parts", "found", "one"]
theorem ok_plain_then {P : Program} {w : World} {K : PySem.W.Frag} {mg : Str → Option Value} {base : Heap} (T : Txt w K mg) {sp : DSp}
    (mono : SpMono sp) (len : ∀ ds S Q E, sp ds S Q E → ds.length = 1)
    (h : ∀ ds S Q E, sp ds S Q E → t_plain_then (dEnd Q E) (dstart ["parts", "found", "one"] ds) S) : DFn P w K mg base 1 T.a_plain_then T.f_plain_then ["parts"] sp := by
  refine dfn_of2 (t := t_plain_then) T.F_plain_then sc_plain_then mono len (fun cdv A outer s H E hr gu => ?_) h
  have hu1 := hu_of hr
  have hu2 := hu_big hr
  exact (dss_cons (ds_set (i := 1) sc_plain_then.nd rfl (by first | exact Or.inl rfl | exact Or.inr rfl) (de_lst da_nil))
    (dss_cons (ds_for (passes_of rfl) rfl (di_seq (dv 0)) (dg_name (i := 2) sc_plain_then.nd rfl (by first | exact Or.inl rfl | exact Or.inr rfl))
      (dss_cons (ds_if (dt_cmp (od_eq hr.units) (dv 2) (de_gtup (by rfl) T.g_NOTHING T.l_NOTHING T.z_NOTHING T.v_NOTHING) (nomark _))
      (dss_one (ds_ret (de_gtup (by rfl) T.g_NOTHING T.l_NOTHING T.z_NOTHING T.v_NOTHING)))
      dss_nil)
    (dss_one (ds_if (dt_cmp (od_eq hr.units) (de_ix (ixD_any hu2) (dv 2) de_int) de_str (nomark _))
      (dss_one (ds_expr (de_bm PySem.F.plainAttrs_list PySem.F.slot_list_extend PySem.F.type_list_extend md_extendT (dv 1) (da_cons (de_ix (ixD_any hu2) (dv 2) de_int) da_nil))))
      (dss_one (ds_if (dt_cmp (od_ne hr.units) (dv 2) (de_gtup (by rfl) T.g_STAY T.l_STAY T.z_STAY T.v_STAY) (nomark _))
      (dss_one (ds_expr (de_bm PySem.F.plainAttrs_list PySem.F.slot_list_append PySem.F.type_list_append md_append (dv 1) (da_cons (dv 2) da_nil))))
      dss_nil))))))
    (dss_cons (ds_if (dt_cmp (od_eq hr.units) (de_callB cd_len (by rfl) T.b_len (by decide +kernel) (da_cons (dv 1) da_nil)) de_int (nomark _))
      (dss_one (ds_ret (de_ix (ixD_any hu2) (dv 1) de_int)))
      dss_nil)
    (dss_one (ds_ret (de_tup (da_cons de_str (da_cons (de_callTy cd_tuple (by rfl) T.b_tuple (by decide +kernel) (da_cons (dv 1) da_nil)) da_nil))))))))

/-! plain_either -/
def t_plain_either : DTS := (dSeq (dAsg (dLst dNil) (dGN 1))
    (dSeq (dFor (dSeqI (dVar 0)) (dGN 2)
      (dSeq (dAsg (dLstF (dCons (dVar 2) dNil)) (dGN 3))
    (dSeq (dIf (dTest (dOp (dEq false) (dOp dIxS (dVar 2) (dC (.int 0))) (dC (.str "either"))))
      (dAsg (dOp dIxS (dVar 2) (dC (.int 1))) (dGN 3))
      dNx)
    (dDrop (dBM "list" mExtend (dVar 1) (dCons (dFz (dLc (dRng1 (dCons (dCB cLen (dCons (dVar 3) dNil)) dNil)) (dGN 4) (dTest (dOp (dIn true) (dOp dIxS (dVar 3) (dVar 4)) (dVar 1))) (dOp dIxS (dVar 3) (dVar 4)) [4])) dNil))))))
    (dSeq (dIf (dTest (dOp (dEq false) (dCB cLen (dCons (dVar 1) dNil)) (dC (.int 1))))
      (dRet (dOp dIxS (dVar 1) (dC (.int 0))))
      dNx)
    (dRet (dTup (dCons (dC (.str "either")) (dCons (dCB cTuple (dCons (dVar 1) dNil)) dNil)))))))
abbrev N_plain_either : List Str := ["parts", "found", "one", "some", "k"]
theorem ok_plain_either {P : Program} {w : World} {K : PySem.W.Frag} {mg : Str → Option Value} {base : Heap} (T : Txt w K mg) {sp : DSp}
    (mono : SpMono sp) (len : ∀ ds S Q E, sp ds S Q E → ds.length = 1)
    (h : ∀ ds S Q E, sp ds S Q E → t_plain_either (dEnd Q E) (dstart ["parts", "found", "one", "some", "k"] ds) S) : DFn P w K mg base 1 T.a_plain_either T.f_plain_either ["parts"] sp := by
  refine dfn_of2 (t := t_plain_either) T.F_plain_either sc_plain_either mono len (fun cdv A outer s H E hr gu => ?_) h
  have hu1 := hu_of hr
  have hu2 := hu_big hr
  exact (dss_cons (ds_set (i := 1) sc_plain_either.nd rfl (by first | exact Or.inl rfl | exact Or.inr rfl) (de_lst da_nil))
    (dss_cons (ds_for (passes_of rfl) rfl (di_seq (dv 0)) (dg_name (i := 2) sc_plain_either.nd rfl (by first | exact Or.inl rfl | exact Or.inr rfl))
      (dss_cons (ds_set (i := 3) sc_plain_either.nd rfl (by first | exact Or.inl rfl | exact Or.inr rfl) (de_lstF (da_cons (dv 2) da_nil)))
    (dss_cons (ds_if (dt_cmp (od_eq hr.units) (de_ix (ixD_any hu2) (dv 2) de_int) de_str (nomark _))
      (dss_one (ds_set (i := 3) sc_plain_either.nd rfl (by first | exact Or.inl rfl | exact Or.inr rfl) (de_ix (ixD_any hu2) (dv 2) de_int)))
      dss_nil)
    (dss_one (ds_expr (de_bm PySem.F.plainAttrs_list PySem.F.slot_list_extend PySem.F.type_list_extend md_extend (dv 1) (da_cons (de_fz (de_lc (own := [("k", 4)]) rfl sc_plain_either.nd (di_rng1 (by rfl) T.b_range (da_cons (de_callB cd_len (by rfl) T.b_len (by decide +kernel) (da_cons (dv 3) da_nil)) da_nil)) (blkOk_by (own := [("k", 4)]) (N := ["parts", "found", "one", "some", "k"]) (sc := defScope s_plain_either) (by decide +kernel)) ⟨fun _ _ _ _ _ => (dw_name (i := 4) sc_plain_either.nd rfl (by first | exact Or.inl rfl | exact Or.inr rfl) (by decide)), fun _ _ _ _ _ => (dts_one (dt_cmp (od_nin hu2) (de_ix (ixD_any hu2) (dv 3) (dv 4)) (dv 1) (by rfl))), fun _ _ _ _ _ => (de_ix (ixD_any hu2) (dv 3) (dv 4))⟩)) da_nil)))))))
    (dss_cons (ds_if (dt_cmp (od_eq hr.units) (de_callB cd_len (by rfl) T.b_len (by decide +kernel) (da_cons (dv 1) da_nil)) de_int (nomark _))
      (dss_one (ds_ret (de_ix (ixD_any hu2) (dv 1) de_int)))
      dss_nil)
    (dss_one (ds_ret (de_tup (da_cons de_str (da_cons (de_callTy cd_tuple (by rfl) T.b_tuple (by decide +kernel) (da_cons (dv 1) da_nil)) da_nil))))))))

/-! l_feed -/
def t_l_feed : DTS := (dRet (dDisp [("cells", (dCB cListAF (dCons (dSlF (dVar 0) dNoP (dSoP (dC (.int 63)))) dNil))), ("at", (dC (.int 0))), ("left", (dC (.int 0)))]))
abbrev N_l_feed : List Str := ["_law_script"]
theorem ok_l_feed {P : Program} {w : World} {K : PySem.W.Frag} {mg : Str → Option Value} {base : Heap} (T : Txt w K mg) {sp : DSp}
    (mono : SpMono sp) (len : ∀ ds S Q E, sp ds S Q E → ds.length = 1)
    (h : ∀ ds S Q E, sp ds S Q E → t_l_feed (dEnd Q E) (dstart ["_law_script"] ds) S) : DFn P w K mg base 1 T.a_l_feed T.f_l_feed ["_law_script"] sp := by
  refine dfn_of2 (t := t_l_feed) T.F_l_feed sc_l_feed mono len (fun cdv A outer s H E hr gu => ?_) h
  have hu1 := hu_of hr
  have hu2 := hu_big hr
  exact (dss_one (ds_ret (de_disp (DPs.cons (de_callTy (cd_listAF rfl) (by rfl) T.b_list (by decide +kernel) (da_cons (de_slF (dv 0) do_none (do_some de_int)) da_nil)) (DPs.cons de_int (DPs.cons de_int DPs.nil))))))

/-! l_draw -/
def t_l_draw : DTS := (dSeq (dIf (dTest (dOp rGt (dOp dIxS (dVar 0) (dC (.str "left"))) (dC (.int 0))))
      (dSeq (dAsg (dOp rMod (dOp dIxS (dVar 0) (dC (.str "left"))) (dVar 1)) (dGN 2))
    (dSeq (dPut (dVar 0) (dC (.str "left")) (dOp rFdiv (dOp dIxS (dVar 0) (dC (.str "left"))) (dVar 1)))
    (dRet (dVar 2))))
      dNx)
    (dSeq (dAsg (dOp dIxS (dVar 0) (dC (.str "at"))) (dGN 3))
    (dSeq (dPut (dVar 0) (dC (.str "at")) (dOp dAddF (dVar 3) (dC (.int 1))))
    (dSeq (dAsg (dVar 3) (dGN 4))
    (dSeq (dIf (dTest (dOp (dEq true) (dOp dIxS (dVar 0) (dC (.str "cells"))) (dLstF dNil)))
      (dAsg (dOp dIxS (dOp dIxS (dVar 0) (dC (.str "cells"))) (dOp rMod (dVar 3) (dCB cLen (dCons (dOp dIxS (dVar 0) (dC (.str "cells"))) dNil)))) (dGN 4))
      dNx)
    (dSeq (dIf (dTest (dOp rGe (dVar 4) (dOp rPow (dC (.int 10)) (dC (.int 18)))))
      (dSeq (dPut (dVar 0) (dC (.str "left")) (dOp rFdiv (dVar 4) (dVar 1)))
    (dRet (dOp rMod (dVar 4) (dVar 1))))
      dNx)
    (dSeq (dAsg (dOp rMod (dOp dMul (dOp dAddF (dOp dAddF (dOp dAddF (dOp rMod (dVar 4) (dC (.int 1000003))) (dOp dMul (dOp dMul (dC (.int 7)) (dVar 3)) (dVar 3))) (dOp dMul (dC (.int 31)) (dVar 3))) (dC (.int 1))) (dC (.int 48271))) (dC (.int 999983))) (dGN 5))
    (dSeq (dAsg (dOp rMod (dOp dMul (dOp dAddF (dOp dMul (dVar 5) (dVar 5)) (dVar 3)) (dC (.int 30269))) (dC (.int 2147483629))) (dGN 5))
    (dRet (dOp rMod (dOp rFdiv (dVar 5) (dC (.int 7))) (dVar 1)))))))))))
abbrev N_l_draw : List Str := ["_law_feed_here", "_law_many", "_law_found", "_law_at", "_law_cell", "_law_number"]
theorem ok_l_draw {P : Program} {w : World} {K : PySem.W.Frag} {mg : Str → Option Value} {base : Heap} (T : Txt w K mg) {sp : DSp}
    (mono : SpMono sp) (len : ∀ ds S Q E, sp ds S Q E → ds.length = 2)
    (h : ∀ ds S Q E, sp ds S Q E → t_l_draw (dEnd Q E) (dstart ["_law_feed_here", "_law_many", "_law_found", "_law_at", "_law_cell", "_law_number"] ds) S) : DFn P w K mg base 1 T.a_l_draw T.f_l_draw ["_law_feed_here", "_law_many"] sp := by
  refine dfn_of2 (t := t_l_draw) T.F_l_draw sc_l_draw mono len (fun cdv A outer s H E hr gu => ?_) h
  have hu1 := hu_of hr
  have hu2 := hu_big hr
  exact (dss_cons (ds_if (dt_cmp od_gt (de_ix (ixD_any hu2) (dv 0) de_str) de_int (nomark _))
      (dss_cons (ds_set (i := 2) sc_l_draw.nd rfl (by first | exact Or.inl rfl | exact Or.inr rfl) (de_op od_mod (de_ix (ixD_any hu2) (dv 0) de_str) (dv 1)))
    (dss_cons (ds_put hu2 (dv 0) de_str (de_op od_fdiv (de_ix (ixD_any hu2) (dv 0) de_str) (dv 1)))
    (dss_one (ds_ret (dv 2)))))
      dss_nil)
    (dss_cons (ds_set (i := 3) sc_l_draw.nd rfl (by first | exact Or.inl rfl | exact Or.inr rfl) (de_ix (ixD_any hu2) (dv 0) de_str))
    (dss_cons (ds_put hu2 (dv 0) de_str (de_op od_addF (dv 3) de_int))
    (dss_cons (ds_set (i := 4) sc_l_draw.nd rfl (by first | exact Or.inl rfl | exact Or.inr rfl) (dv 3))
    (dss_cons (ds_if (dt_cmp (od_ne hr.units) (de_ix (ixD_any hu2) (dv 0) de_str) (de_lstF da_nil) (nomark _))
      (dss_one (ds_set (i := 4) sc_l_draw.nd rfl (by first | exact Or.inl rfl | exact Or.inr rfl) (de_ix (ixD_any hu2) (de_ix (ixD_any hu2) (dv 0) de_str) (de_op od_mod (dv 3) (de_callB cd_len (by rfl) T.b_len (by decide +kernel) (da_cons (de_ix (ixD_any hu2) (dv 0) de_str) da_nil))))))
      dss_nil)
    (dss_cons (ds_if (dt_cmp od_ge (dv 4) (de_op od_pow de_int de_int) (nomark _))
      (dss_cons (ds_put hu2 (dv 0) de_str (de_op od_fdiv (dv 4) (dv 1)))
    (dss_one (ds_ret (de_op od_mod (dv 4) (dv 1)))))
      dss_nil)
    (dss_cons (ds_set (i := 5) sc_l_draw.nd rfl (by first | exact Or.inl rfl | exact Or.inr rfl) (de_op od_mod (de_op od_mul (de_op od_addF (de_op od_addF (de_op od_addF (de_op od_mod (dv 4) de_int) (de_op od_mul (de_op od_mul de_int (dv 3)) (dv 3))) (de_op od_mul de_int (dv 3))) de_int) de_int) de_int))
    (dss_cons (ds_set (i := 5) sc_l_draw.nd rfl (by first | exact Or.inl rfl | exact Or.inr rfl) (de_op od_mod (de_op od_mul (de_op od_addF (de_op od_mul (dv 5) (dv 5)) (dv 3)) de_int) de_int))
    (dss_one (ds_ret (de_op od_mod (de_op od_fdiv (dv 5) de_int) (dv 1))))))))))))

/-! l_join -/
def t_l_join : DTS := (dSeq (dAsg (dCB cTuple (dCons (dSortSetAF (dOp dAddF (dOp dIxS (dOp dIxS (dVar 0) (dC (.int 0))) (dNeg (dC (.int 1)))) (dOp dIxS (dOp dIxS (dVar 1) (dC (.int 0))) (dC (.int 0))))) dNil)) (dGN 2))
    (dRet (dTup (dCons (dOp dAddF (dOp dAddF (dSlF (dOp dIxS (dVar 0) (dC (.int 0))) dNoP (dSoP (dNeg (dC (.int 1))))) (dLstF (dCons (dVar 2) dNil))) (dSlF (dOp dIxS (dVar 1) (dC (.int 0))) (dSoP (dC (.int 1))) dNoP)) (dCons (dOp dAddF (dOp dIxS (dVar 0) (dC (.int 1))) (dOp dIxS (dVar 1) (dC (.int 1)))) dNil)))))
abbrev N_l_join : List Str := ["_law_one", "_law_other", "_law_meet"]
theorem ok_l_join {P : Program} {w : World} {K : PySem.W.Frag} {mg : Str → Option Value} {base : Heap} (T : Txt w K mg) {sp : DSp}
    (mono : SpMono sp) (len : ∀ ds S Q E, sp ds S Q E → ds.length = 2)
    (h : ∀ ds S Q E, sp ds S Q E → t_l_join (dEnd Q E) (dstart ["_law_one", "_law_other", "_law_meet"] ds) S) : DFn P w K mg base 1 T.a_l_join T.f_l_join ["_law_one", "_law_other"] sp := by
  refine dfn_of2 (t := t_l_join) T.F_l_join sc_l_join mono len (fun cdv A outer s H E hr gu => ?_) h
  have hu1 := hu_of hr
  have hu2 := hu_big hr
  exact (dss_cons (ds_set (i := 2) sc_l_join.nd rfl (by first | exact Or.inl rfl | exact Or.inr rfl) (de_callTy cd_tuple (by rfl) T.b_tuple (by decide +kernel) (da_cons (de_sortSetAF rfl (hu64 hu2) (by rfl) T.b_sorted (by rfl) T.b_set (by decide +kernel) (by decide +kernel) (de_op od_addF (de_ix (ixD_any hu2) (de_ix (ixD_any hu2) (dv 0) de_int) (de_neg de_int)) (de_ix (ixD_any hu2) (de_ix (ixD_any hu2) (dv 1) de_int) de_int))) da_nil)))
    (dss_one (ds_ret (de_tup (da_cons (de_op od_addF (de_op od_addF (de_slF (de_ix (ixD_any hu2) (dv 0) de_int) do_none (do_some (de_neg de_int))) (de_lstF (da_cons (dv 2) da_nil))) (de_slF (de_ix (ixD_any hu2) (dv 1) de_int) (do_some de_int) do_none)) (da_cons (de_op od_addF (de_ix (ixD_any hu2) (dv 0) de_int) (de_ix (ixD_any hu2) (dv 1) de_int)) da_nil))))))

/-! is_word -/
def t_is_word : DTS := (dRet (dOrV (dCall sp_is_name (dCons (dVar 0) dNil)) (dAndV (dIsi "str" (dVar 0)) (dOp (dEq false) (dVar 0) (dC (.str "*"))))))
abbrev N_is_word : List Str := ["thing"]
theorem ok_is_word {P : Program} {w : World} {K : PySem.W.Frag} {mg : Str → Option Value} {base : Heap} (T : Txt w K mg) (G_is_name : DFn P w K mg base 1 T.a_is_name T.f_is_name ["thing"] sp_is_name) {sp : DSp}
    (mono : SpMono sp) (len : ∀ ds S Q E, sp ds S Q E → ds.length = 1)
    (h : ∀ ds S Q E, sp ds S Q E → t_is_word (dEnd Q E) (dstart ["thing"] ds) S) : DFn P w K mg base 2 T.a_is_word T.f_is_word ["thing"] sp := by
  refine dfn_of2 (t := t_is_word) T.F_is_word sc_is_word mono len (fun cdv A outer s H E hr gu => ?_) h
  have hu1 := hu_of hr
  have hu2 := hu_big hr
  exact (dss_one (ds_ret (de_or (de_call G_is_name (hr.mono (by decide)) gu (by rfl) T.m_is_name T.F_is_name.kp T.d_is_name (da_cons (dv 0) da_nil)) (de_one (de_and (de_isi (T := "str") (by decide) (dv 0) (by rfl) T.b_isinstance (by rfl) T.b_str (by decide +kernel)) (de_one (de_cmp (od_eq hr.units) (dv 0) (de_gstr (by rfl) T.g_ANY_WORD) (nomark _))))))))
end K64X
set_option maxRecDepth 100000
set_option maxHeartbeats 4000000
namespace K64X
open PySem PySem.Spec L2
open L64
open L63 hiding N_l_ends N_l_gone N_l_line N_l_right N_law r_l_ends r_l_gone r_l_line r_l_right r_law sp_l_ends sp_l_ends_mono sp_l_gone sp_l_gone_mono sp_l_line sp_l_line_mono sp_l_right sp_l_right_mono sp_law sp_law_mono t_l_ends t_l_gone t_l_line t_l_right t_law
open Rm
open Rc hiding N_is_pattern N_parts_right r_is_pattern r_parts_right sp_is_pattern sp_is_pattern_mono sp_parts_right sp_parts_right_mono t_is_pattern t_parts_right
open Rq
open Sh hiding N_l_feed N_l_leaf N_l_names N_l_pattern deeps_le deeps_mem r_l_feed r_l_leaf r_l_names r_l_pattern sp_l_leaf sp_l_leaf_mono sp_l_names sp_l_names_mono sp_l_pattern sp_l_pattern_mono t_l_feed t_l_leaf t_l_names t_l_pattern
open Dt hiding nkeys pl pls sp_l_feed sp_l_feed_mono toPs_map

/-! l_names -/
def t_l_names : DTS := (dSeq (dAsg (dLst (dCons (dLstF (dCons (dC (.str "a")) (dCons (dC (.str "ab")) (dCons (dC (.str "abc")) (dCons (dC (.str "b")) (dCons (dC (.str "ba")) (dCons (dC (.str "bab")) (dCons (dC (.str "c")) dNil)))))))) (dCons (dLstF (dCons (dC (.str "on")) (dCons (dC (.str "back")) (dCons (dC (.str "at")) (dCons (dC (.str "stay")) (dCons (dC (.str "many")) (dCons (dC (.str "then")) (dCons (dC (.str "tie")) dNil)))))))) dNil))) (dGN 2))
    (dSeq (dDrop (dBM "list" mAppend (dVar 2) (dCons (dLstF (dCons (dC (.str "k")) (dCons (dC (.str "w")) (dCons (dC (.str "xxxxxxxx")) (dCons (dC (.str "xxxxxxx")) (dCons (dC (.str "m")) (dCons (dC (.str "q")) (dCons (dC (.str "z")) dNil)))))))) dNil)))
    (dSeq (dAsg (dOp dIxS (dVar 2) (dCall sp_l_draw (dCons (dVar 0) (dCons (dC (.int 3)) dNil)))) (dGN 3))
    (dSeq (dAsg (dCall sp_l_draw (dCons (dVar 0) (dCons (dC (.int 7)) dNil))) (dGN 4))
    (dRet (dSlF (dOp dAddF (dSlF (dVar 3) (dSoP (dVar 4)) dNoP) (dSlF (dVar 3) dNoP (dSoP (dVar 4)))) dNoP (dSoP (dVar 1))))))))
abbrev N_l_names : List Str := ["_law_feed_here", "_law_many", "_law_some", "_law_names_here", "_law_at"]
theorem ok_l_names {P : Program} {w : World} {K : PySem.W.Frag} {mg : Str → Option Value} {base : Heap} (T : Txt w K mg) (G_l_draw : DFn P w K mg base 1 T.a_l_draw T.f_l_draw ["_law_feed_here", "_law_many"] sp_l_draw) {sp : DSp}
    (mono : SpMono sp) (len : ∀ ds S Q E, sp ds S Q E → ds.length = 2)
    (h : ∀ ds S Q E, sp ds S Q E → t_l_names (dEnd Q E) (dstart ["_law_feed_here", "_law_many", "_law_some", "_law_names_here", "_law_at"] ds) S) : DFn P w K mg base 2 T.a_l_names T.f_l_names ["_law_feed_here", "_law_many"] sp := by
  refine dfn_of2 (t := t_l_names) T.F_l_names sc_l_names mono len (fun cdv A outer s H E hr gu => ?_) h
  have hu1 := hu_of hr
  have hu2 := hu_big hr
  exact (dss_cons (ds_set (i := 2) sc_l_names.nd rfl (by first | exact Or.inl rfl | exact Or.inr rfl) (de_lst (da_cons (de_lstF (da_cons de_str (da_cons de_str (da_cons de_str (da_cons de_str (da_cons de_str (da_cons de_str (da_cons de_str da_nil)))))))) (da_cons (de_lstF (da_cons de_str (da_cons de_str (da_cons de_str (da_cons de_str (da_cons de_str (da_cons de_str (da_cons de_str da_nil)))))))) da_nil))))
    (dss_cons (ds_expr (de_bm PySem.F.plainAttrs_list PySem.F.slot_list_append PySem.F.type_list_append md_append (dv 2) (da_cons (de_lstF (da_cons de_str (da_cons de_str (da_cons de_str (da_cons de_str (da_cons de_str (da_cons de_str (da_cons de_str da_nil)))))))) da_nil)))
    (dss_cons (ds_set (i := 3) sc_l_names.nd rfl (by first | exact Or.inl rfl | exact Or.inr rfl) (de_ix (ixD_any hu2) (dv 2) (de_call G_l_draw (hr.mono (by decide)) gu (by rfl) T.m_l_draw T.F_l_draw.kp T.d_l_draw (da_cons (dv 0) (da_cons de_int da_nil)))))
    (dss_cons (ds_set (i := 4) sc_l_names.nd rfl (by first | exact Or.inl rfl | exact Or.inr rfl) (de_call G_l_draw (hr.mono (by decide)) gu (by rfl) T.m_l_draw T.F_l_draw.kp T.d_l_draw (da_cons (dv 0) (da_cons de_int da_nil))))
    (dss_one (ds_ret (de_slF (de_op od_addF (de_slF (dv 3) (do_some (dv 4)) do_none) (de_slF (dv 3) do_none (do_some (dv 4)))) do_none (do_some (dv 1)))))))))

/-! l_leaf -/
def t_l_leaf : DTS := (dSeq (dAsg (dCall sp_l_draw (dCons (dVar 0) (dCons (dC (.int 9)) dNil))) (dGN 3))
    (dSeq (dIf (dTest (dOp (dEq false) (dVar 3) (dC (.int 0))))
      (dRet (dTup (dCons (dC (.str "stay")) dNil)))
      dNx)
    (dSeq (dIf (dAnd (dTest (dOp rLt (dVar 3) (dC (.int 3)))) (dTest (dOp (dEq true) (dVar 2) (dLstF dNil))))
      (dRet (dTup (dCons (dOp dIxS (dLstF (dCons (dC (.str "at")) (dCons (dC (.str "off")) dNil))) (dOp rSub (dVar 3) (dC (.int 1)))) (dCons (dOp dIxS (dVar 2) (dCall sp_l_draw (dCons (dVar 0) (dCons (dCB cLen (dCons (dVar 2) dNil)) dNil)))) dNil))))
      dNx)
    (dRet (dTup (dCons (dC (.str "step")) (dCons (dOp dIxS (dLstF (dCons (dC (.str "on")) (dCons (dC (.str "on")) (dCons (dC (.str "back")) dNil)))) (dOp rMod (dVar 3) (dC (.int 3)))) (dCons (dOp dIxS (dOp dAddF (dVar 1) (dLstF (dCons (dC (.str "*")) dNil))) (dCall sp_l_draw (dCons (dVar 0) (dCons (dOp dAddF (dCB cLen (dCons (dVar 1) dNil)) (dC (.int 1))) dNil)))) dNil))))))))
abbrev N_l_leaf : List Str := ["_law_feed_here", "_law_words", "_law_marks", "_law_way"]
theorem ok_l_leaf {P : Program} {w : World} {K : PySem.W.Frag} {mg : Str → Option Value} {base : Heap} (T : Txt w K mg) (G_l_draw : DFn P w K mg base 1 T.a_l_draw T.f_l_draw ["_law_feed_here", "_law_many"] sp_l_draw) {sp : DSp}
    (mono : SpMono sp) (len : ∀ ds S Q E, sp ds S Q E → ds.length = 3)
    (h : ∀ ds S Q E, sp ds S Q E → t_l_leaf (dEnd Q E) (dstart ["_law_feed_here", "_law_words", "_law_marks", "_law_way"] ds) S) : DFn P w K mg base 2 T.a_l_leaf T.f_l_leaf ["_law_feed_here", "_law_words", "_law_marks"] sp := by
  refine dfn_of2 (t := t_l_leaf) T.F_l_leaf sc_l_leaf mono len (fun cdv A outer s H E hr gu => ?_) h
  have hu1 := hu_of hr
  have hu2 := hu_big hr
  exact (dss_cons (ds_set (i := 3) sc_l_leaf.nd rfl (by first | exact Or.inl rfl | exact Or.inr rfl) (de_call G_l_draw (hr.mono (by decide)) gu (by rfl) T.m_l_draw T.F_l_draw.kp T.d_l_draw (da_cons (dv 0) (da_cons de_int da_nil))))
    (dss_cons (ds_if (dt_cmp (od_eq hr.units) (dv 3) de_int (nomark _))
      (dss_one (ds_ret (de_tup (da_cons de_str da_nil))))
      dss_nil)
    (dss_cons (ds_if (DWt.pt (dw_and (dt_cmp od_lt (dv 3) de_int (nomark _)) (dw_and1 (dt_cmp (od_ne hr.units) (dv 2) (de_lstF da_nil) (nomark _)))))
      (dss_one (ds_ret (de_tup (da_cons (de_ix (ixD_any hu2) (de_lstF (da_cons de_str (da_cons de_str da_nil))) (de_op od_sub (dv 3) de_int)) (da_cons (de_ix (ixD_any hu2) (dv 2) (de_call G_l_draw (hr.mono (by decide)) gu (by rfl) T.m_l_draw T.F_l_draw.kp T.d_l_draw (da_cons (dv 0) (da_cons (de_callB cd_len (by rfl) T.b_len (by decide +kernel) (da_cons (dv 2) da_nil)) da_nil)))) da_nil)))))
      dss_nil)
    (dss_one (ds_ret (de_tup (da_cons de_str (da_cons (de_ix (ixD_any hu2) (de_lstF (da_cons de_str (da_cons de_str (da_cons de_str da_nil)))) (de_op od_mod (dv 3) de_int)) (da_cons (de_ix (ixD_any hu2) (de_op od_addF (dv 1) (de_lstF (da_cons de_str da_nil))) (de_call G_l_draw (hr.mono (by decide)) gu (by rfl) T.m_l_draw T.F_l_draw.kp T.d_l_draw (da_cons (dv 0) (da_cons (de_op od_addF (de_callB cd_len (by rfl) T.b_len (by decide +kernel) (da_cons (dv 1) da_nil)) de_int) da_nil)))) da_nil)))))))))

/-! is_leaf -/
def t_is_leaf : DTS := (dSeq (dIf (dOr (dNot (dTest (dIsi "tuple" (dVar 0)))) (dTest (dOp (dEq false) (dCB cLen (dCons (dVar 0) dNil)) (dC (.int 0)))))
      (dRet (dC (.bl false)))
      dNx)
    (dSeq (dIf (dTest (dCall sp_is_one_of (dCons (dOp dIxS (dVar 0) (dC (.int 0))) (dCons (dLstF (dCons (dC (.str "stay")) dNil)) dNil))))
      (dRet (dOp (dEq false) (dCB cLen (dCons (dVar 0) dNil)) (dC (.int 1))))
      dNx)
    (dSeq (dIf (dTest (dCall sp_is_one_of (dCons (dOp dIxS (dVar 0) (dC (.int 0))) (dCons (dLstF (dCons (dC (.str "step")) dNil)) dNil))))
      (dRet (dAndV (dOp (dEq false) (dCB cLen (dCons (dVar 0) dNil)) (dC (.int 3))) (dAndV (dCall sp_is_one_of (dCons (dOp dIxS (dVar 0) (dC (.int 1))) (dCons (dC (.tup [.str "on", .str "back"])) dNil))) (dCall sp_is_word (dCons (dOp dIxS (dVar 0) (dC (.int 2))) dNil)))))
      dNx)
    (dRet (dAndV (dCall sp_is_one_of (dCons (dOp dIxS (dVar 0) (dC (.int 0))) (dCons (dLstF (dCons (dC (.str "at")) (dCons (dC (.str "off")) dNil))) dNil))) (dAndV (dOp (dEq false) (dCB cLen (dCons (dVar 0) dNil)) (dC (.int 2))) (dCall sp_is_name (dCons (dOp dIxS (dVar 0) (dC (.int 1))) dNil))))))))
abbrev N_is_leaf : List Str := ["thing"]
theorem ok_is_leaf {P : Program} {w : World} {K : PySem.W.Frag} {mg : Str → Option Value} {base : Heap} (T : Txt w K mg) (G_is_name : DFn P w K mg base 1 T.a_is_name T.f_is_name ["thing"] sp_is_name) (G_is_one_of : DFn P w K mg base 1 T.a_is_one_of T.f_is_one_of ["thing", "some"] sp_is_one_of) (G_is_word : DFn P w K mg base 2 T.a_is_word T.f_is_word ["thing"] sp_is_word) {sp : DSp}
    (mono : SpMono sp) (len : ∀ ds S Q E, sp ds S Q E → ds.length = 1)
    (h : ∀ ds S Q E, sp ds S Q E → t_is_leaf (dEnd Q E) (dstart ["thing"] ds) S) : DFn P w K mg base 3 T.a_is_leaf T.f_is_leaf ["thing"] sp := by
  refine dfn_of2 (t := t_is_leaf) T.F_is_leaf sc_is_leaf mono len (fun cdv A outer s H E hr gu => ?_) h
  have hu1 := hu_of hr
  have hu2 := hu_big hr
  exact (dss_cons (ds_if (DWt.pt (dw_or (dt_not (dt_val (de_isi (T := "tuple") (by decide) (dv 0) (by rfl) T.b_isinstance (by rfl) T.b_tuple (by decide +kernel)))) (dw_or1 (dt_cmp (od_eq hr.units) (de_callB cd_len (by rfl) T.b_len (by decide +kernel) (da_cons (dv 0) da_nil)) de_int (nomark _)))))
      (dss_one (ds_ret de_bl))
      dss_nil)
    (dss_cons (ds_if (dt_val (de_call G_is_one_of (hr.mono (by decide)) gu (by rfl) T.m_is_one_of T.F_is_one_of.kp T.d_is_one_of (da_cons (de_ix (ixD_any hu2) (dv 0) de_int) (da_cons (de_lstF (da_cons de_str da_nil)) da_nil))))
      (dss_one (ds_ret (de_cmp (od_eq hr.units) (de_callB cd_len (by rfl) T.b_len (by decide +kernel) (da_cons (dv 0) da_nil)) de_int (nomark _))))
      dss_nil)
    (dss_cons (ds_if (dt_val (de_call G_is_one_of (hr.mono (by decide)) gu (by rfl) T.m_is_one_of T.F_is_one_of.kp T.d_is_one_of (da_cons (de_ix (ixD_any hu2) (dv 0) de_int) (da_cons (de_lstF (da_cons de_str da_nil)) da_nil))))
      (dss_one (ds_ret (de_and (de_cmp (od_eq hr.units) (de_callB cd_len (by rfl) T.b_len (by decide +kernel) (da_cons (dv 0) da_nil)) de_int (nomark _)) (de_and (de_call G_is_one_of (hr.mono (by decide)) gu (by rfl) T.m_is_one_of T.F_is_one_of.kp T.d_is_one_of (da_cons (de_ix (ixD_any hu2) (dv 0) de_int) (da_cons (de_gtup (by rfl) T.g_SIDES T.l_SIDES T.z_SIDES T.v_SIDES) da_nil))) (de_one (de_call G_is_word (hr.mono (by decide)) gu (by rfl) T.m_is_word T.F_is_word.kp T.d_is_word (da_cons (de_ix (ixD_any hu2) (dv 0) de_int) da_nil)))))))
      dss_nil)
    (dss_one (ds_ret (de_and (de_call G_is_one_of (hr.mono (by decide)) gu (by rfl) T.m_is_one_of T.F_is_one_of.kp T.d_is_one_of (da_cons (de_ix (ixD_any hu2) (dv 0) de_int) (da_cons (de_lstF (da_cons de_str (da_cons de_str da_nil))) da_nil))) (de_and (de_cmp (od_eq hr.units) (de_callB cd_len (by rfl) T.b_len (by decide +kernel) (da_cons (dv 0) da_nil)) de_int (nomark _)) (de_one (de_call G_is_name (hr.mono (by decide)) gu (by rfl) T.m_is_name T.F_is_name.kp T.d_is_name (da_cons (de_ix (ixD_any hu2) (dv 0) de_int) da_nil))))))))))

/-! parts_right -/
def t_parts_right : DTS := (dSeq (dIf (dTest (dCall sp_is_leaf (dCons (dVar 0) dNil)))
      (dRet (dLstF dNil))
      dNx)
    (dSeq (dIf (dOr (dNot (dTest (dIsi "tuple" (dVar 0)))) (dTest (dOp (dEq true) (dCB cLen (dCons (dVar 0) dNil)) (dC (.int 2)))))
      (dRet (dC .non))
      dNx)
    (dSeq (dIf (dTest (dCall sp_is_one_of (dCons (dOp dIxS (dVar 0) (dC (.int 0))) (dCons (dLstF (dCons (dC (.str "many")) dNil)) dNil))))
      (dRet (dLstF (dCons (dOp dIxS (dVar 0) (dC (.int 1))) dNil)))
      dNx)
    (dSeq (dIf (dOr (dNot (dTest (dCall sp_is_one_of (dCons (dOp dIxS (dVar 0) (dC (.int 0))) (dCons (dLstF (dCons (dC (.str "then")) (dCons (dC (.str "either")) dNil))) dNil))))) (dNot (dTest (dIsi "tuple" (dOp dIxS (dVar 0) (dC (.int 1)))))))
      (dRet (dC .non))
      dNx)
    (dSeq (dIf (dTest (dOp rGt (dCB cLen (dCons (dOp dIxS (dVar 0) (dC (.int 1))) dNil)) (dC (.int 39))))
      (dRet (dC .non))
      dNx)
    (dRet (dCB cListAF (dCons (dOp dIxS (dVar 0) (dC (.int 1))) dNil))))))))
abbrev N_parts_right : List Str := ["thing"]
theorem ok_parts_right {P : Program} {w : World} {K : PySem.W.Frag} {mg : Str → Option Value} {base : Heap} (T : Txt w K mg) (G_is_one_of : DFn P w K mg base 1 T.a_is_one_of T.f_is_one_of ["thing", "some"] sp_is_one_of) (G_is_leaf : DFn P w K mg base 3 T.a_is_leaf T.f_is_leaf ["thing"] sp_is_leaf) {sp : DSp}
    (mono : SpMono sp) (len : ∀ ds S Q E, sp ds S Q E → ds.length = 1)
    (h : ∀ ds S Q E, sp ds S Q E → t_parts_right (dEnd Q E) (dstart ["thing"] ds) S) : DFn P w K mg base 4 T.a_parts_right T.f_parts_right ["thing"] sp := by
  refine dfn_of2 (t := t_parts_right) T.F_parts_right sc_parts_right mono len (fun cdv A outer s H E hr gu => ?_) h
  have hu1 := hu_of hr
  have hu2 := hu_big hr
  exact (dss_cons (ds_if (dt_val (de_call G_is_leaf (hr.mono (by decide)) gu (by rfl) T.m_is_leaf T.F_is_leaf.kp T.d_is_leaf (da_cons (dv 0) da_nil)))
      (dss_one (ds_ret (de_lstF da_nil)))
      dss_nil)
    (dss_cons (ds_if (DWt.pt (dw_or (dt_not (dt_val (de_isi (T := "tuple") (by decide) (dv 0) (by rfl) T.b_isinstance (by rfl) T.b_tuple (by decide +kernel)))) (dw_or1 (dt_cmp (od_ne hr.units) (de_callB cd_len (by rfl) T.b_len (by decide +kernel) (da_cons (dv 0) da_nil)) de_int (nomark _)))))
      (dss_one (ds_ret de_non))
      dss_nil)
    (dss_cons (ds_if (dt_val (de_call G_is_one_of (hr.mono (by decide)) gu (by rfl) T.m_is_one_of T.F_is_one_of.kp T.d_is_one_of (da_cons (de_ix (ixD_any hu2) (dv 0) de_int) (da_cons (de_lstF (da_cons de_str da_nil)) da_nil))))
      (dss_one (ds_ret (de_lstF (da_cons (de_ix (ixD_any hu2) (dv 0) de_int) da_nil))))
      dss_nil)
    (dss_cons (ds_if (DWt.pt (dw_or (dt_not (dt_val (de_call G_is_one_of (hr.mono (by decide)) gu (by rfl) T.m_is_one_of T.F_is_one_of.kp T.d_is_one_of (da_cons (de_ix (ixD_any hu2) (dv 0) de_int) (da_cons (de_lstF (da_cons de_str (da_cons de_str da_nil))) da_nil))))) (dw_or1 (dt_not (dt_val (de_isi (T := "tuple") (by decide) (de_ix (ixD_any hu2) (dv 0) de_int) (by rfl) T.b_isinstance (by rfl) T.b_tuple (by decide +kernel)))))))
      (dss_one (ds_ret de_non))
      dss_nil)
    (dss_cons (ds_if (dt_cmp od_gt (de_callB cd_len (by rfl) T.b_len (by decide +kernel) (da_cons (de_ix (ixD_any hu2) (dv 0) de_int) da_nil)) (de_gint (by rfl) T.g_MOST_WITHIN) (nomark _))
      (dss_one (ds_ret de_non))
      dss_nil)
    (dss_one (ds_ret (de_callTy (cd_listAF rfl) (by rfl) T.b_list (by decide +kernel) (da_cons (de_ix (ixD_any hu2) (dv 0) de_int) da_nil)))))))))

/-! is_pattern -/
def t_is_pattern : DTS := (dSeq (dAsg (dLst (dCons (dTup (dCons (dVar 0) (dCons (dC (.int 1)) dNil))) dNil)) (dGN 1))
    (dSeq (dAsg (dC (.int 0)) (dGN 2))
    (dSeq (dWhile (dTest (dOp rGt (dCB cLen (dCons (dVar 1) dNil)) (dC (.int 0))))
      (dSeq (dAsg (dBM "list" mPop (dVar 1) dNil) (dGTupA 2 (dGCons (dGN 3) (dGCons (dGN 4) dGNil))))
    (dSeq (dAsg (dOp dAddF (dVar 2) (dC (.int 1))) (dGN 2))
    (dSeq (dAsg (dCall sp_parts_right (dCons (dVar 3) dNil)) (dGN 5))
    (dSeq (dIf (dOr (dTest (dOp (dIsN false) (dVar 5) (dC .non))) (dOr (dTest (dOp rGt (dVar 4) (dC (.int 10)))) (dTest (dOp rGt (dVar 2) (dC (.int 40))))))
      (dRet (dC (.bl false)))
      dNx)
    (dDrop (dBM "list" mExtend (dVar 1) (dCons (dFz (dLc (dSeqI (dVar 5)) (dGN 6) dYes (dTup (dCons (dVar 6) (dCons (dOp dAddF (dVar 4) (dC (.int 1))) dNil))) [6])) dNil))))))))
    (dRet (dC (.bl true))))))
abbrev N_is_pattern : List Str := ["thing", "left", "count", "part", "deep", "some", "one"]
theorem ok_is_pattern {P : Program} {w : World} {K : PySem.W.Frag} {mg : Str → Option Value} {base : Heap} (T : Txt w K mg) (G_parts_right : DFn P w K mg base 4 T.a_parts_right T.f_parts_right ["thing"] sp_parts_right) {sp : DSp}
    (mono : SpMono sp) (len : ∀ ds S Q E, sp ds S Q E → ds.length = 1)
    (h : ∀ ds S Q E, sp ds S Q E → t_is_pattern (dEnd Q E) (dstart ["thing", "left", "count", "part", "deep", "some", "one"] ds) S) : DFn P w K mg base 5 T.a_is_pattern T.f_is_pattern ["thing"] sp := by
  refine dfn_of2 (t := t_is_pattern) T.F_is_pattern sc_is_pattern mono len (fun cdv A outer s H E hr gu => ?_) h
  have hu1 := hu_of hr
  have hu2 := hu_big hr
  exact (dss_cons (ds_set (i := 1) sc_is_pattern.nd rfl (by first | exact Or.inl rfl | exact Or.inr rfl) (de_lst (da_cons (de_tup (da_cons (dv 0) (da_cons de_int da_nil))) da_nil)))
    (dss_cons (ds_set (i := 2) sc_is_pattern.nd rfl (by first | exact Or.inl rfl | exact Or.inr rfl) de_int)
    (dss_cons (ds_while (passes_of rfl) (dt_cmp od_gt (de_callB cd_len (by rfl) T.b_len (by decide +kernel) (da_cons (dv 1) da_nil)) de_int (nomark _))
      (dss_cons (ds_asg (de_bm0 PySem.F.plainAttrs_list PySem.F.slot_list_pop PySem.F.type_list_pop md_pop (dv 1)) (dg_tupA rfl (dgs_cons (dg_name (i := 3) sc_is_pattern.nd rfl (by first | exact Or.inl rfl | exact Or.inr rfl)) (dgs_cons (dg_name (i := 4) sc_is_pattern.nd rfl (by first | exact Or.inl rfl | exact Or.inr rfl)) dgs_nil))))
    (dss_cons (ds_set (i := 2) sc_is_pattern.nd rfl (by first | exact Or.inl rfl | exact Or.inr rfl) (de_op od_addF (dv 2) de_int))
    (dss_cons (ds_set (i := 5) sc_is_pattern.nd rfl (by first | exact Or.inl rfl | exact Or.inr rfl) (de_call G_parts_right (hr.mono (by decide)) gu (by rfl) T.m_parts_right T.F_parts_right.kp T.d_parts_right (da_cons (dv 3) da_nil)))
    (dss_cons (ds_if (DWt.pt (dw_or (dt_cmp od_is (dv 5) de_non (nomark _)) (dw_or (dt_cmp od_gt (dv 4) (de_gint (by rfl) T.g_MOST_DEEP) (nomark _)) (dw_or1 (dt_cmp od_gt (dv 2) (de_gint (by rfl) T.g_MOST_PARTS) (nomark _))))))
      (dss_one (ds_ret de_bl))
      dss_nil)
    (dss_one (ds_expr (de_bm PySem.F.plainAttrs_list PySem.F.slot_list_extend PySem.F.type_list_extend md_extend (dv 1) (da_cons (de_fz (de_lc (own := [("one", 6)]) rfl sc_is_pattern.nd (di_seq (dv 5)) (blkOk_by (own := [("one", 6)]) (N := ["thing", "left", "count", "part", "deep", "some", "one"]) (sc := defScope s_is_pattern) (by decide +kernel)) ⟨fun _ _ _ _ _ => (dw_name (i := 6) sc_is_pattern.nd rfl (by first | exact Or.inl rfl | exact Or.inr rfl) (by decide)), fun _ _ _ _ _ => dts_nil, fun _ _ _ _ _ => (de_tup (da_cons (dv 6) (da_cons (de_op od_addF (dv 4) de_int) da_nil)))⟩)) da_nil)))))))))
    (dss_one (ds_ret de_bl)))))

/-! l_pattern -/
def t_l_pattern (spR : DSp) : DTS := (dSeq (dPut (dVar 3) (dC (.int 0)) (dOp rSub (dOp dIxS (dVar 3) (dC (.int 0))) (dC (.int 1))))
    (dSeq (dAsg (dCall sp_l_draw (dCons (dVar 0) (dCons (dC (.int 8)) dNil))) (dGN 5))
    (dSeq (dIf (dOr (dTest (dOp rLt (dVar 5) (dC (.int 3)))) (dOr (dTest (dOp rLt (dOp dIxS (dVar 3) (dC (.int 0))) (dC (.int 1)))) (dTest (dOp (dEq false) (dVar 4) (dC (.int 0))))))
      (dRet (dCall sp_l_leaf (dCons (dVar 0) (dCons (dVar 1) (dCons (dVar 2) dNil)))))
      dNx)
    (dSeq (dIf (dTest (dOp (dEq false) (dVar 5) (dC (.int 3))))
      (dRet (dTup (dCons (dC (.str "many")) (dCons (dCall spR (dCons (dVar 0) (dCons (dVar 1) (dCons (dVar 2) (dCons (dVar 3) (dCons (dOp rSub (dVar 4) (dC (.int 1))) dNil)))))) dNil))))
      dNx)
    (dSeq (dAsg (dLst dNil) (dGN 6))
    (dSeq (dFor (dRng1 (dCons (dOp dIxS (dLstF (dCons (dC (.int 2)) (dCons (dC (.int 3)) (dCons (dC (.int 0)) (dCons (dC (.int 1)) (dCons (dC (.int 2)) (dCons (dC (.int 2)) (dCons (dC (.int 4)) (dCons (dC (.int 3)) dNil))))))))) (dCall sp_l_draw (dCons (dVar 0) (dCons (dC (.int 8)) dNil)))) dNil)) (dGN 7)
      (dIf (dTest (dOp rGt (dOp dIxS (dVar 3) (dC (.int 0))) (dC (.int 0))))
      (dDrop (dBM "list" mAppend (dVar 6) (dCons (dCall spR (dCons (dVar 0) (dCons (dVar 1) (dCons (dVar 2) (dCons (dVar 3) (dCons (dOp rSub (dVar 4) (dC (.int 1))) dNil)))))) dNil)))
      dNx))
    (dRet (dTup (dCons (dOp dIxS (dLstF (dCons (dC (.str "then")) (dCons (dC (.str "either")) dNil))) (dOp rMod (dVar 5) (dC (.int 2)))) (dCons (dCB cTuple (dCons (dVar 6) dNil)) dNil))))))))))
abbrev N_l_pattern : List Str := ["_law_feed_here", "_law_words", "_law_marks", "_law_bag", "_law_deep", "_law_way", "_law_some", "_law_k"]
theorem ok_l_pattern {P : Program} {w : World} {K : PySem.W.Frag} {mg : Str → Option Value} {base : Heap} (T : Txt w K mg) (G_l_draw : DFn P w K mg base 1 T.a_l_draw T.f_l_draw ["_law_feed_here", "_law_many"] sp_l_draw) (G_l_leaf : DFn P w K mg base 2 T.a_l_leaf T.f_l_leaf ["_law_feed_here", "_law_words", "_law_marks"] sp_l_leaf) (n : Nat) {spR : DSp} (G_l_pattern : DFn P w K mg base (2 + n) T.a_l_pattern T.f_l_pattern ["_law_feed_here", "_law_words", "_law_marks", "_law_bag", "_law_deep"] spR) {sp : DSp}
    (mono : SpMono sp) (len : ∀ ds S Q E, sp ds S Q E → ds.length = 5)
    (h : ∀ ds S Q E, sp ds S Q E → (t_l_pattern spR) (dEnd Q E) (dstart ["_law_feed_here", "_law_words", "_law_marks", "_law_bag", "_law_deep", "_law_way", "_law_some", "_law_k"] ds) S) : DFn P w K mg base (2 + n + 1) T.a_l_pattern T.f_l_pattern ["_law_feed_here", "_law_words", "_law_marks", "_law_bag", "_law_deep"] sp := by
  refine dfn_of2 (t := (t_l_pattern spR)) T.F_l_pattern sc_l_pattern mono len (fun cdv A outer s H E hr gu => ?_) h
  have hu1 := hu_of hr
  have hu2 := hu_big hr
  exact (dss_cons (ds_put hu2 (dv 3) de_int (de_op od_sub (de_ix (ixD_any hu2) (dv 3) de_int) de_int))
    (dss_cons (ds_set (i := 5) sc_l_pattern.nd rfl (by first | exact Or.inl rfl | exact Or.inr rfl) (de_call G_l_draw (hr.mono (by omega)) gu (by rfl) T.m_l_draw T.F_l_draw.kp T.d_l_draw (da_cons (dv 0) (da_cons de_int da_nil))))
    (dss_cons (ds_if (DWt.pt (dw_or (dt_cmp od_lt (dv 5) de_int (nomark _)) (dw_or (dt_cmp od_lt (de_ix (ixD_any hu2) (dv 3) de_int) de_int (nomark _)) (dw_or1 (dt_cmp (od_eq hr.units) (dv 4) de_int (nomark _))))))
      (dss_one (ds_ret (de_call G_l_leaf (hr.mono (by omega)) gu (by rfl) T.m_l_leaf T.F_l_leaf.kp T.d_l_leaf (da_cons (dv 0) (da_cons (dv 1) (da_cons (dv 2) da_nil))))))
      dss_nil)
    (dss_cons (ds_if (dt_cmp (od_eq hr.units) (dv 5) de_int (nomark _))
      (dss_one (ds_ret (de_tup (da_cons de_str (da_cons (de_call G_l_pattern (hr.mono (Nat.le_refl _)) gu (by rfl) T.m_l_pattern T.F_l_pattern.kp T.d_l_pattern (da_cons (dv 0) (da_cons (dv 1) (da_cons (dv 2) (da_cons (dv 3) (da_cons (de_op od_sub (dv 4) de_int) da_nil)))))) da_nil)))))
      dss_nil)
    (dss_cons (ds_set (i := 6) sc_l_pattern.nd rfl (by first | exact Or.inl rfl | exact Or.inr rfl) (de_lst da_nil))
    (dss_cons (ds_for (passes_of rfl) rfl (di_rng1 (by rfl) T.b_range (da_cons (de_ix (ixD_any hu2) (de_lstF (da_cons de_int (da_cons de_int (da_cons de_int (da_cons de_int (da_cons de_int (da_cons de_int (da_cons de_int (da_cons de_int da_nil))))))))) (de_call G_l_draw (hr.mono (by omega)) gu (by rfl) T.m_l_draw T.F_l_draw.kp T.d_l_draw (da_cons (dv 0) (da_cons de_int da_nil)))) da_nil)) (dg_name (i := 7) sc_l_pattern.nd rfl (by first | exact Or.inl rfl | exact Or.inr rfl))
      (dss_one (ds_if (dt_cmp od_gt (de_ix (ixD_any hu2) (dv 3) de_int) de_int (nomark _))
      (dss_one (ds_expr (de_bm PySem.F.plainAttrs_list PySem.F.slot_list_append PySem.F.type_list_append md_append (dv 6) (da_cons (de_call G_l_pattern (hr.mono (Nat.le_refl _)) gu (by rfl) T.m_l_pattern T.F_l_pattern.kp T.d_l_pattern (da_cons (dv 0) (da_cons (dv 1) (da_cons (dv 2) (da_cons (dv 3) (da_cons (de_op od_sub (dv 4) de_int) da_nil)))))) da_nil))))
      dss_nil)))
    (dss_one (ds_ret (de_tup (da_cons (de_ix (ixD_any hu2) (de_lstF (da_cons de_str (da_cons de_str da_nil))) (de_op od_mod (dv 5) de_int)) (da_cons (de_callTy cd_tuple (by rfl) T.b_tuple (by decide +kernel) (da_cons (dv 6) da_nil)) da_nil)))))))))))

/-! plainly -/
def t_plainly (spR : DSp) : DTS := (dSeq (dIf (dTest (dOp (dEq false) (dOp dIxS (dVar 0) (dC (.int 0))) (dC (.str "then"))))
      (dRet (dCall sp_plain_then (dCons (dFz (dLc (dSeqI (dOp dIxS (dVar 0) (dC (.int 1)))) (dGN 2) dYes (dCall spR (dCons (dVar 2) dNil)) [2])) dNil)))
      dNx)
    (dSeq (dIf (dTest (dOp (dEq false) (dOp dIxS (dVar 0) (dC (.int 0))) (dC (.str "either"))))
      (dRet (dCall sp_plain_either (dCons (dFz (dLc (dSeqI (dOp dIxS (dVar 0) (dC (.int 1)))) (dGN 2) dYes (dCall spR (dCons (dVar 2) dNil)) [2])) dNil)))
      dNx)
    (dSeq (dIf (dTest (dOp (dEq true) (dOp dIxS (dVar 0) (dC (.int 0))) (dC (.str "many"))))
      (dRet (dVar 0))
      dNx)
    (dSeq (dAsg (dCall spR (dCons (dOp dIxS (dVar 0) (dC (.int 1))) dNil)) (dGN 1))
    (dSeq (dIf (dTest (dOp (dInT false) (dVar 1) (dTup (dCons (dC (.tup [.str "stay"])) (dCons (dC (.tup [.str "then", (.tup [])])) (dCons (dC (.tup [.str "either", (.tup [])])) dNil))))))
      (dRet (dC (.tup [.str "stay"])))
      dNx)
    (dSeq (dIf (dTest (dOp (dEq false) (dOp dIxS (dVar 1) (dC (.int 0))) (dC (.str "many"))))
      (dRet (dVar 1))
      dNx)
    (dRet (dTup (dCons (dC (.str "many")) (dCons (dVar 1) dNil))))))))))
abbrev N_plainly : List Str := ["pattern", "inner", "one"]
theorem ok_plainly {P : Program} {w : World} {K : PySem.W.Frag} {mg : Str → Option Value} {base : Heap} (T : Txt w K mg) (G_plain_then : DFn P w K mg base 1 T.a_plain_then T.f_plain_then ["parts"] sp_plain_then) (G_plain_either : DFn P w K mg base 1 T.a_plain_either T.f_plain_either ["parts"] sp_plain_either) (n : Nat) {spR : DSp} (G_plainly : DFn P w K mg base (1 + n) T.a_plainly T.f_plainly ["pattern"] spR) {sp : DSp}
    (mono : SpMono sp) (len : ∀ ds S Q E, sp ds S Q E → ds.length = 1)
    (h : ∀ ds S Q E, sp ds S Q E → (t_plainly spR) (dEnd Q E) (dstart ["pattern", "inner", "one"] ds) S) : DFn P w K mg base (1 + n + 1) T.a_plainly T.f_plainly ["pattern"] sp := by
  refine dfn_of2 (t := (t_plainly spR)) T.F_plainly sc_plainly mono len (fun cdv A outer s H E hr gu => ?_) h
  have hu1 := hu_of hr
  have hu2 := hu_big hr
  exact (dss_cons (ds_if (dt_cmp (od_eq hr.units) (de_ix (ixD_any hu2) (dv 0) de_int) de_str (nomark _))
      (dss_one (ds_ret (de_call G_plain_then (hr.mono (by omega)) gu (by rfl) T.m_plain_then T.F_plain_then.kp T.d_plain_then (da_cons (de_fz (de_lc (own := [("one", 2)]) rfl sc_plainly.nd (di_seq (de_ix (ixD_any hu2) (dv 0) de_int)) (blkOk_by (own := [("one", 2)]) (N := ["pattern", "inner", "one"]) (sc := defScope s_plainly) (by decide +kernel)) ⟨fun _ _ _ _ _ => (dw_name (i := 2) sc_plainly.nd rfl (by first | exact Or.inl rfl | exact Or.inr rfl) (by decide)), fun _ _ _ _ _ => dts_nil, fun _ _ _ _ _ => (de_call G_plainly (hr.mono (Nat.le_refl _)) gu (by rfl) T.m_plainly T.F_plainly.kp T.d_plainly (da_cons (dv 2) da_nil))⟩)) da_nil))))
      dss_nil)
    (dss_cons (ds_if (dt_cmp (od_eq hr.units) (de_ix (ixD_any hu2) (dv 0) de_int) de_str (nomark _))
      (dss_one (ds_ret (de_call G_plain_either (hr.mono (by omega)) gu (by rfl) T.m_plain_either T.F_plain_either.kp T.d_plain_either (da_cons (de_fz (de_lc (own := [("one", 2)]) rfl sc_plainly.nd (di_seq (de_ix (ixD_any hu2) (dv 0) de_int)) (blkOk_by (own := [("one", 2)]) (N := ["pattern", "inner", "one"]) (sc := defScope s_plainly) (by decide +kernel)) ⟨fun _ _ _ _ _ => (dw_name (i := 2) sc_plainly.nd rfl (by first | exact Or.inl rfl | exact Or.inr rfl) (by decide)), fun _ _ _ _ _ => dts_nil, fun _ _ _ _ _ => (de_call G_plainly (hr.mono (Nat.le_refl _)) gu (by rfl) T.m_plainly T.F_plainly.kp T.d_plainly (da_cons (dv 2) da_nil))⟩)) da_nil))))
      dss_nil)
    (dss_cons (ds_if (dt_cmp (od_ne hr.units) (de_ix (ixD_any hu2) (dv 0) de_int) de_str (nomark _))
      (dss_one (ds_ret (dv 0)))
      dss_nil)
    (dss_cons (ds_set (i := 1) sc_plainly.nd rfl (by first | exact Or.inl rfl | exact Or.inr rfl) (de_call G_plainly (hr.mono (Nat.le_refl _)) gu (by rfl) T.m_plainly T.F_plainly.kp T.d_plainly (da_cons (de_ix (ixD_any hu2) (dv 0) de_int) da_nil)))
    (dss_cons (ds_if (dt_cmp (od_inT hu2) (dv 1) (de_tup (da_cons (de_gtup (by rfl) T.g_STAY T.l_STAY T.z_STAY T.v_STAY) (da_cons (de_gtup (by rfl) T.g_NO_STEPS T.l_NO_STEPS T.z_NO_STEPS T.v_NO_STEPS) (da_cons (de_gtup (by rfl) T.g_NOTHING T.l_NOTHING T.z_NOTHING T.v_NOTHING) da_nil)))) (by rfl))
      (dss_one (ds_ret (de_gtup (by rfl) T.g_STAY T.l_STAY T.z_STAY T.v_STAY)))
      dss_nil)
    (dss_cons (ds_if (dt_cmp (od_eq hr.units) (de_ix (ixD_any hu2) (dv 1) de_int) de_str (nomark _))
      (dss_one (ds_ret (dv 1)))
      dss_nil)
    (dss_one (ds_ret (de_tup (da_cons de_str (da_cons (dv 1) da_nil)))))))))))

/-! l_gone -/
def t_l_gone (spR : DSp) : DTS := (dSeq (dAsg (dCB cTuple (dCons (dFz (dLc (dSeqI (dVar 3)) (dGN 9) (dTest (dOp (dEq false) (dCall sp_l_draw (dCons (dVar 0) (dCons (dC (.int 2)) dNil))) (dC (.int 1)))) (dVar 9) [9])) dNil)) (dGN 4))
    (dSeq (dAsg (dTup (dCons (dLstF (dCons (dVar 4) dNil)) (dCons (dLstF dNil) dNil))) (dGN 5))
    (dSeq (dIf (dTest (dOp (dEq false) (dOp dIxS (dVar 1) (dC (.int 0))) (dC (.str "at"))))
      (dRet (dTup (dCons (dLstF (dCons (dTup (dCons (dOp dIxS (dVar 1) (dC (.int 1))) dNil)) dNil)) (dCons (dLstF dNil) dNil))))
      dNx)
    (dSeq (dIf (dTest (dOp (dEq false) (dOp dIxS (dVar 1) (dC (.int 0))) (dC (.str "off"))))
      (dRet (dTup (dCons (dLstF (dCons (dTup dNil) dNil)) (dCons (dLstF dNil) dNil))))
      dNx)
    (dSeq (dIf (dTest (dOp (dEq false) (dOp dIxS (dVar 1) (dC (.int 0))) (dC (.str "step"))))
      (dSeq (dAsg (dOp dIxS (dVar 1) (dC (.int 2))) (dGN 6))
    (dSeq (dIf (dTest (dOp (dEq false) (dVar 6) (dC (.str "*"))))
      (dAsg (dOp dIxS (dOp dAddF (dVar 2) (dLstF (dCons (dC (.str "u")) dNil))) (dCall sp_l_draw (dCons (dVar 0) (dCons (dOp dAddF (dCB cLen (dCons (dVar 2) dNil)) (dC (.int 1))) dNil)))) (dGN 6))
      dNx)
    (dRet (dTup (dCons (dLstF (dCons (dVar 4) (dCons (dTup dNil) dNil))) (dCons (dLstF (dCons (dTup (dCons (dOp dIxS (dVar 1) (dC (.int 1))) (dCons (dVar 6) dNil))) dNil)) dNil))))))
      dNx)
    (dSeq (dIf (dTest (dOp (dEq false) (dOp dIxS (dVar 1) (dC (.int 0))) (dC (.str "many"))))
      (dFor (dRng1 (dCons (dCall sp_l_draw (dCons (dVar 0) (dCons (dC (.int 3)) dNil))) dNil)) (dGN 7)
      (dAsg (dCall sp_l_join (dCons (dVar 5) (dCons (dCall spR (dCons (dVar 0) (dCons (dOp dIxS (dVar 1) (dC (.int 1))) (dCons (dVar 2) (dCons (dVar 3) dNil))))) dNil))) (dGN 5)))
      dNx)
    (dSeq (dIf (dTest (dOp (dEq false) (dOp dIxS (dVar 1) (dC (.int 0))) (dC (.str "then"))))
      (dFor (dSeqI (dOp dIxS (dVar 1) (dC (.int 1)))) (dGN 8)
      (dAsg (dCall sp_l_join (dCons (dVar 5) (dCons (dCall spR (dCons (dVar 0) (dCons (dVar 8) (dCons (dVar 2) (dCons (dVar 3) dNil))))) dNil))) (dGN 5)))
      dNx)
    (dSeq (dIf (dAnd (dTest (dOp (dEq false) (dOp dIxS (dVar 1) (dC (.int 0))) (dC (.str "either")))) (dTest (dOp (dEq true) (dOp dIxS (dVar 1) (dC (.int 1))) (dTup dNil))))
      (dAsg (dCall spR (dCons (dVar 0) (dCons (dOp dIxS (dOp dIxS (dVar 1) (dC (.int 1))) (dCall sp_l_draw (dCons (dVar 0) (dCons (dCB cLen (dCons (dOp dIxS (dVar 1) (dC (.int 1))) dNil)) dNil)))) (dCons (dVar 2) (dCons (dVar 3) dNil))))) (dGN 5))
      dNx)
    (dRet (dVar 5))))))))))
abbrev N_l_gone : List Str := ["_law_feed_here", "_law_pattern_here", "_law_words", "_law_marks", "_law_here", "_law_line_here", "_law_word", "_law_k", "_law_one", "_law_mark"]
theorem ok_l_gone {P : Program} {w : World} {K : PySem.W.Frag} {mg : Str → Option Value} {base : Heap} (T : Txt w K mg) (G_l_draw : DFn P w K mg base 1 T.a_l_draw T.f_l_draw ["_law_feed_here", "_law_many"] sp_l_draw) (G_l_join : DFn P w K mg base 1 T.a_l_join T.f_l_join ["_law_one", "_law_other"] sp_l_join) (n : Nat) {spR : DSp} (G_l_gone : DFn P w K mg base (1 + n) T.a_l_gone T.f_l_gone ["_law_feed_here", "_law_pattern_here", "_law_words", "_law_marks"] spR) {sp : DSp}
    (mono : SpMono sp) (len : ∀ ds S Q E, sp ds S Q E → ds.length = 4)
    (h : ∀ ds S Q E, sp ds S Q E → (t_l_gone spR) (dEnd Q E) (dstart ["_law_feed_here", "_law_pattern_here", "_law_words", "_law_marks", "_law_here", "_law_line_here", "_law_word", "_law_k", "_law_one", "_law_mark"] ds) S) : DFn P w K mg base (1 + n + 1) T.a_l_gone T.f_l_gone ["_law_feed_here", "_law_pattern_here", "_law_words", "_law_marks"] sp := by
  refine dfn_of2 (t := (t_l_gone spR)) T.F_l_gone sc_l_gone mono len (fun cdv A outer s H E hr gu => ?_) h
  have hu1 := hu_of hr
  have hu2 := hu_big hr
  exact (dss_cons (ds_set (i := 4) sc_l_gone.nd rfl (by first | exact Or.inl rfl | exact Or.inr rfl) (de_callTy cd_tuple (by rfl) T.b_tuple (by decide +kernel) (da_cons (de_fz (de_lc (own := [("_law_mark", 9)]) rfl sc_l_gone.nd (di_seq (dv 3)) (blkOk_by (own := [("_law_mark", 9)]) (N := ["_law_feed_here", "_law_pattern_here", "_law_words", "_law_marks", "_law_here", "_law_line_here", "_law_word", "_law_k", "_law_one", "_law_mark"]) (sc := defScope s_l_gone) (by decide +kernel)) ⟨fun _ _ _ _ _ => (dw_name (i := 9) sc_l_gone.nd rfl (by first | exact Or.inl rfl | exact Or.inr rfl) (by decide)), fun _ _ _ _ _ => (dts_one (dt_cmp (od_eq hr.units) (de_call G_l_draw (hr.mono (by omega)) gu (by rfl) T.m_l_draw T.F_l_draw.kp T.d_l_draw (da_cons (dv 0) (da_cons de_int da_nil))) de_int (nomark _))), fun _ _ _ _ _ => (dv 9)⟩)) da_nil)))
    (dss_cons (ds_set (i := 5) sc_l_gone.nd rfl (by first | exact Or.inl rfl | exact Or.inr rfl) (de_tup (da_cons (de_lstF (da_cons (dv 4) da_nil)) (da_cons (de_lstF da_nil) da_nil))))
    (dss_cons (ds_if (dt_cmp (od_eq hr.units) (de_ix (ixD_any hu2) (dv 1) de_int) de_str (nomark _))
      (dss_one (ds_ret (de_tup (da_cons (de_lstF (da_cons (de_tup (da_cons (de_ix (ixD_any hu2) (dv 1) de_int) da_nil)) da_nil)) (da_cons (de_lstF da_nil) da_nil)))))
      dss_nil)
    (dss_cons (ds_if (dt_cmp (od_eq hr.units) (de_ix (ixD_any hu2) (dv 1) de_int) de_str (nomark _))
      (dss_one (ds_ret (de_tup (da_cons (de_lstF (da_cons (de_tup da_nil) da_nil)) (da_cons (de_lstF da_nil) da_nil)))))
      dss_nil)
    (dss_cons (ds_if (dt_cmp (od_eq hr.units) (de_ix (ixD_any hu2) (dv 1) de_int) de_str (nomark _))
      (dss_cons (ds_set (i := 6) sc_l_gone.nd rfl (by first | exact Or.inl rfl | exact Or.inr rfl) (de_ix (ixD_any hu2) (dv 1) de_int))
    (dss_cons (ds_if (dt_cmp (od_eq hr.units) (dv 6) de_str (nomark _))
      (dss_one (ds_set (i := 6) sc_l_gone.nd rfl (by first | exact Or.inl rfl | exact Or.inr rfl) (de_ix (ixD_any hu2) (de_op od_addF (dv 2) (de_lstF (da_cons de_str da_nil))) (de_call G_l_draw (hr.mono (by omega)) gu (by rfl) T.m_l_draw T.F_l_draw.kp T.d_l_draw (da_cons (dv 0) (da_cons (de_op od_addF (de_callB cd_len (by rfl) T.b_len (by decide +kernel) (da_cons (dv 2) da_nil)) de_int) da_nil))))))
      dss_nil)
    (dss_one (ds_ret (de_tup (da_cons (de_lstF (da_cons (dv 4) (da_cons (de_tup da_nil) da_nil))) (da_cons (de_lstF (da_cons (de_tup (da_cons (de_ix (ixD_any hu2) (dv 1) de_int) (da_cons (dv 6) da_nil))) da_nil)) da_nil)))))))
      dss_nil)
    (dss_cons (ds_if (dt_cmp (od_eq hr.units) (de_ix (ixD_any hu2) (dv 1) de_int) de_str (nomark _))
      (dss_one (ds_for (passes_of rfl) rfl (di_rng1 (by rfl) T.b_range (da_cons (de_call G_l_draw (hr.mono (by omega)) gu (by rfl) T.m_l_draw T.F_l_draw.kp T.d_l_draw (da_cons (dv 0) (da_cons de_int da_nil))) da_nil)) (dg_name (i := 7) sc_l_gone.nd rfl (by first | exact Or.inl rfl | exact Or.inr rfl))
      (dss_one (ds_set (i := 5) sc_l_gone.nd rfl (by first | exact Or.inl rfl | exact Or.inr rfl) (de_call G_l_join (hr.mono (by omega)) gu (by rfl) T.m_l_join T.F_l_join.kp T.d_l_join (da_cons (dv 5) (da_cons (de_call G_l_gone (hr.mono (Nat.le_refl _)) gu (by rfl) T.m_l_gone T.F_l_gone.kp T.d_l_gone (da_cons (dv 0) (da_cons (de_ix (ixD_any hu2) (dv 1) de_int) (da_cons (dv 2) (da_cons (dv 3) da_nil))))) da_nil)))))))
      dss_nil)
    (dss_cons (ds_if (dt_cmp (od_eq hr.units) (de_ix (ixD_any hu2) (dv 1) de_int) de_str (nomark _))
      (dss_one (ds_for (passes_of rfl) rfl (di_seq (de_ix (ixD_any hu2) (dv 1) de_int)) (dg_name (i := 8) sc_l_gone.nd rfl (by first | exact Or.inl rfl | exact Or.inr rfl))
      (dss_one (ds_set (i := 5) sc_l_gone.nd rfl (by first | exact Or.inl rfl | exact Or.inr rfl) (de_call G_l_join (hr.mono (by omega)) gu (by rfl) T.m_l_join T.F_l_join.kp T.d_l_join (da_cons (dv 5) (da_cons (de_call G_l_gone (hr.mono (Nat.le_refl _)) gu (by rfl) T.m_l_gone T.F_l_gone.kp T.d_l_gone (da_cons (dv 0) (da_cons (dv 8) (da_cons (dv 2) (da_cons (dv 3) da_nil))))) da_nil)))))))
      dss_nil)
    (dss_cons (ds_if (DWt.pt (dw_and (dt_cmp (od_eq hr.units) (de_ix (ixD_any hu2) (dv 1) de_int) de_str (nomark _)) (dw_and1 (dt_cmp (od_ne hr.units) (de_ix (ixD_any hu2) (dv 1) de_int) (de_tup da_nil) (nomark _)))))
      (dss_one (ds_set (i := 5) sc_l_gone.nd rfl (by first | exact Or.inl rfl | exact Or.inr rfl) (de_call G_l_gone (hr.mono (Nat.le_refl _)) gu (by rfl) T.m_l_gone T.F_l_gone.kp T.d_l_gone (da_cons (dv 0) (da_cons (de_ix (ixD_any hu2) (de_ix (ixD_any hu2) (dv 1) de_int) (de_call G_l_draw (hr.mono (by omega)) gu (by rfl) T.m_l_draw T.F_l_draw.kp T.d_l_draw (da_cons (dv 0) (da_cons (de_callB cd_len (by rfl) T.b_len (by decide +kernel) (da_cons (de_ix (ixD_any hu2) (dv 1) de_int) da_nil)) da_nil)))) (da_cons (dv 2) (da_cons (dv 3) da_nil)))))))
      dss_nil)
    (dss_one (ds_ret (dv 5)))))))))))
end K64X
set_option maxRecDepth 100000
set_option maxHeartbeats 4000000
namespace K64X
open PySem PySem.Spec L2
open L64
open L63 hiding N_l_ends N_l_gone N_l_line N_l_right N_law r_l_ends r_l_gone r_l_line r_l_right r_law sp_l_ends sp_l_ends_mono sp_l_gone sp_l_gone_mono sp_l_line sp_l_line_mono sp_l_right sp_l_right_mono sp_law sp_law_mono t_l_ends t_l_gone t_l_line t_l_right t_law
open Rm
open Rc hiding N_is_pattern N_parts_right r_is_pattern r_parts_right sp_is_pattern sp_is_pattern_mono sp_parts_right sp_parts_right_mono t_is_pattern t_parts_right
open Rq
open Sh hiding N_l_feed N_l_leaf N_l_names N_l_pattern deeps_le deeps_mem r_l_feed r_l_leaf r_l_names r_l_pattern sp_l_leaf sp_l_leaf_mono sp_l_names sp_l_names_mono sp_l_pattern sp_l_pattern_mono t_l_feed t_l_leaf t_l_names t_l_pattern
open Dt hiding nkeys pl pls sp_l_feed sp_l_feed_mono toPs_map

/-! l_line -/
def t_l_line : DTS := (dSeq (dIf (dTest (dOp rGt (dCall sp_l_draw (dCons (dVar 0) (dCons (dC (.int 3)) dNil))) (dC (.int 0))))
      (dSeq (dAsg (dCall (sp_l_gone 9) (dCons (dVar 0) (dCons (dVar 1) (dCons (dVar 2) (dCons (dVar 3) dNil))))) (dGN 4))
    (dIf (dTest (dOp rLt (dCB cLen (dCons (dOp dIxS (dVar 4) (dC (.int 1))) dNil)) (dC (.int 12))))
      (dRet (dVar 4))
      dNx))
      dNx)
    (dSeq (dAsg (dTup (dCons (dLst (dCons (dCB cTuple (dCons (dFz (dLc (dSeqI (dVar 3)) (dGN 6) (dTest (dOp (dEq false) (dCall sp_l_draw (dCons (dVar 0) (dCons (dC (.int 2)) dNil))) (dC (.int 1)))) (dVar 6) [6])) dNil)) dNil)) (dCons (dLst dNil) dNil))) (dGN 4))
    (dSeq (dFor (dRng1 (dCons (dCall sp_l_draw (dCons (dVar 0) (dCons (dC (.int 5)) dNil))) dNil)) (dGN 5)
      (dSeq (dDrop (dBM "list" mAppend (dOp dIxS (dVar 4) (dC (.int 1))) (dCons (dTup (dCons (dOp dIxS (dLstF (dCons (dC (.str "on")) (dCons (dC (.str "back")) dNil))) (dCall sp_l_draw (dCons (dVar 0) (dCons (dC (.int 2)) dNil)))) (dCons (dOp dIxS (dOp dAddF (dVar 2) (dLstF (dCons (dC (.str "u")) dNil))) (dCall sp_l_draw (dCons (dVar 0) (dCons (dOp dAddF (dCB cLen (dCons (dVar 2) dNil)) (dC (.int 1))) dNil)))) dNil))) dNil)))
    (dDrop (dBM "list" mAppend (dOp dIxS (dVar 4) (dC (.int 0))) (dCons (dCB cTuple (dCons (dFz (dLc (dSeqI (dVar 3)) (dGN 6) (dTest (dOp (dEq false) (dCall sp_l_draw (dCons (dVar 0) (dCons (dC (.int 2)) dNil))) (dC (.int 1)))) (dVar 6) [6])) dNil)) dNil)))))
    (dRet (dVar 4)))))
abbrev N_l_line : List Str := ["_law_feed_here", "_law_pattern_here", "_law_words", "_law_marks", "_law_line_here", "_law_k", "_law_mark"]
theorem ok_l_line {P : Program} {w : World} {K : PySem.W.Frag} {mg : Str → Option Value} {base : Heap} (T : Txt w K mg) (G_l_draw : DFn P w K mg base 1 T.a_l_draw T.f_l_draw ["_law_feed_here", "_law_many"] sp_l_draw) (G_l_gone : DFn P w K mg base 11 T.a_l_gone T.f_l_gone ["_law_feed_here", "_law_pattern_here", "_law_words", "_law_marks"] (sp_l_gone 9)) {sp : DSp}
    (mono : SpMono sp) (len : ∀ ds S Q E, sp ds S Q E → ds.length = 4)
    (h : ∀ ds S Q E, sp ds S Q E → t_l_line (dEnd Q E) (dstart ["_law_feed_here", "_law_pattern_here", "_law_words", "_law_marks", "_law_line_here", "_law_k", "_law_mark"] ds) S) : DFn P w K mg base 12 T.a_l_line T.f_l_line ["_law_feed_here", "_law_pattern_here", "_law_words", "_law_marks"] sp := by
  refine dfn_of2 (t := t_l_line) T.F_l_line sc_l_line mono len (fun cdv A outer s H E hr gu => ?_) h
  have hu1 := hu_of hr
  have hu2 := hu_big hr
  exact (dss_cons (ds_if (dt_cmp od_gt (de_call G_l_draw (hr.mono (by decide)) gu (by rfl) T.m_l_draw T.F_l_draw.kp T.d_l_draw (da_cons (dv 0) (da_cons de_int da_nil))) de_int (nomark _))
      (dss_cons (ds_set (i := 4) sc_l_line.nd rfl (by first | exact Or.inl rfl | exact Or.inr rfl) (de_call G_l_gone (hr.mono (by decide)) gu (by rfl) T.m_l_gone T.F_l_gone.kp T.d_l_gone (da_cons (dv 0) (da_cons (dv 1) (da_cons (dv 2) (da_cons (dv 3) da_nil))))))
    (dss_one (ds_if (dt_cmp od_lt (de_callB cd_len (by rfl) T.b_len (by decide +kernel) (da_cons (de_ix (ixD_any hu2) (dv 4) de_int) da_nil)) de_int (nomark _))
      (dss_one (ds_ret (dv 4)))
      dss_nil)))
      dss_nil)
    (dss_cons (ds_set (i := 4) sc_l_line.nd rfl (by first | exact Or.inl rfl | exact Or.inr rfl) (de_tup (da_cons (de_lst (da_cons (de_callTy cd_tuple (by rfl) T.b_tuple (by decide +kernel) (da_cons (de_fz (de_lc (own := [("_law_mark", 6)]) rfl sc_l_line.nd (di_seq (dv 3)) (blkOk_by (own := [("_law_mark", 6)]) (N := ["_law_feed_here", "_law_pattern_here", "_law_words", "_law_marks", "_law_line_here", "_law_k", "_law_mark"]) (sc := defScope s_l_line) (by decide +kernel)) ⟨fun _ _ _ _ _ => (dw_name (i := 6) sc_l_line.nd rfl (by first | exact Or.inl rfl | exact Or.inr rfl) (by decide)), fun _ _ _ _ _ => (dts_one (dt_cmp (od_eq hr.units) (de_call G_l_draw (hr.mono (by decide)) gu (by rfl) T.m_l_draw T.F_l_draw.kp T.d_l_draw (da_cons (dv 0) (da_cons de_int da_nil))) de_int (nomark _))), fun _ _ _ _ _ => (dv 6)⟩)) da_nil)) da_nil)) (da_cons (de_lst da_nil) da_nil))))
    (dss_cons (ds_for (passes_of rfl) rfl (di_rng1 (by rfl) T.b_range (da_cons (de_call G_l_draw (hr.mono (by decide)) gu (by rfl) T.m_l_draw T.F_l_draw.kp T.d_l_draw (da_cons (dv 0) (da_cons de_int da_nil))) da_nil)) (dg_name (i := 5) sc_l_line.nd rfl (by first | exact Or.inl rfl | exact Or.inr rfl))
      (dss_cons (ds_expr (de_bm PySem.F.plainAttrs_list PySem.F.slot_list_append PySem.F.type_list_append md_append (de_ix (ixD_any hu2) (dv 4) de_int) (da_cons (de_tup (da_cons (de_ix (ixD_any hu2) (de_lstF (da_cons de_str (da_cons de_str da_nil))) (de_call G_l_draw (hr.mono (by decide)) gu (by rfl) T.m_l_draw T.F_l_draw.kp T.d_l_draw (da_cons (dv 0) (da_cons de_int da_nil)))) (da_cons (de_ix (ixD_any hu2) (de_op od_addF (dv 2) (de_lstF (da_cons de_str da_nil))) (de_call G_l_draw (hr.mono (by decide)) gu (by rfl) T.m_l_draw T.F_l_draw.kp T.d_l_draw (da_cons (dv 0) (da_cons (de_op od_addF (de_callB cd_len (by rfl) T.b_len (by decide +kernel) (da_cons (dv 2) da_nil)) de_int) da_nil)))) da_nil))) da_nil)))
    (dss_one (ds_expr (de_bm PySem.F.plainAttrs_list PySem.F.slot_list_append PySem.F.type_list_append md_append (de_ix (ixD_any hu2) (dv 4) de_int) (da_cons (de_callTy cd_tuple (by rfl) T.b_tuple (by decide +kernel) (da_cons (de_fz (de_lc (own := [("_law_mark", 6)]) rfl sc_l_line.nd (di_seq (dv 3)) (blkOk_by (own := [("_law_mark", 6)]) (N := ["_law_feed_here", "_law_pattern_here", "_law_words", "_law_marks", "_law_line_here", "_law_k", "_law_mark"]) (sc := defScope s_l_line) (by decide +kernel)) ⟨fun _ _ _ _ _ => (dw_name (i := 6) sc_l_line.nd rfl (by first | exact Or.inl rfl | exact Or.inr rfl) (by decide)), fun _ _ _ _ _ => (dts_one (dt_cmp (od_eq hr.units) (de_call G_l_draw (hr.mono (by decide)) gu (by rfl) T.m_l_draw T.F_l_draw.kp T.d_l_draw (da_cons (dv 0) (da_cons de_int da_nil))) de_int (nomark _))), fun _ _ _ _ _ => (dv 6)⟩)) da_nil)) da_nil))))))
    (dss_one (ds_ret (dv 4))))))

/-! l_ends -/
def t_l_ends (spR spM : DSp) : DTS := (dSeq (dAsg (dOp dAddF (dCB cStr (dCons (dVar 2) dNil)) (dCB cRepr (dCons (dVar 0) dNil))) (dGN 4))
    (dSeq (dIf (dTest (dOp (dIn true) (dVar 4) (dVar 3)))
      (dPut (dVar 3) (dVar 4) (dCall spM (dCons (dVar 0) (dCons (dVar 1) (dCons (dVar 2) (dCons (dVar 3) dNil))))))
      dNx)
    (dRet (dOp dIxS (dVar 3) (dVar 4)))))
abbrev N_l_ends : List Str := ["_law_pattern_here", "_law_line_here", "_law_at", "_law_known", "_law_mark"]
theorem ok_l_ends {P : Program} {w : World} {K : PySem.W.Frag} {mg : Str → Option Value} {base : Heap} (T : Txt w K mg) (n : Nat) {spR spM : DSp} (G_l_ends : DFn P w K mg base (0 + n) T.a_l_ends T.f_l_ends ["_law_pattern_here", "_law_line_here", "_law_at", "_law_known"] spR) (G_l_ends_anew : DFn P w K mg base (0 + n) T.a_l_ends_anew T.f_l_ends_anew ["_law_pattern_here", "_law_line_here", "_law_at", "_law_known"] spM) {sp : DSp}
    (mono : SpMono sp) (len : ∀ ds S Q E, sp ds S Q E → ds.length = 4)
    (h : ∀ ds S Q E, sp ds S Q E → (t_l_ends spR spM) (dEnd Q E) (dstart ["_law_pattern_here", "_law_line_here", "_law_at", "_law_known", "_law_mark"] ds) S) : DFn P w K mg base (0 + n + 1) T.a_l_ends T.f_l_ends ["_law_pattern_here", "_law_line_here", "_law_at", "_law_known"] sp := by
  refine dfn_of2 (t := (t_l_ends spR spM)) T.F_l_ends sc_l_ends mono len (fun cdv A outer s H E hr gu => ?_) h
  have hu1 := hu_of hr
  have hu2 := hu_big hr
  exact (dss_cons (ds_set (i := 4) sc_l_ends.nd rfl (by first | exact Or.inl rfl | exact Or.inr rfl) (de_op od_addF (de_callTy cd_str (by rfl) T.b_str (by decide +kernel) (da_cons (dv 2) da_nil)) (de_callB (cd_repr hu2 gu) (by rfl) T.b_repr (by decide +kernel) (da_cons (dv 0) da_nil))))
    (dss_cons (ds_if (dt_cmp (od_nin hu2) (dv 4) (dv 3) (by rfl))
      (dss_one (ds_put hu2 (dv 3) (dv 4) (de_call G_l_ends_anew (hr.mono (Nat.le_refl _)) gu (by rfl) T.m_l_ends_anew T.F_l_ends_anew.kp T.d_l_ends_anew (da_cons (dv 0) (da_cons (dv 1) (da_cons (dv 2) (da_cons (dv 3) da_nil)))))))
      dss_nil)
    (dss_one (ds_ret (de_ix (ixD_any hu2) (dv 3) (dv 4))))))

/-! l_ends_anew -/
def t_l_ends_anew (spR : DSp) : DTS := (dSeq (dIf (dTest (dOp (dEq false) (dOp dIxS (dVar 0) (dC (.int 0))) (dC (.str "stay"))))
      (dRet (dLstF (dCons (dVar 2) dNil)))
      dNx)
    (dSeq (dIf (dTest (dOp (dIn false) (dOp dIxS (dVar 0) (dC (.int 0))) (dTup (dCons (dC (.str "at")) (dCons (dC (.str "off")) dNil)))))
      (dRet (dSlF (dLstF (dCons (dVar 2) dNil)) dNoP (dSoP (dCB cIntS (dCons (dOp (dEq false) (dOp (dIn false) (dOp dIxS (dVar 0) (dC (.int 1))) (dOp dIxS (dOp dIxS (dVar 1) (dC (.int 0))) (dVar 2))) (dOp (dEq false) (dOp dIxS (dVar 0) (dC (.int 0))) (dC (.str "at")))) dNil)))))
      dNx)
    (dSeq (dIf (dTest (dOp (dEq false) (dOp dIxS (dVar 0) (dC (.int 0))) (dC (.str "step"))))
      (dSeq (dAsg (dAndV (dOp rLt (dVar 2) (dCB cLen (dCons (dOp dIxS (dVar 1) (dC (.int 1))) dNil))) (dAndV (dOp (dEq false) (dOp dIxS (dOp dIxS (dOp dIxS (dVar 1) (dC (.int 1))) (dVar 2)) (dC (.int 0))) (dOp dIxS (dVar 0) (dC (.int 1)))) (dOp (dIn false) (dOp dIxS (dVar 0) (dC (.int 2))) (dTup (dCons (dC (.str "*")) (dCons (dOp dIxS (dOp dIxS (dOp dIxS (dVar 1) (dC (.int 1))) (dVar 2)) (dC (.int 1))) dNil)))))) (dGN 4))
    (dRet (dSlF (dLstF (dCons (dOp dAddF (dVar 2) (dC (.int 1))) dNil)) dNoP (dSoP (dCB cIntS (dCons (dVar 4) dNil))))))
      dNx)
    (dSeq (dAsg (dLstF (dCons (dVar 2) dNil)) (dGN 5))
    (dSeq (dIf (dTest (dOp (dEq false) (dOp dIxS (dVar 0) (dC (.int 0))) (dC (.str "many"))))
      (dSeq (dAsg (dC (.int 0)) (dGN 6))
    (dSeq (dWhile (dTest (dOp rLt (dVar 6) (dCB cLen (dCons (dVar 5) dNil))))
      (dSeq (dAsg (dOp dAddF (dVar 5) (dFz (dLc (dSeqI (dCall spR (dCons (dOp dIxS (dVar 0) (dC (.int 1))) (dCons (dVar 1) (dCons (dOp dIxS (dVar 5) (dVar 6)) (dCons (dVar 3) dNil)))))) (dGN 8) (dTest (dOp (dIn true) (dVar 8) (dVar 5))) (dVar 8) [8]))) (dGN 5))
    (dAsg (dOp dAddF (dVar 6) (dC (.int 1))) (dGN 6))))
    (dRet (dVar 5))))
      dNx)
    (dSeq (dAsg (dLstF dNil) (dGN 7))
    (dSeq (dFor (dSeqI (dOp dIxS (dVar 0) (dC (.int 1)))) (dGN 8)
      (dSeq (dIf (dTest (dOp (dEq false) (dOp dIxS (dVar 0) (dC (.int 0))) (dC (.str "then"))))
      (dAsg (dLstF dNil) (dGN 7))
      dNx)
    (dSeq (dFor (dSeqI (dVar 5)) (dGN 9)
      (dAsg (dOp dAddF (dVar 7) (dFz (dLc (dSeqI (dCall spR (dCons (dVar 8) (dCons (dVar 1) (dCons (dVar 9) (dCons (dVar 3) dNil)))))) (dGN 10) (dTest (dOp (dIn true) (dVar 10) (dVar 7))) (dVar 10) [10]))) (dGN 7)))
    (dIf (dTest (dOp (dEq false) (dOp dIxS (dVar 0) (dC (.int 0))) (dC (.str "then"))))
      (dAsg (dVar 7) (dGN 5))
      dNx))))
    (dRet (dIfE (dTest (dOp (dEq false) (dOp dIxS (dVar 0) (dC (.int 0))) (dC (.str "then")))) (dVar 5) (dVar 7))))))))))
abbrev N_l_ends_anew : List Str := ["_law_pattern_here", "_law_line_here", "_law_at", "_law_known", "_law_good", "_law_spots", "_law_k", "_law_behind", "_law_one", "_law_spot", "_law_end"]
theorem ok_l_ends_anew {P : Program} {w : World} {K : PySem.W.Frag} {mg : Str → Option Value} {base : Heap} (T : Txt w K mg) (n : Nat) {spR : DSp} (G_l_ends : DFn P w K mg base (0 + n) T.a_l_ends T.f_l_ends ["_law_pattern_here", "_law_line_here", "_law_at", "_law_known"] spR) {sp : DSp}
    (mono : SpMono sp) (len : ∀ ds S Q E, sp ds S Q E → ds.length = 4)
    (h : ∀ ds S Q E, sp ds S Q E → (t_l_ends_anew spR) (dEnd Q E) (dstart ["_law_pattern_here", "_law_line_here", "_law_at", "_law_known", "_law_good", "_law_spots", "_law_k", "_law_behind", "_law_one", "_law_spot", "_law_end"] ds) S) : DFn P w K mg base (0 + n + 1) T.a_l_ends_anew T.f_l_ends_anew ["_law_pattern_here", "_law_line_here", "_law_at", "_law_known"] sp := by
  refine dfn_of2 (t := (t_l_ends_anew spR)) T.F_l_ends_anew sc_l_ends_anew mono len (fun cdv A outer s H E hr gu => ?_) h
  have hu1 := hu_of hr
  have hu2 := hu_big hr
  exact (dss_cons (ds_if (dt_cmp (od_eq hr.units) (de_ix (ixD_any hu2) (dv 0) de_int) de_str (nomark _))
      (dss_one (ds_ret (de_lstF (da_cons (dv 2) da_nil))))
      dss_nil)
    (dss_cons (ds_if (dt_cmp (od_in hu2) (de_ix (ixD_any hu2) (dv 0) de_int) (de_tup (da_cons de_str (da_cons de_str da_nil))) (by rfl))
      (dss_one (ds_ret (de_slF (de_lstF (da_cons (dv 2) da_nil)) do_none (do_some (de_callTy cd_intS (by rfl) T.b_int (by decide +kernel) (da_cons (de_cmp (od_eq hr.units) (de_cmp (od_in hu2) (de_ix (ixD_any hu2) (dv 0) de_int) (de_ix (ixD_any hu2) (de_ix (ixD_any hu2) (dv 1) de_int) (dv 2)) (by rfl)) (de_cmp (od_eq hr.units) (de_ix (ixD_any hu2) (dv 0) de_int) de_str (nomark _)) (nomark _)) da_nil))))))
      dss_nil)
    (dss_cons (ds_if (dt_cmp (od_eq hr.units) (de_ix (ixD_any hu2) (dv 0) de_int) de_str (nomark _))
      (dss_cons (ds_set (i := 4) sc_l_ends_anew.nd rfl (by first | exact Or.inl rfl | exact Or.inr rfl) (de_and (de_cmp od_lt (dv 2) (de_callB cd_len (by rfl) T.b_len (by decide +kernel) (da_cons (de_ix (ixD_any hu2) (dv 1) de_int) da_nil)) (nomark _)) (de_and (de_cmp (od_eq hr.units) (de_ix (ixD_any hu2) (de_ix (ixD_any hu2) (de_ix (ixD_any hu2) (dv 1) de_int) (dv 2)) de_int) (de_ix (ixD_any hu2) (dv 0) de_int) (nomark _)) (de_one (de_cmp (od_in hu2) (de_ix (ixD_any hu2) (dv 0) de_int) (de_tup (da_cons de_str (da_cons (de_ix (ixD_any hu2) (de_ix (ixD_any hu2) (de_ix (ixD_any hu2) (dv 1) de_int) (dv 2)) de_int) da_nil))) (by rfl))))))
    (dss_one (ds_ret (de_slF (de_lstF (da_cons (de_op od_addF (dv 2) de_int) da_nil)) do_none (do_some (de_callTy cd_intS (by rfl) T.b_int (by decide +kernel) (da_cons (dv 4) da_nil)))))))
      dss_nil)
    (dss_cons (ds_set (i := 5) sc_l_ends_anew.nd rfl (by first | exact Or.inl rfl | exact Or.inr rfl) (de_lstF (da_cons (dv 2) da_nil)))
    (dss_cons (ds_if (dt_cmp (od_eq hr.units) (de_ix (ixD_any hu2) (dv 0) de_int) de_str (nomark _))
      (dss_cons (ds_set (i := 6) sc_l_ends_anew.nd rfl (by first | exact Or.inl rfl | exact Or.inr rfl) de_int)
    (dss_cons (ds_while (passes_of rfl) (dt_cmp od_lt (dv 6) (de_callB cd_len (by rfl) T.b_len (by decide +kernel) (da_cons (dv 5) da_nil)) (nomark _))
      (dss_cons (ds_set (i := 5) sc_l_ends_anew.nd rfl (by first | exact Or.inl rfl | exact Or.inr rfl) (de_op od_addF (dv 5) (de_fz (de_lc (own := [("_law_one", 8)]) rfl sc_l_ends_anew.nd (di_seq (de_call G_l_ends (hr.mono (Nat.le_refl _)) gu (by rfl) T.m_l_ends T.F_l_ends.kp T.d_l_ends (da_cons (de_ix (ixD_any hu2) (dv 0) de_int) (da_cons (dv 1) (da_cons (de_ix (ixD_any hu2) (dv 5) (dv 6)) (da_cons (dv 3) da_nil)))))) (blkOk_by (own := [("_law_one", 8)]) (N := ["_law_pattern_here", "_law_line_here", "_law_at", "_law_known", "_law_good", "_law_spots", "_law_k", "_law_behind", "_law_one", "_law_spot", "_law_end"]) (sc := defScope s_l_ends_anew) (by decide +kernel)) ⟨fun _ _ _ _ _ => (dw_name (i := 8) sc_l_ends_anew.nd rfl (by first | exact Or.inl rfl | exact Or.inr rfl) (by decide)), fun _ _ _ _ _ => (dts_one (dt_cmp (od_nin hu2) (dv 8) (dv 5) (by rfl))), fun _ _ _ _ _ => (dv 8)⟩))))
    (dss_one (ds_set (i := 6) sc_l_ends_anew.nd rfl (by first | exact Or.inl rfl | exact Or.inr rfl) (de_op od_addF (dv 6) de_int)))))
    (dss_one (ds_ret (dv 5)))))
      dss_nil)
    (dss_cons (ds_set (i := 7) sc_l_ends_anew.nd rfl (by first | exact Or.inl rfl | exact Or.inr rfl) (de_lstF da_nil))
    (dss_cons (ds_for (passes_of rfl) rfl (di_seq (de_ix (ixD_any hu2) (dv 0) de_int)) (dg_name (i := 8) sc_l_ends_anew.nd rfl (by first | exact Or.inl rfl | exact Or.inr rfl))
      (dss_cons (ds_if (dt_cmp (od_eq hr.units) (de_ix (ixD_any hu2) (dv 0) de_int) de_str (nomark _))
      (dss_one (ds_set (i := 7) sc_l_ends_anew.nd rfl (by first | exact Or.inl rfl | exact Or.inr rfl) (de_lstF da_nil)))
      dss_nil)
    (dss_cons (ds_for (passes_of rfl) rfl (di_seq (dv 5)) (dg_name (i := 9) sc_l_ends_anew.nd rfl (by first | exact Or.inl rfl | exact Or.inr rfl))
      (dss_one (ds_set (i := 7) sc_l_ends_anew.nd rfl (by first | exact Or.inl rfl | exact Or.inr rfl) (de_op od_addF (dv 7) (de_fz (de_lc (own := [("_law_end", 10)]) rfl sc_l_ends_anew.nd (di_seq (de_call G_l_ends (hr.mono (Nat.le_refl _)) gu (by rfl) T.m_l_ends T.F_l_ends.kp T.d_l_ends (da_cons (dv 8) (da_cons (dv 1) (da_cons (dv 9) (da_cons (dv 3) da_nil)))))) (blkOk_by (own := [("_law_end", 10)]) (N := ["_law_pattern_here", "_law_line_here", "_law_at", "_law_known", "_law_good", "_law_spots", "_law_k", "_law_behind", "_law_one", "_law_spot", "_law_end"]) (sc := defScope s_l_ends_anew) (by decide +kernel)) ⟨fun _ _ _ _ _ => (dw_name (i := 10) sc_l_ends_anew.nd rfl (by first | exact Or.inl rfl | exact Or.inr rfl) (by decide)), fun _ _ _ _ _ => (dts_one (dt_cmp (od_nin hu2) (dv 10) (dv 7) (by rfl))), fun _ _ _ _ _ => (dv 10)⟩))))))
    (dss_one (ds_if (dt_cmp (od_eq hr.units) (de_ix (ixD_any hu2) (dv 0) de_int) de_str (nomark _))
      (dss_one (ds_set (i := 5) sc_l_ends_anew.nd rfl (by first | exact Or.inl rfl | exact Or.inr rfl) (dv 7)))
      dss_nil)))))
    (dss_one (ds_ret (de_if (dt_cmp (od_eq hr.units) (de_ix (ixD_any hu2) (dv 0) de_int) de_str (nomark _)) (dv 5) (dv 7)))))))))))

/-! l_right -/
def t_l_right : DTS := (dRet (dOp (dIn false) (dCB cLen (dCons (dOp dIxS (dVar 1) (dC (.int 1))) dNil)) (dCall (sp_l_ends 10) (dCons (dVar 0) (dCons (dVar 1) (dCons (dC (.int 0)) (dCons dDnK dNil)))))))
abbrev N_l_right : List Str := ["_law_pattern_here", "_law_line_here"]
theorem ok_l_right {P : Program} {w : World} {K : PySem.W.Frag} {mg : Str → Option Value} {base : Heap} (T : Txt w K mg) (G_l_ends : DFn P w K mg base 21 T.a_l_ends T.f_l_ends ["_law_pattern_here", "_law_line_here", "_law_at", "_law_known"] (sp_l_ends 10)) {sp : DSp}
    (mono : SpMono sp) (len : ∀ ds S Q E, sp ds S Q E → ds.length = 2)
    (h : ∀ ds S Q E, sp ds S Q E → t_l_right (dEnd Q E) (dstart ["_law_pattern_here", "_law_line_here"] ds) S) : DFn P w K mg base 22 T.a_l_right T.f_l_right ["_law_pattern_here", "_law_line_here"] sp := by
  refine dfn_of2 (t := t_l_right) T.F_l_right sc_l_right mono len (fun cdv A outer s H E hr gu => ?_) h
  have hu1 := hu_of hr
  have hu2 := hu_big hr
  exact (dss_one (ds_ret (de_cmp (od_in hu2) (de_callB cd_len (by rfl) T.b_len (by decide +kernel) (da_cons (de_ix (ixD_any hu2) (dv 1) de_int) da_nil)) (de_call G_l_ends (hr.mono (by decide)) gu (by rfl) T.m_l_ends T.F_l_ends.kp T.d_l_ends (da_cons (dv 0) (da_cons (dv 1) (da_cons de_int (da_cons de_dnK da_nil))))) (by rfl))))

/-! l_all -/
def t_l_all (spR : DSp) : DTS := (dSeq (dAsg (dLstF (dCons (dVar 0) dNil)) (dGN 1))
    (dSeq (dIf (dTest (dOp (dEq false) (dOp dIxS (dVar 0) (dC (.int 0))) (dC (.str "many"))))
      (dAsg (dOp dAddF (dVar 1) (dCall spR (dCons (dOp dIxS (dVar 0) (dC (.int 1))) dNil))) (dGN 1))
      dNx)
    (dSeq (dIf (dTest (dOp (dIn false) (dOp dIxS (dVar 0) (dC (.int 0))) (dTup (dCons (dC (.str "then")) (dCons (dC (.str "either")) dNil)))))
      (dFor (dSeqI (dOp dIxS (dVar 0) (dC (.int 1)))) (dGN 2)
      (dAsg (dOp dAddF (dVar 1) (dCall spR (dCons (dVar 2) dNil))) (dGN 1)))
      dNx)
    (dRet (dVar 1)))))
abbrev N_l_all : List Str := ["_law_pattern_here", "_law_found", "_law_one"]
theorem ok_l_all {P : Program} {w : World} {K : PySem.W.Frag} {mg : Str → Option Value} {base : Heap} (T : Txt w K mg) (n : Nat) {spR : DSp} (G_l_all : DFn P w K mg base (0 + n) T.a_l_all T.f_l_all ["_law_pattern_here"] spR) {sp : DSp}
    (mono : SpMono sp) (len : ∀ ds S Q E, sp ds S Q E → ds.length = 1)
    (h : ∀ ds S Q E, sp ds S Q E → (t_l_all spR) (dEnd Q E) (dstart ["_law_pattern_here", "_law_found", "_law_one"] ds) S) : DFn P w K mg base (0 + n + 1) T.a_l_all T.f_l_all ["_law_pattern_here"] sp := by
  refine dfn_of2 (t := (t_l_all spR)) T.F_l_all sc_l_all mono len (fun cdv A outer s H E hr gu => ?_) h
  have hu1 := hu_of hr
  have hu2 := hu_big hr
  exact (dss_cons (ds_set (i := 1) sc_l_all.nd rfl (by first | exact Or.inl rfl | exact Or.inr rfl) (de_lstF (da_cons (dv 0) da_nil)))
    (dss_cons (ds_if (dt_cmp (od_eq hr.units) (de_ix (ixD_any hu2) (dv 0) de_int) de_str (nomark _))
      (dss_one (ds_set (i := 1) sc_l_all.nd rfl (by first | exact Or.inl rfl | exact Or.inr rfl) (de_op od_addF (dv 1) (de_call G_l_all (hr.mono (Nat.le_refl _)) gu (by rfl) T.m_l_all T.F_l_all.kp T.d_l_all (da_cons (de_ix (ixD_any hu2) (dv 0) de_int) da_nil)))))
      dss_nil)
    (dss_cons (ds_if (dt_cmp (od_in hu2) (de_ix (ixD_any hu2) (dv 0) de_int) (de_tup (da_cons de_str (da_cons de_str da_nil))) (by rfl))
      (dss_one (ds_for (passes_of rfl) rfl (di_seq (de_ix (ixD_any hu2) (dv 0) de_int)) (dg_name (i := 2) sc_l_all.nd rfl (by first | exact Or.inl rfl | exact Or.inr rfl))
      (dss_one (ds_set (i := 1) sc_l_all.nd rfl (by first | exact Or.inl rfl | exact Or.inr rfl) (de_op od_addF (dv 1) (de_call G_l_all (hr.mono (Nat.le_refl _)) gu (by rfl) T.m_l_all T.F_l_all.kp T.d_l_all (da_cons (dv 2) da_nil)))))))
      dss_nil)
    (dss_one (ds_ret (dv 1))))))

/-! l_plain -/
def t_l_plain : DTS := (dSeq (dFor (dSeqI (dCall (sp_l_all 50) (dCons (dVar 0) dNil))) (dGN 1)
      (dSeq (dIf (dTest (dOp (dIn false) (dOp dIxS (dVar 1) (dC (.int 0))) (dTup (dCons (dC (.str "then")) (dCons (dC (.str "either")) dNil)))))
      (dSeq (dAsg (dFz (dLc (dSeqI (dOp dIxS (dVar 1) (dC (.int 1)))) (dGN 3) dYes (dOp dIxS (dVar 3) (dC (.int 0))) [3])) (dGN 2))
    (dSeq (dIf (dOr (dTest (dOp (dEq false) (dCB cLen (dCons (dVar 2) dNil)) (dC (.int 1)))) (dOr (dTest (dOp (dIn false) (dOp dIxS (dVar 1) (dC (.int 0))) (dVar 2))) (dAnd (dTest (dOp (dEq false) (dOp dIxS (dVar 1) (dC (.int 0))) (dC (.str "then")))) (dTest (dOp (dIn false) (dC (.str "stay")) (dVar 2))))))
      (dRet (dC (.bl false)))
      dNx)
    (dSeq (dIf (dAnd (dTest (dOp (dEq false) (dOp dIxS (dVar 1) (dC (.int 0))) (dC (.str "then")))) (dTest (dOp (dInT false) (dTup (dCons (dC (.str "either")) (dCons (dTup dNil) dNil))) (dOp dIxS (dVar 1) (dC (.int 1))))))
      (dRet (dC (.bl false)))
      dNx)
    (dIf (dAnd (dTest (dOp (dEq false) (dOp dIxS (dVar 1) (dC (.int 0))) (dC (.str "either")))) (dTest (dOp (dEq true) (dFz (dLc (dSeqI (dOp dIxS (dVar 1) (dC (.int 1)))) (dGN 3) (dTest (dOp rGt (dBM "tuple" mCountT (dOp dIxS (dVar 1) (dC (.int 1))) (dCons (dVar 3) dNil)) (dC (.int 1)))) (dVar 3) [3])) (dLstF dNil))))
      (dRet (dC (.bl false)))
      dNx))))
      dNx)
    (dIf (dAnd (dTest (dOp (dEq false) (dOp dIxS (dVar 1) (dC (.int 0))) (dC (.str "many")))) (dOr (dTest (dOp (dIn false) (dOp dIxS (dOp dIxS (dVar 1) (dC (.int 1))) (dC (.int 0))) (dTup (dCons (dC (.str "many")) (dCons (dC (.str "stay")) dNil))))) (dTest (dOp (dInT false) (dOp dIxS (dVar 1) (dC (.int 1))) (dTup (dCons (dTup (dCons (dC (.str "then")) (dCons (dTup dNil) dNil))) (dCons (dTup (dCons (dC (.str "either")) (dCons (dTup dNil) dNil))) dNil)))))))
      (dRet (dC (.bl false)))
      dNx)))
    (dRet (dC (.bl true))))
abbrev N_l_plain : List Str := ["_law_pattern_here", "_law_one", "_law_heads", "_law_inner"]
theorem ok_l_plain {P : Program} {w : World} {K : PySem.W.Frag} {mg : Str → Option Value} {base : Heap} (T : Txt w K mg) (G_l_all : DFn P w K mg base 51 T.a_l_all T.f_l_all ["_law_pattern_here"] (sp_l_all 50)) {sp : DSp}
    (mono : SpMono sp) (len : ∀ ds S Q E, sp ds S Q E → ds.length = 1)
    (h : ∀ ds S Q E, sp ds S Q E → t_l_plain (dEnd Q E) (dstart ["_law_pattern_here", "_law_one", "_law_heads", "_law_inner"] ds) S) : DFn P w K mg base 52 T.a_l_plain T.f_l_plain ["_law_pattern_here"] sp := by
  refine dfn_of2 (t := t_l_plain) T.F_l_plain sc_l_plain mono len (fun cdv A outer s H E hr gu => ?_) h
  have hu1 := hu_of hr
  have hu2 := hu_big hr
  exact (dss_cons (ds_for (passes_of rfl) rfl (di_seq (de_call G_l_all (hr.mono (by decide)) gu (by rfl) T.m_l_all T.F_l_all.kp T.d_l_all (da_cons (dv 0) da_nil))) (dg_name (i := 1) sc_l_plain.nd rfl (by first | exact Or.inl rfl | exact Or.inr rfl))
      (dss_cons (ds_if (dt_cmp (od_in hu2) (de_ix (ixD_any hu2) (dv 1) de_int) (de_tup (da_cons de_str (da_cons de_str da_nil))) (by rfl))
      (dss_cons (ds_setLcF (i := 2) (own := [("_law_inner", 3)]) rfl sc_l_plain.nd rfl rfl (sw_true rfl rfl rfl (by decide +kernel)) (di_seq (de_ix (ixD_any hu2) (dv 1) de_int)) (blkOk_by (own := [("_law_inner", 3)]) (N := ["_law_pattern_here", "_law_one", "_law_heads", "_law_inner"]) (sc := defScope s_l_plain) (by decide +kernel)) ⟨fun _ _ _ _ _ => (dw_name (i := 3) sc_l_plain.nd rfl (by first | exact Or.inl rfl | exact Or.inr rfl) (by decide)), fun _ _ _ _ _ => dts_nil, fun _ _ _ _ _ => (de_ix (ixD_any hu2) (dv 3) de_int)⟩)
    (dss_cons (ds_if (DWt.pt (dw_or (dt_cmp (od_eq hr.units) (de_callB cd_len (by rfl) T.b_len (by decide +kernel) (da_cons (dv 2) da_nil)) de_int (nomark _)) (dw_or (dt_cmp (od_in hu2) (de_ix (ixD_any hu2) (dv 1) de_int) (dv 2) (by rfl)) (dw_or1 (DWt.pt (dw_and (dt_cmp (od_eq hr.units) (de_ix (ixD_any hu2) (dv 1) de_int) de_str (nomark _)) (dw_and1 (dt_cmp (od_in hu2) de_str (dv 2) (by rfl)))))))))
      (dss_one (ds_ret de_bl))
      dss_nil)
    (dss_cons (ds_if (DWt.pt (dw_and (dt_cmp (od_eq hr.units) (de_ix (ixD_any hu2) (dv 1) de_int) de_str (nomark _)) (dw_and1 (dt_cmp (od_inT hu2) (de_tup (da_cons de_str (da_cons (de_tup da_nil) da_nil))) (de_ix (ixD_any hu2) (dv 1) de_int) (by rfl)))))
      (dss_one (ds_ret de_bl))
      dss_nil)
    (dss_one (ds_if (DWt.pt (dw_and (dt_cmp (od_eq hr.units) (de_ix (ixD_any hu2) (dv 1) de_int) de_str (nomark _)) (dw_and1 (dt_cmp (od_ne hr.units) (de_fz (de_lc (own := [("_law_inner", 3)]) rfl sc_l_plain.nd (di_seq (de_ix (ixD_any hu2) (dv 1) de_int)) (blkOk_by (own := [("_law_inner", 3)]) (N := ["_law_pattern_here", "_law_one", "_law_heads", "_law_inner"]) (sc := defScope s_l_plain) (by decide +kernel)) ⟨fun _ _ _ _ _ => (dw_name (i := 3) sc_l_plain.nd rfl (by first | exact Or.inl rfl | exact Or.inr rfl) (by decide)), fun _ _ _ _ _ => (dts_one (dt_cmp od_gt (de_bm PySem.F.plainAttrs_tuple PySem.F.slot_tuple_count PySem.F.type_tuple_count (md_countT (hu65 hu2)) (de_ix (ixD_any hu2) (dv 1) de_int) (da_cons (dv 3) da_nil)) de_int (nomark _))), fun _ _ _ _ _ => (dv 3)⟩)) (de_lstF da_nil) (nomark _)))))
      (dss_one (ds_ret de_bl))
      dss_nil)))))
      dss_nil)
    (dss_one (ds_if (DWt.pt (dw_and (dt_cmp (od_eq hr.units) (de_ix (ixD_any hu2) (dv 1) de_int) de_str (nomark _)) (dw_and1 (DWt.pt (dw_or (dt_cmp (od_in hu2) (de_ix (ixD_any hu2) (de_ix (ixD_any hu2) (dv 1) de_int) de_int) (de_tup (da_cons de_str (da_cons de_str da_nil))) (by rfl)) (dw_or1 (dt_cmp (od_inT hu2) (de_ix (ixD_any hu2) (dv 1) de_int) (de_tup (da_cons (de_tup (da_cons de_str (da_cons (de_tup da_nil) da_nil))) (da_cons (de_tup (da_cons de_str (da_cons (de_tup da_nil) da_nil))) da_nil))) (by rfl))))))))
      (dss_one (ds_ret de_bl))
      dss_nil))))
    (dss_one (ds_ret de_bl)))

/-! l_needless -/
def t_l_needless (spR : DSp) : DTS := (dSeq (dAsg (dCall sp_l_draw (dCons (dVar 0) (dCons (dC (.int 12)) dNil))) (dGN 3))
    (dSeq (dIf (dOr (dTest (dOp rGt (dVar 2) (dC (.int 4)))) (dTest (dOp rGt (dCB cLen (dCons (dCall (sp_l_all 50) (dCons (dVar 1) dNil)) dNil)) (dC (.int 12)))))
      (dRet (dVar 1))
      dNx)
    (dSeq (dIf (dAnd (dTest (dOp (dIn false) (dOp dIxS (dVar 1) (dC (.int 0))) (dTup (dCons (dC (.str "then")) (dCons (dC (.str "either")) dNil))))) (dTest (dOp (dEq true) (dOp dIxS (dVar 1) (dC (.int 1))) (dTup dNil))))
      (dSeq (dAsg (dCall sp_l_draw (dCons (dVar 0) (dCons (dCB cLen (dCons (dOp dIxS (dVar 1) (dC (.int 1))) dNil)) dNil))) (dGN 4))
    (dSeq (dAsg (dCall spR (dCons (dVar 0) (dCons (dOp dIxS (dOp dIxS (dVar 1) (dC (.int 1))) (dVar 4)) (dCons (dOp dAddF (dVar 2) (dC (.int 1))) dNil)))) (dGN 5))
    (dAsg (dTup (dCons (dOp dIxS (dVar 1) (dC (.int 0))) (dCons (dOp dAddF (dOp dAddF (dSlF (dOp dIxS (dVar 1) (dC (.int 1))) dNoP (dSoP (dVar 4))) (dTup (dCons (dVar 5) dNil))) (dSlF (dOp dIxS (dVar 1) (dC (.int 1))) (dSoP (dOp dAddF (dVar 4) (dC (.int 1)))) dNoP)) dNil))) (dGN 1))))
      dNx)
    (dSeq (dIf (dTest (dOp (dEq false) (dOp dIxS (dVar 1) (dC (.int 0))) (dC (.str "many"))))
      (dAsg (dTup (dCons (dC (.str "many")) (dCons (dCall spR (dCons (dVar 0) (dCons (dOp dIxS (dVar 1) (dC (.int 1))) (dCons (dOp dAddF (dVar 2) (dC (.int 1))) dNil)))) dNil))) (dGN 1))
      dNx)
    (dSeq (dIf (dTest (dOp rGt (dCB cLen (dCons (dCall (sp_l_all 50) (dCons (dVar 1) dNil)) dNil)) (dC (.int 16))))
      (dRet (dVar 1))
      dNx)
    (dSeq (dAsg (dLstF (dCons (dVar 1) (dCons (dTup (dCons (dC (.str "then")) (dCons (dTup (dCons (dVar 1) dNil)) dNil))) (dCons (dTup (dCons (dC (.str "either")) (dCons (dTup (dCons (dVar 1) dNil)) dNil))) (dCons (dTup (dCons (dC (.str "then")) (dCons (dTup (dCons (dTup (dCons (dC (.str "stay")) dNil)) (dCons (dVar 1) dNil))) dNil))) dNil))))) (dGN 6))
    (dSeq (dAsg (dOp dAddF (dVar 6) (dLstF (dCons (dTup (dCons (dC (.str "then")) (dCons (dTup (dCons (dVar 1) (dCons (dTup (dCons (dC (.str "then")) (dCons (dTup dNil) dNil))) dNil))) dNil))) (dCons (dTup (dCons (dC (.str "either")) (dCons (dTup (dCons (dVar 1) (dCons (dTup (dCons (dC (.str "either")) (dCons (dTup dNil) dNil))) dNil))) dNil))) dNil)))) (dGN 6))
    (dSeq (dAsg (dOp dAddF (dVar 6) (dLstF (dCons (dTup (dCons (dC (.str "either")) (dCons (dTup (dCons (dVar 1) (dCons (dVar 1) dNil))) dNil))) dNil))) (dGN 6))
    (dSeq (dAsg (dOp dAddF (dVar 6) (dLstF (dCons (dTup (dCons (dC (.str "many")) (dCons (dVar 1) dNil))) (dCons (dTup (dCons (dC (.str "many")) (dCons (dTup (dCons (dC (.str "many")) (dCons (dVar 1) dNil))) dNil))) (dCons (dTup (dCons (dC (.str "then")) (dCons (dTup (dCons (dTup (dCons (dC (.str "many")) (dCons (dTup (dCons (dC (.str "stay")) dNil)) dNil))) (dCons (dVar 1) dNil))) dNil))) dNil))))) (dGN 6))
    (dSeq (dAsg (dOp dAddF (dVar 6) (dLstF (dCons (dTup (dCons (dC (.str "then")) (dCons (dTup (dCons (dVar 1) (dCons (dTup (dCons (dC (.str "either")) (dCons (dTup dNil) dNil))) dNil))) dNil))) (dCons (dTup (dCons (dC (.str "either")) (dCons (dTup (dCons (dVar 1) (dCons (dTup (dCons (dC (.str "either")) (dCons (dTup (dCons (dVar 1) (dCons (dTup (dCons (dC (.str "stay")) dNil)) dNil))) dNil))) dNil))) dNil))) dNil)))) (dGN 6))
    (dRet (dOp dIxS (dVar 6) (dVar 3)))))))))))))
abbrev N_l_needless : List Str := ["_law_feed_here", "_law_pattern_here", "_law_deep", "_law_way", "_law_at", "_law_inner", "_law_some"]
theorem ok_l_needless {P : Program} {w : World} {K : PySem.W.Frag} {mg : Str → Option Value} {base : Heap} (T : Txt w K mg) (G_l_draw : DFn P w K mg base 1 T.a_l_draw T.f_l_draw ["_law_feed_here", "_law_many"] sp_l_draw) (G_l_all : DFn P w K mg base 51 T.a_l_all T.f_l_all ["_law_pattern_here"] (sp_l_all 50)) (n : Nat) {spR : DSp} (G_l_needless : DFn P w K mg base (51 + n) T.a_l_needless T.f_l_needless ["_law_feed_here", "_law_pattern_here", "_law_deep"] spR) {sp : DSp}
    (mono : SpMono sp) (len : ∀ ds S Q E, sp ds S Q E → ds.length = 3)
    (h : ∀ ds S Q E, sp ds S Q E → (t_l_needless spR) (dEnd Q E) (dstart ["_law_feed_here", "_law_pattern_here", "_law_deep", "_law_way", "_law_at", "_law_inner", "_law_some"] ds) S) : DFn P w K mg base (51 + n + 1) T.a_l_needless T.f_l_needless ["_law_feed_here", "_law_pattern_here", "_law_deep"] sp := by
  refine dfn_of2 (t := (t_l_needless spR)) T.F_l_needless sc_l_needless mono len (fun cdv A outer s H E hr gu => ?_) h
  have hu1 := hu_of hr
  have hu2 := hu_big hr
  exact (dss_cons (ds_set (i := 3) sc_l_needless.nd rfl (by first | exact Or.inl rfl | exact Or.inr rfl) (de_call G_l_draw (hr.mono (by omega)) gu (by rfl) T.m_l_draw T.F_l_draw.kp T.d_l_draw (da_cons (dv 0) (da_cons de_int da_nil))))
    (dss_cons (ds_if (DWt.pt (dw_or (dt_cmp od_gt (dv 2) de_int (nomark _)) (dw_or1 (dt_cmp od_gt (de_callB cd_len (by rfl) T.b_len (by decide +kernel) (da_cons (de_call G_l_all (hr.mono (by omega)) gu (by rfl) T.m_l_all T.F_l_all.kp T.d_l_all (da_cons (dv 1) da_nil)) da_nil)) de_int (nomark _)))))
      (dss_one (ds_ret (dv 1)))
      dss_nil)
    (dss_cons (ds_if (DWt.pt (dw_and (dt_cmp (od_in hu2) (de_ix (ixD_any hu2) (dv 1) de_int) (de_tup (da_cons de_str (da_cons de_str da_nil))) (by rfl)) (dw_and1 (dt_cmp (od_ne hr.units) (de_ix (ixD_any hu2) (dv 1) de_int) (de_tup da_nil) (nomark _)))))
      (dss_cons (ds_set (i := 4) sc_l_needless.nd rfl (by first | exact Or.inl rfl | exact Or.inr rfl) (de_call G_l_draw (hr.mono (by omega)) gu (by rfl) T.m_l_draw T.F_l_draw.kp T.d_l_draw (da_cons (dv 0) (da_cons (de_callB cd_len (by rfl) T.b_len (by decide +kernel) (da_cons (de_ix (ixD_any hu2) (dv 1) de_int) da_nil)) da_nil))))
    (dss_cons (ds_set (i := 5) sc_l_needless.nd rfl (by first | exact Or.inl rfl | exact Or.inr rfl) (de_call G_l_needless (hr.mono (Nat.le_refl _)) gu (by rfl) T.m_l_needless T.F_l_needless.kp T.d_l_needless (da_cons (dv 0) (da_cons (de_ix (ixD_any hu2) (de_ix (ixD_any hu2) (dv 1) de_int) (dv 4)) (da_cons (de_op od_addF (dv 2) de_int) da_nil)))))
    (dss_one (ds_set (i := 1) sc_l_needless.nd rfl (by first | exact Or.inl rfl | exact Or.inr rfl) (de_tup (da_cons (de_ix (ixD_any hu2) (dv 1) de_int) (da_cons (de_op od_addF (de_op od_addF (de_slF (de_ix (ixD_any hu2) (dv 1) de_int) do_none (do_some (dv 4))) (de_tup (da_cons (dv 5) da_nil))) (de_slF (de_ix (ixD_any hu2) (dv 1) de_int) (do_some (de_op od_addF (dv 4) de_int)) do_none)) da_nil)))))))
      dss_nil)
    (dss_cons (ds_if (dt_cmp (od_eq hr.units) (de_ix (ixD_any hu2) (dv 1) de_int) de_str (nomark _))
      (dss_one (ds_set (i := 1) sc_l_needless.nd rfl (by first | exact Or.inl rfl | exact Or.inr rfl) (de_tup (da_cons de_str (da_cons (de_call G_l_needless (hr.mono (Nat.le_refl _)) gu (by rfl) T.m_l_needless T.F_l_needless.kp T.d_l_needless (da_cons (dv 0) (da_cons (de_ix (ixD_any hu2) (dv 1) de_int) (da_cons (de_op od_addF (dv 2) de_int) da_nil)))) da_nil)))))
      dss_nil)
    (dss_cons (ds_if (dt_cmp od_gt (de_callB cd_len (by rfl) T.b_len (by decide +kernel) (da_cons (de_call G_l_all (hr.mono (by omega)) gu (by rfl) T.m_l_all T.F_l_all.kp T.d_l_all (da_cons (dv 1) da_nil)) da_nil)) de_int (nomark _))
      (dss_one (ds_ret (dv 1)))
      dss_nil)
    (dss_cons (ds_set (i := 6) sc_l_needless.nd rfl (by first | exact Or.inl rfl | exact Or.inr rfl) (de_lstF (da_cons (dv 1) (da_cons (de_tup (da_cons de_str (da_cons (de_tup (da_cons (dv 1) da_nil)) da_nil))) (da_cons (de_tup (da_cons de_str (da_cons (de_tup (da_cons (dv 1) da_nil)) da_nil))) (da_cons (de_tup (da_cons de_str (da_cons (de_tup (da_cons (de_tup (da_cons de_str da_nil)) (da_cons (dv 1) da_nil))) da_nil))) da_nil))))))
    (dss_cons (ds_set (i := 6) sc_l_needless.nd rfl (by first | exact Or.inl rfl | exact Or.inr rfl) (de_op od_addF (dv 6) (de_lstF (da_cons (de_tup (da_cons de_str (da_cons (de_tup (da_cons (dv 1) (da_cons (de_tup (da_cons de_str (da_cons (de_tup da_nil) da_nil))) da_nil))) da_nil))) (da_cons (de_tup (da_cons de_str (da_cons (de_tup (da_cons (dv 1) (da_cons (de_tup (da_cons de_str (da_cons (de_tup da_nil) da_nil))) da_nil))) da_nil))) da_nil)))))
    (dss_cons (ds_set (i := 6) sc_l_needless.nd rfl (by first | exact Or.inl rfl | exact Or.inr rfl) (de_op od_addF (dv 6) (de_lstF (da_cons (de_tup (da_cons de_str (da_cons (de_tup (da_cons (dv 1) (da_cons (dv 1) da_nil))) da_nil))) da_nil))))
    (dss_cons (ds_set (i := 6) sc_l_needless.nd rfl (by first | exact Or.inl rfl | exact Or.inr rfl) (de_op od_addF (dv 6) (de_lstF (da_cons (de_tup (da_cons de_str (da_cons (dv 1) da_nil))) (da_cons (de_tup (da_cons de_str (da_cons (de_tup (da_cons de_str (da_cons (dv 1) da_nil))) da_nil))) (da_cons (de_tup (da_cons de_str (da_cons (de_tup (da_cons (de_tup (da_cons de_str (da_cons (de_tup (da_cons de_str da_nil)) da_nil))) (da_cons (dv 1) da_nil))) da_nil))) da_nil))))))
    (dss_cons (ds_set (i := 6) sc_l_needless.nd rfl (by first | exact Or.inl rfl | exact Or.inr rfl) (de_op od_addF (dv 6) (de_lstF (da_cons (de_tup (da_cons de_str (da_cons (de_tup (da_cons (dv 1) (da_cons (de_tup (da_cons de_str (da_cons (de_tup da_nil) da_nil))) da_nil))) da_nil))) (da_cons (de_tup (da_cons de_str (da_cons (de_tup (da_cons (dv 1) (da_cons (de_tup (da_cons de_str (da_cons (de_tup (da_cons (dv 1) (da_cons (de_tup (da_cons de_str da_nil)) da_nil))) da_nil))) da_nil))) da_nil))) da_nil)))))
    (dss_one (ds_ret (de_ix (ixD_any hu2) (dv 6) (dv 3))))))))))))))

/-! law -/
def t_law : DTS := (dSeq (dAsg (dCall sp_l_feed (dCons (dVar 0) dNil)) (dGN 1))
    (dSeq (dAsg (dCall sp_l_names (dCons (dVar 1) (dCons (dOp dAddF (dC (.int 1)) (dCall sp_l_draw (dCons (dVar 1) (dCons (dC (.int 3)) dNil)))) dNil))) (dGN 2))
    (dSeq (dAsg (dCall sp_l_names (dCons (dVar 1) (dCons (dCall sp_l_draw (dCons (dVar 1) (dCons (dC (.int 3)) dNil))) dNil))) (dGN 3))
    (dSeq (dAsg (dCall (sp_l_pattern 4) (dCons (dVar 1) (dCons (dVar 2) (dCons (dVar 3) (dCons (dLst (dCons (dOp dAddF (dC (.int 1)) (dCall sp_l_draw (dCons (dVar 1) (dCons (dC (.int 8)) dNil)))) dNil)) (dCons (dC (.int 4)) dNil)))))) (dGN 4))
    (dSeq (dFor (dRng1 (dCons (dCall sp_l_draw (dCons (dVar 1) (dCons (dC (.int 4)) dNil))) dNil)) (dGN 5)
      (dAsg (dCall (sp_l_needless 5) (dCons (dVar 1) (dCons (dVar 4) (dCons (dC (.int 0)) dNil)))) (dGN 4)))
    (dSeq (dIf (dNot (dTest (dCall sp_is_pattern (dCons (dVar 4) dNil))))
      (dRet (dC (.bl true)))
      dNx)
    (dSeq (dAsg (dCall (sp_plainly 9) (dCons (dVar 4) dNil)) (dGN 6))
    (dSeq (dIf (dOr (dNot (dTest (dCall sp_is_pattern (dCons (dVar 6) dNil)))) (dOr (dTest (dOp rGt (dCB cLen (dCons (dCall (sp_l_all 50) (dCons (dVar 6) dNil)) dNil)) (dCB cLen (dCons (dCall (sp_l_all 50) (dCons (dVar 4) dNil)) dNil)))) (dNot (dTest (dCall sp_l_plain (dCons (dVar 6) dNil))))))
      (dRet (dC (.bl false)))
      dNx)
    (dSeq (dAsg (dCall (sp_plainly 9) (dCons (dVar 6) dNil)) (dGN 7))
    (dSeq (dIf (dOr (dNot (dTest (dCall sp_is_pattern (dCons (dVar 7) dNil)))) (dOr (dTest (dOp rGt (dCB cLen (dCons (dCall (sp_l_all 50) (dCons (dVar 7) dNil)) dNil)) (dCB cLen (dCons (dCall (sp_l_all 50) (dCons (dVar 6) dNil)) dNil)))) (dNot (dTest (dCall sp_l_plain (dCons (dVar 7) dNil))))))
      (dRet (dC (.bl false)))
      dNx)
    (dSeq (dFor (dRng1 (dCons (dOp dAddF (dC (.int 8)) (dCall sp_l_draw (dCons (dVar 1) (dCons (dC (.int 33)) dNil)))) dNil)) (dGN 5)
      (dSeq (dAsg (dCall sp_l_line (dCons (dVar 1) (dCons (dOp dIxS (dLstF (dCons (dVar 4) (dCons (dVar 6) (dCons (dVar 7) dNil)))) (dOp rMod (dVar 5) (dC (.int 3)))) (dCons (dVar 2) (dCons (dVar 3) dNil))))) (dGN 8))
    (dSeq (dAsg (dCall sp_l_right (dCons (dVar 4) (dCons (dVar 8) dNil))) (dGN 9))
    (dIf (dOr (dTest (dOp (dEq true) (dCall sp_l_right (dCons (dVar 6) (dCons (dVar 8) dNil))) (dVar 9))) (dTest (dOp (dEq true) (dCall sp_l_right (dCons (dVar 7) (dCons (dVar 8) dNil))) (dVar 9))))
      (dRet (dC (.bl false)))
      dNx))))
    (dRet (dC (.bl true))))))))))))))
abbrev N_law : List Str := ["_law_script", "_law_feed_here", "_law_words", "_law_marks", "_law_pattern_here", "_law_k", "_law_found", "_law_again", "_law_line_here", "_law_due"]
theorem ok_law {P : Program} {w : World} {K : PySem.W.Frag} {mg : Str → Option Value} {base : Heap} (T : Txt w K mg) (G_l_feed : DFn P w K mg base 1 T.a_l_feed T.f_l_feed ["_law_script"] sp_l_feed) (G_l_draw : DFn P w K mg base 1 T.a_l_draw T.f_l_draw ["_law_feed_here", "_law_many"] sp_l_draw) (G_l_names : DFn P w K mg base 2 T.a_l_names T.f_l_names ["_law_feed_here", "_law_many"] sp_l_names) (G_is_pattern : DFn P w K mg base 5 T.a_is_pattern T.f_is_pattern ["thing"] sp_is_pattern) (G_l_pattern : DFn P w K mg base 7 T.a_l_pattern T.f_l_pattern ["_law_feed_here", "_law_words", "_law_marks", "_law_bag", "_law_deep"] (sp_l_pattern 4)) (G_plainly : DFn P w K mg base 11 T.a_plainly T.f_plainly ["pattern"] (sp_plainly 9)) (G_l_line : DFn P w K mg base 12 T.a_l_line T.f_l_line ["_law_feed_here", "_law_pattern_here", "_law_words", "_law_marks"] sp_l_line) (G_l_right : DFn P w K mg base 22 T.a_l_right T.f_l_right ["_law_pattern_here", "_law_line_here"] sp_l_right) (G_l_all : DFn P w K mg base 51 T.a_l_all T.f_l_all ["_law_pattern_here"] (sp_l_all 50)) (G_l_plain : DFn P w K mg base 52 T.a_l_plain T.f_l_plain ["_law_pattern_here"] sp_l_plain) (G_l_needless : DFn P w K mg base 57 T.a_l_needless T.f_l_needless ["_law_feed_here", "_law_pattern_here", "_law_deep"] (sp_l_needless 5)) {sp : DSp}
    (mono : SpMono sp) (len : ∀ ds S Q E, sp ds S Q E → ds.length = 1)
    (h : ∀ ds S Q E, sp ds S Q E → t_law (dEnd Q E) (dstart ["_law_script", "_law_feed_here", "_law_words", "_law_marks", "_law_pattern_here", "_law_k", "_law_found", "_law_again", "_law_line_here", "_law_due"] ds) S) : DFn P w K mg base 58 T.a_law T.f_law ["_law_script"] sp := by
  refine dfn_of2 (t := t_law) T.F_law sc_law mono len (fun cdv A outer s H E hr gu => ?_) h
  have hu1 := hu_of hr
  have hu2 := hu_big hr
  exact (dss_cons (ds_set (i := 1) sc_law.nd rfl (by first | exact Or.inl rfl | exact Or.inr rfl) (de_call G_l_feed (hr.mono (by decide)) gu (by rfl) T.m_l_feed T.F_l_feed.kp T.d_l_feed (da_cons (dv 0) da_nil)))
    (dss_cons (ds_set (i := 2) sc_law.nd rfl (by first | exact Or.inl rfl | exact Or.inr rfl) (de_call G_l_names (hr.mono (by decide)) gu (by rfl) T.m_l_names T.F_l_names.kp T.d_l_names (da_cons (dv 1) (da_cons (de_op od_addF de_int (de_call G_l_draw (hr.mono (by decide)) gu (by rfl) T.m_l_draw T.F_l_draw.kp T.d_l_draw (da_cons (dv 1) (da_cons de_int da_nil)))) da_nil))))
    (dss_cons (ds_set (i := 3) sc_law.nd rfl (by first | exact Or.inl rfl | exact Or.inr rfl) (de_call G_l_names (hr.mono (by decide)) gu (by rfl) T.m_l_names T.F_l_names.kp T.d_l_names (da_cons (dv 1) (da_cons (de_call G_l_draw (hr.mono (by decide)) gu (by rfl) T.m_l_draw T.F_l_draw.kp T.d_l_draw (da_cons (dv 1) (da_cons de_int da_nil))) da_nil))))
    (dss_cons (ds_set (i := 4) sc_law.nd rfl (by first | exact Or.inl rfl | exact Or.inr rfl) (de_call G_l_pattern (hr.mono (by decide)) gu (by rfl) T.m_l_pattern T.F_l_pattern.kp T.d_l_pattern (da_cons (dv 1) (da_cons (dv 2) (da_cons (dv 3) (da_cons (de_lst (da_cons (de_op od_addF de_int (de_call G_l_draw (hr.mono (by decide)) gu (by rfl) T.m_l_draw T.F_l_draw.kp T.d_l_draw (da_cons (dv 1) (da_cons de_int da_nil)))) da_nil)) (da_cons de_int da_nil)))))))
    (dss_cons (ds_for (passes_of rfl) rfl (di_rng1 (by rfl) T.b_range (da_cons (de_call G_l_draw (hr.mono (by decide)) gu (by rfl) T.m_l_draw T.F_l_draw.kp T.d_l_draw (da_cons (dv 1) (da_cons de_int da_nil))) da_nil)) (dg_name (i := 5) sc_law.nd rfl (by first | exact Or.inl rfl | exact Or.inr rfl))
      (dss_one (ds_set (i := 4) sc_law.nd rfl (by first | exact Or.inl rfl | exact Or.inr rfl) (de_call G_l_needless (hr.mono (by decide)) gu (by rfl) T.m_l_needless T.F_l_needless.kp T.d_l_needless (da_cons (dv 1) (da_cons (dv 4) (da_cons de_int da_nil)))))))
    (dss_cons (ds_if (dt_not (dt_val (de_call G_is_pattern (hr.mono (by decide)) gu (by rfl) T.m_is_pattern T.F_is_pattern.kp T.d_is_pattern (da_cons (dv 4) da_nil))))
      (dss_one (ds_ret de_bl))
      dss_nil)
    (dss_cons (ds_set (i := 6) sc_law.nd rfl (by first | exact Or.inl rfl | exact Or.inr rfl) (de_call G_plainly (hr.mono (by decide)) gu (by rfl) T.m_plainly T.F_plainly.kp T.d_plainly (da_cons (dv 4) da_nil)))
    (dss_cons (ds_if (DWt.pt (dw_or (dt_not (dt_val (de_call G_is_pattern (hr.mono (by decide)) gu (by rfl) T.m_is_pattern T.F_is_pattern.kp T.d_is_pattern (da_cons (dv 6) da_nil)))) (dw_or (dt_cmp od_gt (de_callB cd_len (by rfl) T.b_len (by decide +kernel) (da_cons (de_call G_l_all (hr.mono (by decide)) gu (by rfl) T.m_l_all T.F_l_all.kp T.d_l_all (da_cons (dv 6) da_nil)) da_nil)) (de_callB cd_len (by rfl) T.b_len (by decide +kernel) (da_cons (de_call G_l_all (hr.mono (by decide)) gu (by rfl) T.m_l_all T.F_l_all.kp T.d_l_all (da_cons (dv 4) da_nil)) da_nil)) (nomark _)) (dw_or1 (dt_not (dt_val (de_call G_l_plain (hr.mono (by decide)) gu (by rfl) T.m_l_plain T.F_l_plain.kp T.d_l_plain (da_cons (dv 6) da_nil))))))))
      (dss_one (ds_ret de_bl))
      dss_nil)
    (dss_cons (ds_set (i := 7) sc_law.nd rfl (by first | exact Or.inl rfl | exact Or.inr rfl) (de_call G_plainly (hr.mono (by decide)) gu (by rfl) T.m_plainly T.F_plainly.kp T.d_plainly (da_cons (dv 6) da_nil)))
    (dss_cons (ds_if (DWt.pt (dw_or (dt_not (dt_val (de_call G_is_pattern (hr.mono (by decide)) gu (by rfl) T.m_is_pattern T.F_is_pattern.kp T.d_is_pattern (da_cons (dv 7) da_nil)))) (dw_or (dt_cmp od_gt (de_callB cd_len (by rfl) T.b_len (by decide +kernel) (da_cons (de_call G_l_all (hr.mono (by decide)) gu (by rfl) T.m_l_all T.F_l_all.kp T.d_l_all (da_cons (dv 7) da_nil)) da_nil)) (de_callB cd_len (by rfl) T.b_len (by decide +kernel) (da_cons (de_call G_l_all (hr.mono (by decide)) gu (by rfl) T.m_l_all T.F_l_all.kp T.d_l_all (da_cons (dv 6) da_nil)) da_nil)) (nomark _)) (dw_or1 (dt_not (dt_val (de_call G_l_plain (hr.mono (by decide)) gu (by rfl) T.m_l_plain T.F_l_plain.kp T.d_l_plain (da_cons (dv 7) da_nil))))))))
      (dss_one (ds_ret de_bl))
      dss_nil)
    (dss_cons (ds_for (passes_of rfl) rfl (di_rng1 (by rfl) T.b_range (da_cons (de_op od_addF de_int (de_call G_l_draw (hr.mono (by decide)) gu (by rfl) T.m_l_draw T.F_l_draw.kp T.d_l_draw (da_cons (dv 1) (da_cons de_int da_nil)))) da_nil)) (dg_name (i := 5) sc_law.nd rfl (by first | exact Or.inl rfl | exact Or.inr rfl))
      (dss_cons (ds_set (i := 8) sc_law.nd rfl (by first | exact Or.inl rfl | exact Or.inr rfl) (de_call G_l_line (hr.mono (by decide)) gu (by rfl) T.m_l_line T.F_l_line.kp T.d_l_line (da_cons (dv 1) (da_cons (de_ix (ixD_any hu2) (de_lstF (da_cons (dv 4) (da_cons (dv 6) (da_cons (dv 7) da_nil)))) (de_op od_mod (dv 5) de_int)) (da_cons (dv 2) (da_cons (dv 3) da_nil))))))
    (dss_cons (ds_set (i := 9) sc_law.nd rfl (by first | exact Or.inl rfl | exact Or.inr rfl) (de_call G_l_right (hr.mono (by decide)) gu (by rfl) T.m_l_right T.F_l_right.kp T.d_l_right (da_cons (dv 4) (da_cons (dv 8) da_nil))))
    (dss_one (ds_if (DWt.pt (dw_or (dt_cmp (od_ne hr.units) (de_call G_l_right (hr.mono (by decide)) gu (by rfl) T.m_l_right T.F_l_right.kp T.d_l_right (da_cons (dv 6) (da_cons (dv 8) da_nil))) (dv 9) (nomark _)) (dw_or1 (dt_cmp (od_ne hr.units) (de_call G_l_right (hr.mono (by decide)) gu (by rfl) T.m_l_right T.F_l_right.kp T.d_l_right (da_cons (dv 7) (da_cons (dv 8) da_nil))) (dv 9) (nomark _)))))
      (dss_one (ds_ret de_bl))
      dss_nil)))))
    (dss_one (ds_ret de_bl)))))))))))))
end K64X
set_option maxRecDepth 100000
set_option maxHeartbeats 4000000
namespace K64X
open PySem PySem.Spec L2
open L64
open L63 hiding N_l_ends N_l_gone N_l_line N_l_right N_law r_l_ends r_l_gone r_l_line r_l_right r_law sp_l_ends sp_l_ends_mono sp_l_gone sp_l_gone_mono sp_l_line sp_l_line_mono sp_l_right sp_l_right_mono sp_law sp_law_mono t_l_ends t_l_gone t_l_line t_l_right t_law
open Rm
open Rc hiding N_is_pattern N_parts_right r_is_pattern r_parts_right sp_is_pattern sp_is_pattern_mono sp_parts_right sp_parts_right_mono t_is_pattern t_parts_right
open Rq
open Sh hiding N_l_feed N_l_leaf N_l_names N_l_pattern deeps_le deeps_mem r_l_feed r_l_leaf r_l_names r_l_pattern sp_l_leaf sp_l_leaf_mono sp_l_names sp_l_names_mono sp_l_pattern sp_l_pattern_mono t_l_feed t_l_leaf t_l_names t_l_pattern
open Dt hiding nkeys pl pls sp_l_feed sp_l_feed_mono toPs_map

section
theorem all_go {P : Program} {w : World} {K : PySem.W.Frag} {mg : Str → Option Value} {base : Heap} (T : Txt w K mg) : DFn P w K mg base 58 T.a_law T.f_law ["_law_script"] sp_law := by
  have G_is_name : DFn P w K mg base 1 T.a_is_name T.f_is_name ["thing"] sp_is_name := ok_is_name T sp_is_name_mono (fun ds S Q E h => by first | (obtain ⟨_, rfl, _⟩ := h; rfl) | (obtain ⟨_, _, rfl, _⟩ := h; rfl) | (obtain ⟨rfl, _⟩ := h; rfl) | (obtain ⟨_, _, _, rfl, _⟩ := h; rfl) | (obtain ⟨_, _, _, _, rfl, _⟩ := h; rfl) | (obtain ⟨_, _, _, _, _, rfl, _⟩ := h; rfl) | (obtain ⟨_, _, _, _, _, _, rfl, _⟩ := h; rfl) | (obtain ⟨_, _, _, _, _, _, _, rfl, _⟩ := h; rfl) | (obtain ⟨_, _, _, _, _, _, _, _, rfl, _⟩ := h; rfl) | (obtain ⟨_, _, _, _, _, _, _, _, _, rfl, _⟩ := h; rfl) | (obtain ⟨_, _, _, _, _, _, _, _, _, _, rfl, _⟩ := h; rfl) | (obtain ⟨_, _, _, _, _, _, _, _, _, _, _, rfl, _⟩ := h; rfl) | (obtain ⟨_, _, _, _, _, _, _, _, _, _, _, _, rfl, _⟩ := h; rfl) | (obtain ⟨_, _, _, _, _, _, _, _, _, _, _, _, _, rfl, _⟩ := h; rfl) | (obtain ⟨_, _, _, _, _, _, _, _, _, _, _, _, _, _, rfl, _⟩ := h; rfl) | (obtain ⟨_, _, _, _, _, _, _, _, _, _, _, _, _, _, _, rfl, _⟩ := h; rfl) | (obtain ⟨_, _, _, _, _, _, _, _, _, _, _, _, _, _, _, _, rfl, _⟩ := h; rfl) | (obtain ⟨_, _, _, _, _, _, _, _, _, _, _, _, _, _, _, _, _, rfl, _⟩ := h; rfl) | (obtain ⟨_, rfl⟩ := h; rfl)) r_is_name
  have G_is_one_of : DFn P w K mg base 1 T.a_is_one_of T.f_is_one_of ["thing", "some"] sp_is_one_of := ok_is_one_of T sp_is_one_of_mono (fun ds S Q E h => by first | (obtain ⟨_, _, _, rfl, _⟩ := h; rfl) | (obtain ⟨_, _, _, _, rfl, _⟩ := h; rfl) | (obtain ⟨rfl, _⟩ := h; rfl) | (obtain ⟨_, rfl, _⟩ := h; rfl) | (obtain ⟨_, _, rfl, _⟩ := h; rfl) | (obtain ⟨_, _, _, _, _, rfl, _⟩ := h; rfl) | (obtain ⟨_, _, _, _, _, _, rfl, _⟩ := h; rfl) | (obtain ⟨_, _, _, _, _, _, _, rfl, _⟩ := h; rfl) | (obtain ⟨_, _, _, _, _, _, _, _, rfl, _⟩ := h; rfl) | (obtain ⟨_, _, _, _, _, _, _, _, _, rfl, _⟩ := h; rfl) | (obtain ⟨_, _, _, _, _, _, _, _, _, _, rfl, _⟩ := h; rfl) | (obtain ⟨_, _, _, _, _, _, _, _, _, _, _, rfl, _⟩ := h; rfl) | (obtain ⟨_, _, _, _, _, _, _, _, _, _, _, _, rfl, _⟩ := h; rfl) | (obtain ⟨_, _, _, _, _, _, _, _, _, _, _, _, _, rfl, _⟩ := h; rfl) | (obtain ⟨_, _, _, _, _, _, _, _, _, _, _, _, _, _, rfl, _⟩ := h; rfl) | (obtain ⟨_, _, _, _, _, _, _, _, _, _, _, _, _, _, _, rfl, _⟩ := h; rfl) | (obtain ⟨_, _, _, _, _, _, _, _, _, _, _, _, _, _, _, _, rfl, _⟩ := h; rfl) | (obtain ⟨_, _, _, _, _, _, _, _, _, _, _, _, _, _, _, _, _, rfl, _⟩ := h; rfl) | (obtain ⟨_, rfl⟩ := h; rfl)) r_is_one_of
  have G_plain_then : DFn P w K mg base 1 T.a_plain_then T.f_plain_then ["parts"] sp_plain_then := ok_plain_then T sp_plain_then_mono (fun ds S Q E h => by first | (obtain ⟨_, rfl, _⟩ := h; rfl) | (obtain ⟨rfl, _⟩ := h; rfl) | (obtain ⟨_, _, _, rfl, _⟩ := h; rfl) | (obtain ⟨_, _, rfl, _⟩ := h; rfl) | (obtain ⟨_, _, _, _, rfl, _⟩ := h; rfl) | (obtain ⟨_, _, _, _, _, rfl, _⟩ := h; rfl) | (obtain ⟨_, _, _, _, _, _, rfl, _⟩ := h; rfl) | (obtain ⟨_, _, _, _, _, _, _, rfl, _⟩ := h; rfl) | (obtain ⟨_, _, _, _, _, _, _, _, rfl, _⟩ := h; rfl) | (obtain ⟨_, rfl⟩ := h; rfl)) r_plain_then
  have G_plain_either : DFn P w K mg base 1 T.a_plain_either T.f_plain_either ["parts"] sp_plain_either := ok_plain_either T sp_plain_either_mono (fun ds S Q E h => by first | (obtain ⟨_, rfl, _⟩ := h; rfl) | (obtain ⟨rfl, _⟩ := h; rfl) | (obtain ⟨_, _, _, rfl, _⟩ := h; rfl) | (obtain ⟨_, _, rfl, _⟩ := h; rfl) | (obtain ⟨_, _, _, _, rfl, _⟩ := h; rfl) | (obtain ⟨_, _, _, _, _, rfl, _⟩ := h; rfl) | (obtain ⟨_, _, _, _, _, _, rfl, _⟩ := h; rfl) | (obtain ⟨_, _, _, _, _, _, _, rfl, _⟩ := h; rfl) | (obtain ⟨_, _, _, _, _, _, _, _, rfl, _⟩ := h; rfl) | (obtain ⟨_, rfl⟩ := h; rfl)) r_plain_either
  have G_l_feed : DFn P w K mg base 1 T.a_l_feed T.f_l_feed ["_law_script"] sp_l_feed := ok_l_feed T sp_l_feed_mono (fun ds S Q E h => by first | (obtain ⟨_, rfl, _⟩ := h; rfl) | (obtain ⟨rfl, _⟩ := h; rfl) | (obtain ⟨_, _, _, rfl, _⟩ := h; rfl) | (obtain ⟨_, _, rfl, _⟩ := h; rfl) | (obtain ⟨_, _, _, _, rfl, _⟩ := h; rfl) | (obtain ⟨_, _, _, _, _, rfl, _⟩ := h; rfl) | (obtain ⟨_, _, _, _, _, _, rfl, _⟩ := h; rfl) | (obtain ⟨_, _, _, _, _, _, _, rfl, _⟩ := h; rfl) | (obtain ⟨_, _, _, _, _, _, _, _, rfl, _⟩ := h; rfl) | (obtain ⟨_, rfl⟩ := h; rfl)) r_l_feed
  have G_l_draw : DFn P w K mg base 1 T.a_l_draw T.f_l_draw ["_law_feed_here", "_law_many"] sp_l_draw := ok_l_draw T sp_l_draw_mono (fun ds S Q E h => by first | (obtain ⟨_, _, _, _, rfl, _⟩ := h; rfl) | (obtain ⟨rfl, _⟩ := h; rfl) | (obtain ⟨_, _, _, rfl, _⟩ := h; rfl) | (obtain ⟨_, _, rfl, _⟩ := h; rfl) | (obtain ⟨_, _, _, _, _, rfl, _⟩ := h; rfl) | (obtain ⟨_, rfl, _⟩ := h; rfl) | (obtain ⟨_, _, _, _, _, _, rfl, _⟩ := h; rfl) | (obtain ⟨_, _, _, _, _, _, _, rfl, _⟩ := h; rfl) | (obtain ⟨_, _, _, _, _, _, _, _, rfl, _⟩ := h; rfl) | (obtain ⟨_, rfl⟩ := h; rfl)) r_l_draw
  have G_l_join : DFn P w K mg base 1 T.a_l_join T.f_l_join ["_law_one", "_law_other"] sp_l_join := ok_l_join T sp_l_join_mono (fun ds S Q E h => by first | (obtain ⟨_, _, _, rfl, _⟩ := h; rfl) | (obtain ⟨rfl, _⟩ := h; rfl) | (obtain ⟨_, _, rfl, _⟩ := h; rfl) | (obtain ⟨_, _, _, _, rfl, _⟩ := h; rfl) | (obtain ⟨_, _, _, _, _, rfl, _⟩ := h; rfl) | (obtain ⟨_, rfl, _⟩ := h; rfl) | (obtain ⟨_, _, _, _, _, _, rfl, _⟩ := h; rfl) | (obtain ⟨_, _, _, _, _, _, _, rfl, _⟩ := h; rfl) | (obtain ⟨_, _, _, _, _, _, _, _, rfl, _⟩ := h; rfl) | (obtain ⟨_, rfl⟩ := h; rfl)) r_l_join
  have G_is_word : DFn P w K mg base 2 T.a_is_word T.f_is_word ["thing"] sp_is_word := ok_is_word T (G_is_name := G_is_name) sp_is_word_mono (fun ds S Q E h => by first | (obtain ⟨_, rfl, _⟩ := h; rfl) | (obtain ⟨_, _, rfl, _⟩ := h; rfl) | (obtain ⟨rfl, _⟩ := h; rfl) | (obtain ⟨_, _, _, rfl, _⟩ := h; rfl) | (obtain ⟨_, _, _, _, rfl, _⟩ := h; rfl) | (obtain ⟨_, _, _, _, _, rfl, _⟩ := h; rfl) | (obtain ⟨_, _, _, _, _, _, rfl, _⟩ := h; rfl) | (obtain ⟨_, _, _, _, _, _, _, rfl, _⟩ := h; rfl) | (obtain ⟨_, _, _, _, _, _, _, _, rfl, _⟩ := h; rfl) | (obtain ⟨_, _, _, _, _, _, _, _, _, rfl, _⟩ := h; rfl) | (obtain ⟨_, _, _, _, _, _, _, _, _, _, rfl, _⟩ := h; rfl) | (obtain ⟨_, _, _, _, _, _, _, _, _, _, _, rfl, _⟩ := h; rfl) | (obtain ⟨_, _, _, _, _, _, _, _, _, _, _, _, rfl, _⟩ := h; rfl) | (obtain ⟨_, _, _, _, _, _, _, _, _, _, _, _, _, rfl, _⟩ := h; rfl) | (obtain ⟨_, _, _, _, _, _, _, _, _, _, _, _, _, _, rfl, _⟩ := h; rfl) | (obtain ⟨_, _, _, _, _, _, _, _, _, _, _, _, _, _, _, rfl, _⟩ := h; rfl) | (obtain ⟨_, _, _, _, _, _, _, _, _, _, _, _, _, _, _, _, rfl, _⟩ := h; rfl) | (obtain ⟨_, _, _, _, _, _, _, _, _, _, _, _, _, _, _, _, _, rfl, _⟩ := h; rfl) | (obtain ⟨_, rfl⟩ := h; rfl)) r_is_word
  have G_l_names : DFn P w K mg base 2 T.a_l_names T.f_l_names ["_law_feed_here", "_law_many"] sp_l_names := ok_l_names T (G_l_draw := G_l_draw) sp_l_names_mono (fun ds S Q E h => by first | (obtain ⟨_, _, _, _, rfl, _⟩ := h; rfl) | (obtain ⟨rfl, _⟩ := h; rfl) | (obtain ⟨_, _, _, rfl, _⟩ := h; rfl) | (obtain ⟨_, _, rfl, _⟩ := h; rfl) | (obtain ⟨_, _, _, _, _, rfl, _⟩ := h; rfl) | (obtain ⟨_, rfl, _⟩ := h; rfl) | (obtain ⟨_, _, _, _, _, _, rfl, _⟩ := h; rfl) | (obtain ⟨_, _, _, _, _, _, _, rfl, _⟩ := h; rfl) | (obtain ⟨_, _, _, _, _, _, _, _, rfl, _⟩ := h; rfl) | (obtain ⟨_, rfl⟩ := h; rfl)) r_l_names
  have G_l_leaf : DFn P w K mg base 2 T.a_l_leaf T.f_l_leaf ["_law_feed_here", "_law_words", "_law_marks"] sp_l_leaf := ok_l_leaf T (G_l_draw := G_l_draw) sp_l_leaf_mono (fun ds S Q E h => by first | (obtain ⟨_, _, _, _, _, _, rfl, _⟩ := h; rfl) | (obtain ⟨_, _, _, _, _, rfl, _⟩ := h; rfl) | (obtain ⟨_, _, rfl, _⟩ := h; rfl) | (obtain ⟨rfl, _⟩ := h; rfl) | (obtain ⟨_, rfl, _⟩ := h; rfl) | (obtain ⟨_, _, _, rfl, _⟩ := h; rfl) | (obtain ⟨_, _, _, _, rfl, _⟩ := h; rfl) | (obtain ⟨_, _, _, _, _, _, _, rfl, _⟩ := h; rfl) | (obtain ⟨_, _, _, _, _, _, _, _, rfl, _⟩ := h; rfl) | (obtain ⟨_, _, _, _, _, _, _, _, _, rfl, _⟩ := h; rfl) | (obtain ⟨_, _, _, _, _, _, _, _, _, _, rfl, _⟩ := h; rfl) | (obtain ⟨_, _, _, _, _, _, _, _, _, _, _, rfl, _⟩ := h; rfl) | (obtain ⟨_, _, _, _, _, _, _, _, _, _, _, _, rfl, _⟩ := h; rfl) | (obtain ⟨_, _, _, _, _, _, _, _, _, _, _, _, _, rfl, _⟩ := h; rfl) | (obtain ⟨_, _, _, _, _, _, _, _, _, _, _, _, _, _, rfl, _⟩ := h; rfl) | (obtain ⟨_, _, _, _, _, _, _, _, _, _, _, _, _, _, _, rfl, _⟩ := h; rfl) | (obtain ⟨_, _, _, _, _, _, _, _, _, _, _, _, _, _, _, _, rfl, _⟩ := h; rfl) | (obtain ⟨_, _, _, _, _, _, _, _, _, _, _, _, _, _, _, _, _, rfl, _⟩ := h; rfl) | (obtain ⟨_, rfl⟩ := h; rfl)) r_l_leaf
  have G_is_leaf : DFn P w K mg base 3 T.a_is_leaf T.f_is_leaf ["thing"] sp_is_leaf := ok_is_leaf T (G_is_name := G_is_name) (G_is_one_of := G_is_one_of) (G_is_word := G_is_word) sp_is_leaf_mono (fun ds S Q E h => by first | (obtain ⟨_, rfl, _⟩ := h; rfl) | (obtain ⟨_, _, rfl, _⟩ := h; rfl) | (obtain ⟨rfl, _⟩ := h; rfl) | (obtain ⟨_, _, _, rfl, _⟩ := h; rfl) | (obtain ⟨_, _, _, _, rfl, _⟩ := h; rfl) | (obtain ⟨_, _, _, _, _, rfl, _⟩ := h; rfl) | (obtain ⟨_, _, _, _, _, _, rfl, _⟩ := h; rfl) | (obtain ⟨_, _, _, _, _, _, _, rfl, _⟩ := h; rfl) | (obtain ⟨_, _, _, _, _, _, _, _, rfl, _⟩ := h; rfl) | (obtain ⟨_, _, _, _, _, _, _, _, _, rfl, _⟩ := h; rfl) | (obtain ⟨_, _, _, _, _, _, _, _, _, _, rfl, _⟩ := h; rfl) | (obtain ⟨_, _, _, _, _, _, _, _, _, _, _, rfl, _⟩ := h; rfl) | (obtain ⟨_, _, _, _, _, _, _, _, _, _, _, _, rfl, _⟩ := h; rfl) | (obtain ⟨_, _, _, _, _, _, _, _, _, _, _, _, _, rfl, _⟩ := h; rfl) | (obtain ⟨_, _, _, _, _, _, _, _, _, _, _, _, _, _, rfl, _⟩ := h; rfl) | (obtain ⟨_, _, _, _, _, _, _, _, _, _, _, _, _, _, _, rfl, _⟩ := h; rfl) | (obtain ⟨_, _, _, _, _, _, _, _, _, _, _, _, _, _, _, _, rfl, _⟩ := h; rfl) | (obtain ⟨_, _, _, _, _, _, _, _, _, _, _, _, _, _, _, _, _, rfl, _⟩ := h; rfl) | (obtain ⟨_, rfl⟩ := h; rfl)) r_is_leaf
  have G_parts_right : DFn P w K mg base 4 T.a_parts_right T.f_parts_right ["thing"] sp_parts_right := ok_parts_right T (G_is_one_of := G_is_one_of) (G_is_leaf := G_is_leaf) sp_parts_right_mono (fun ds S Q E h => by first | (obtain ⟨_, rfl, _⟩ := h; rfl) | (obtain ⟨rfl, _⟩ := h; rfl) | (obtain ⟨_, _, _, rfl, _⟩ := h; rfl) | (obtain ⟨_, _, rfl, _⟩ := h; rfl) | (obtain ⟨_, _, _, _, rfl, _⟩ := h; rfl) | (obtain ⟨_, _, _, _, _, rfl, _⟩ := h; rfl) | (obtain ⟨_, _, _, _, _, _, rfl, _⟩ := h; rfl) | (obtain ⟨_, _, _, _, _, _, _, rfl, _⟩ := h; rfl) | (obtain ⟨_, _, _, _, _, _, _, _, rfl, _⟩ := h; rfl) | (obtain ⟨_, rfl⟩ := h; rfl)) r_parts_right
  have G_is_pattern : DFn P w K mg base 5 T.a_is_pattern T.f_is_pattern ["thing"] sp_is_pattern := ok_is_pattern T (G_parts_right := G_parts_right) sp_is_pattern_mono (fun ds S Q E h => by first | (obtain ⟨_, rfl, _⟩ := h; rfl) | (obtain ⟨_, _, rfl, _⟩ := h; rfl) | (obtain ⟨rfl, _⟩ := h; rfl) | (obtain ⟨_, _, _, rfl, _⟩ := h; rfl) | (obtain ⟨_, _, _, _, rfl, _⟩ := h; rfl) | (obtain ⟨_, _, _, _, _, rfl, _⟩ := h; rfl) | (obtain ⟨_, _, _, _, _, _, rfl, _⟩ := h; rfl) | (obtain ⟨_, _, _, _, _, _, _, rfl, _⟩ := h; rfl) | (obtain ⟨_, _, _, _, _, _, _, _, rfl, _⟩ := h; rfl) | (obtain ⟨_, _, _, _, _, _, _, _, _, rfl, _⟩ := h; rfl) | (obtain ⟨_, _, _, _, _, _, _, _, _, _, rfl, _⟩ := h; rfl) | (obtain ⟨_, _, _, _, _, _, _, _, _, _, _, rfl, _⟩ := h; rfl) | (obtain ⟨_, _, _, _, _, _, _, _, _, _, _, _, rfl, _⟩ := h; rfl) | (obtain ⟨_, _, _, _, _, _, _, _, _, _, _, _, _, rfl, _⟩ := h; rfl) | (obtain ⟨_, _, _, _, _, _, _, _, _, _, _, _, _, _, rfl, _⟩ := h; rfl) | (obtain ⟨_, _, _, _, _, _, _, _, _, _, _, _, _, _, _, rfl, _⟩ := h; rfl) | (obtain ⟨_, _, _, _, _, _, _, _, _, _, _, _, _, _, _, _, rfl, _⟩ := h; rfl) | (obtain ⟨_, _, _, _, _, _, _, _, _, _, _, _, _, _, _, _, _, rfl, _⟩ := h; rfl) | (obtain ⟨_, rfl⟩ := h; rfl)) r_is_pattern
  have R_l_pattern : ∀ n, DFn P w K mg base (2 + n + 1) T.a_l_pattern T.f_l_pattern ["_law_feed_here", "_law_words", "_law_marks", "_law_bag", "_law_deep"] (sp_l_pattern n) := fun n => by
    induction n with
    | zero => exact ok_l_pattern T (G_l_draw := G_l_draw) (G_l_leaf := G_l_leaf) 0 (DFn.never 0) (sp_l_pattern_mono 0) (fun ds S Q E h => by first | (obtain ⟨_, _, _, _, _, _, _, rfl, _⟩ := h; rfl) | (obtain ⟨_, rfl, _⟩ := h; rfl) | (obtain ⟨_, _, _, _, _, _, _, _, rfl, _⟩ := h; rfl) | (obtain ⟨rfl, _⟩ := h; rfl) | (obtain ⟨_, _, rfl, _⟩ := h; rfl) | (obtain ⟨_, _, _, rfl, _⟩ := h; rfl) | (obtain ⟨_, _, _, _, rfl, _⟩ := h; rfl) | (obtain ⟨_, _, _, _, _, rfl, _⟩ := h; rfl) | (obtain ⟨_, _, _, _, _, _, rfl, _⟩ := h; rfl) | (obtain ⟨_, _, _, _, _, _, _, _, _, rfl, _⟩ := h; rfl) | (obtain ⟨_, _, _, _, _, _, _, _, _, _, rfl, _⟩ := h; rfl) | (obtain ⟨_, _, _, _, _, _, _, _, _, _, _, rfl, _⟩ := h; rfl) | (obtain ⟨_, _, _, _, _, _, _, _, _, _, _, _, rfl, _⟩ := h; rfl) | (obtain ⟨_, _, _, _, _, _, _, _, _, _, _, _, _, rfl, _⟩ := h; rfl) | (obtain ⟨_, _, _, _, _, _, _, _, _, _, _, _, _, _, rfl, _⟩ := h; rfl) | (obtain ⟨_, _, _, _, _, _, _, _, _, _, _, _, _, _, _, rfl, _⟩ := h; rfl) | (obtain ⟨_, _, _, _, _, _, _, _, _, _, _, _, _, _, _, _, rfl, _⟩ := h; rfl) | (obtain ⟨_, _, _, _, _, _, _, _, _, _, _, _, _, _, _, _, _, rfl, _⟩ := h; rfl) | (obtain ⟨_, rfl⟩ := h; rfl)) (r_l_pattern 0)
    | succ n ih => exact ok_l_pattern T (G_l_draw := G_l_draw) (G_l_leaf := G_l_leaf) (n + 1) ih (sp_l_pattern_mono (n + 1)) (fun ds S Q E h => by first | (obtain ⟨_, _, _, _, _, _, _, rfl, _⟩ := h; rfl) | (obtain ⟨_, rfl, _⟩ := h; rfl) | (obtain ⟨_, _, _, _, _, _, _, _, rfl, _⟩ := h; rfl) | (obtain ⟨rfl, _⟩ := h; rfl) | (obtain ⟨_, _, rfl, _⟩ := h; rfl) | (obtain ⟨_, _, _, rfl, _⟩ := h; rfl) | (obtain ⟨_, _, _, _, rfl, _⟩ := h; rfl) | (obtain ⟨_, _, _, _, _, rfl, _⟩ := h; rfl) | (obtain ⟨_, _, _, _, _, _, rfl, _⟩ := h; rfl) | (obtain ⟨_, _, _, _, _, _, _, _, _, rfl, _⟩ := h; rfl) | (obtain ⟨_, _, _, _, _, _, _, _, _, _, rfl, _⟩ := h; rfl) | (obtain ⟨_, _, _, _, _, _, _, _, _, _, _, rfl, _⟩ := h; rfl) | (obtain ⟨_, _, _, _, _, _, _, _, _, _, _, _, rfl, _⟩ := h; rfl) | (obtain ⟨_, _, _, _, _, _, _, _, _, _, _, _, _, rfl, _⟩ := h; rfl) | (obtain ⟨_, _, _, _, _, _, _, _, _, _, _, _, _, _, rfl, _⟩ := h; rfl) | (obtain ⟨_, _, _, _, _, _, _, _, _, _, _, _, _, _, _, rfl, _⟩ := h; rfl) | (obtain ⟨_, _, _, _, _, _, _, _, _, _, _, _, _, _, _, _, rfl, _⟩ := h; rfl) | (obtain ⟨_, _, _, _, _, _, _, _, _, _, _, _, _, _, _, _, _, rfl, _⟩ := h; rfl) | (obtain ⟨_, rfl⟩ := h; rfl)) (r_l_pattern (n + 1))
  have G_l_pattern := R_l_pattern 4
  have R_plainly : ∀ n, DFn P w K mg base (1 + n + 1) T.a_plainly T.f_plainly ["pattern"] (sp_plainly n) := fun n => by
    induction n with
    | zero => exact ok_plainly T (G_plain_then := G_plain_then) (G_plain_either := G_plain_either) 0 (DFn.never 0) (sp_plainly_mono 0) (fun ds S Q E h => by first | (obtain ⟨_, rfl, _⟩ := h; rfl) | (obtain ⟨rfl, _⟩ := h; rfl) | (obtain ⟨_, _, _, rfl, _⟩ := h; rfl) | (obtain ⟨_, _, rfl, _⟩ := h; rfl) | (obtain ⟨_, _, _, _, rfl, _⟩ := h; rfl) | (obtain ⟨_, _, _, _, _, rfl, _⟩ := h; rfl) | (obtain ⟨_, _, _, _, _, _, rfl, _⟩ := h; rfl) | (obtain ⟨_, _, _, _, _, _, _, rfl, _⟩ := h; rfl) | (obtain ⟨_, _, _, _, _, _, _, _, rfl, _⟩ := h; rfl) | (obtain ⟨_, rfl⟩ := h; rfl)) (r_plainly 0)
    | succ n ih => exact ok_plainly T (G_plain_then := G_plain_then) (G_plain_either := G_plain_either) (n + 1) ih (sp_plainly_mono (n + 1)) (fun ds S Q E h => by first | (obtain ⟨_, rfl, _⟩ := h; rfl) | (obtain ⟨rfl, _⟩ := h; rfl) | (obtain ⟨_, _, _, rfl, _⟩ := h; rfl) | (obtain ⟨_, _, rfl, _⟩ := h; rfl) | (obtain ⟨_, _, _, _, rfl, _⟩ := h; rfl) | (obtain ⟨_, _, _, _, _, rfl, _⟩ := h; rfl) | (obtain ⟨_, _, _, _, _, _, rfl, _⟩ := h; rfl) | (obtain ⟨_, _, _, _, _, _, _, rfl, _⟩ := h; rfl) | (obtain ⟨_, _, _, _, _, _, _, _, rfl, _⟩ := h; rfl) | (obtain ⟨_, rfl⟩ := h; rfl)) (r_plainly (n + 1))
  have G_plainly := R_plainly 9
  have R_l_gone : ∀ n, DFn P w K mg base (1 + n + 1) T.a_l_gone T.f_l_gone ["_law_feed_here", "_law_pattern_here", "_law_words", "_law_marks"] (sp_l_gone n) := fun n => by
    induction n with
    | zero => exact ok_l_gone T (G_l_draw := G_l_draw) (G_l_join := G_l_join) 0 (DFn.never 0) (sp_l_gone_mono 0) (fun ds S Q E h => by first | (obtain ⟨_, _, _, _, _, rfl, _⟩ := h; rfl) | (obtain ⟨_, _, _, _, _, _, rfl, _⟩ := h; rfl) | (obtain ⟨_, _, _, rfl, _⟩ := h; rfl) | (obtain ⟨rfl, _⟩ := h; rfl) | (obtain ⟨_, rfl, _⟩ := h; rfl) | (obtain ⟨_, _, rfl, _⟩ := h; rfl) | (obtain ⟨_, _, _, _, rfl, _⟩ := h; rfl) | (obtain ⟨_, _, _, _, _, _, _, rfl, _⟩ := h; rfl) | (obtain ⟨_, _, _, _, _, _, _, _, rfl, _⟩ := h; rfl) | (obtain ⟨_, _, _, _, _, _, _, _, _, rfl, _⟩ := h; rfl) | (obtain ⟨_, _, _, _, _, _, _, _, _, _, rfl, _⟩ := h; rfl) | (obtain ⟨_, _, _, _, _, _, _, _, _, _, _, rfl, _⟩ := h; rfl) | (obtain ⟨_, _, _, _, _, _, _, _, _, _, _, _, rfl, _⟩ := h; rfl) | (obtain ⟨_, _, _, _, _, _, _, _, _, _, _, _, _, rfl, _⟩ := h; rfl) | (obtain ⟨_, _, _, _, _, _, _, _, _, _, _, _, _, _, rfl, _⟩ := h; rfl) | (obtain ⟨_, _, _, _, _, _, _, _, _, _, _, _, _, _, _, rfl, _⟩ := h; rfl) | (obtain ⟨_, _, _, _, _, _, _, _, _, _, _, _, _, _, _, _, rfl, _⟩ := h; rfl) | (obtain ⟨_, _, _, _, _, _, _, _, _, _, _, _, _, _, _, _, _, rfl, _⟩ := h; rfl) | (obtain ⟨_, rfl⟩ := h; rfl)) (r_l_gone 0)
    | succ n ih => exact ok_l_gone T (G_l_draw := G_l_draw) (G_l_join := G_l_join) (n + 1) ih (sp_l_gone_mono (n + 1)) (fun ds S Q E h => by first | (obtain ⟨_, _, _, _, _, rfl, _⟩ := h; rfl) | (obtain ⟨_, _, _, _, _, _, rfl, _⟩ := h; rfl) | (obtain ⟨_, _, _, rfl, _⟩ := h; rfl) | (obtain ⟨rfl, _⟩ := h; rfl) | (obtain ⟨_, rfl, _⟩ := h; rfl) | (obtain ⟨_, _, rfl, _⟩ := h; rfl) | (obtain ⟨_, _, _, _, rfl, _⟩ := h; rfl) | (obtain ⟨_, _, _, _, _, _, _, rfl, _⟩ := h; rfl) | (obtain ⟨_, _, _, _, _, _, _, _, rfl, _⟩ := h; rfl) | (obtain ⟨_, _, _, _, _, _, _, _, _, rfl, _⟩ := h; rfl) | (obtain ⟨_, _, _, _, _, _, _, _, _, _, rfl, _⟩ := h; rfl) | (obtain ⟨_, _, _, _, _, _, _, _, _, _, _, rfl, _⟩ := h; rfl) | (obtain ⟨_, _, _, _, _, _, _, _, _, _, _, _, rfl, _⟩ := h; rfl) | (obtain ⟨_, _, _, _, _, _, _, _, _, _, _, _, _, rfl, _⟩ := h; rfl) | (obtain ⟨_, _, _, _, _, _, _, _, _, _, _, _, _, _, rfl, _⟩ := h; rfl) | (obtain ⟨_, _, _, _, _, _, _, _, _, _, _, _, _, _, _, rfl, _⟩ := h; rfl) | (obtain ⟨_, _, _, _, _, _, _, _, _, _, _, _, _, _, _, _, rfl, _⟩ := h; rfl) | (obtain ⟨_, _, _, _, _, _, _, _, _, _, _, _, _, _, _, _, _, rfl, _⟩ := h; rfl) | (obtain ⟨_, rfl⟩ := h; rfl)) (r_l_gone (n + 1))
  have G_l_gone := R_l_gone 9
  have G_l_line : DFn P w K mg base 12 T.a_l_line T.f_l_line ["_law_feed_here", "_law_pattern_here", "_law_words", "_law_marks"] sp_l_line := ok_l_line T (G_l_draw := G_l_draw) (G_l_gone := G_l_gone) sp_l_line_mono (fun ds S Q E h => by first | (obtain ⟨_, _, _, _, _, _, rfl, _⟩ := h; rfl) | (obtain ⟨rfl, _⟩ := h; rfl) | (obtain ⟨_, _, _, rfl, _⟩ := h; rfl) | (obtain ⟨_, _, rfl, _⟩ := h; rfl) | (obtain ⟨_, _, _, _, rfl, _⟩ := h; rfl) | (obtain ⟨_, _, _, _, _, rfl, _⟩ := h; rfl) | (obtain ⟨_, rfl, _⟩ := h; rfl) | (obtain ⟨_, _, _, _, _, _, _, rfl, _⟩ := h; rfl) | (obtain ⟨_, _, _, _, _, _, _, _, rfl, _⟩ := h; rfl) | (obtain ⟨_, rfl⟩ := h; rfl)) r_l_line
  have R_l_ends : ∀ n, DFn P w K mg base (0 + 2 * n + 1) T.a_l_ends T.f_l_ends ["_law_pattern_here", "_law_line_here", "_law_at", "_law_known"] (sp_l_ends n) ∧ DFn P w K mg base (0 + (2 * n + 1) + 1) T.a_l_ends_anew T.f_l_ends_anew ["_law_pattern_here", "_law_line_here", "_law_at", "_law_known"] (sp_l_ends_anew n) := fun n => by
    induction n with
    | zero =>
      have A0 := ok_l_ends (P := P) (base := base) T (2 * 0) (DFn.never 0) (DFn.never 0) (sp_l_ends_mono 0) (fun ds S Q E h => by first | (obtain ⟨_, _, _, _, _, _, _, rfl, _⟩ := h; rfl) | (obtain ⟨_, _, _, _, _, rfl, _⟩ := h; rfl) | (obtain ⟨_, _, _, _, rfl, _⟩ := h; rfl) | (obtain ⟨rfl, _⟩ := h; rfl) | (obtain ⟨_, rfl, _⟩ := h; rfl) | (obtain ⟨_, _, rfl, _⟩ := h; rfl) | (obtain ⟨_, _, _, rfl, _⟩ := h; rfl) | (obtain ⟨_, _, _, _, _, _, rfl, _⟩ := h; rfl) | (obtain ⟨_, _, _, _, _, _, _, _, rfl, _⟩ := h; rfl) | (obtain ⟨_, _, _, _, _, _, _, _, _, rfl, _⟩ := h; rfl) | (obtain ⟨_, _, _, _, _, _, _, _, _, _, rfl, _⟩ := h; rfl) | (obtain ⟨_, _, _, _, _, _, _, _, _, _, _, rfl, _⟩ := h; rfl) | (obtain ⟨_, _, _, _, _, _, _, _, _, _, _, _, rfl, _⟩ := h; rfl) | (obtain ⟨_, _, _, _, _, _, _, _, _, _, _, _, _, rfl, _⟩ := h; rfl) | (obtain ⟨_, _, _, _, _, _, _, _, _, _, _, _, _, _, rfl, _⟩ := h; rfl) | (obtain ⟨_, _, _, _, _, _, _, _, _, _, _, _, _, _, _, rfl, _⟩ := h; rfl) | (obtain ⟨_, _, _, _, _, _, _, _, _, _, _, _, _, _, _, _, rfl, _⟩ := h; rfl) | (obtain ⟨_, _, _, _, _, _, _, _, _, _, _, _, _, _, _, _, _, rfl, _⟩ := h; rfl) | (obtain ⟨_, rfl⟩ := h; rfl)) (r_l_ends 0)
      have A1 := ok_l_ends_anew (P := P) (base := base) T (2 * 0 + 1) (A0.more (by omega)) (sp_l_ends_anew_mono 0) (fun ds S Q E h => by first | (obtain ⟨_, _, _, _, _, _, _, rfl, _⟩ := h; rfl) | (obtain ⟨rfl, _⟩ := h; rfl) | (obtain ⟨_, _, _, rfl, _⟩ := h; rfl) | (obtain ⟨_, _, rfl, _⟩ := h; rfl) | (obtain ⟨_, _, _, _, rfl, _⟩ := h; rfl) | (obtain ⟨_, _, _, _, _, rfl, _⟩ := h; rfl) | (obtain ⟨_, rfl, _⟩ := h; rfl) | (obtain ⟨_, _, _, _, _, _, rfl, _⟩ := h; rfl) | (obtain ⟨_, _, _, _, _, _, _, _, rfl, _⟩ := h; rfl) | (obtain ⟨_, rfl⟩ := h; rfl)) (r_l_ends_anew 0)
      exact ⟨A0, A1⟩
    | succ n ih =>
      have A0 := ok_l_ends (P := P) (base := base) T (2 * (n + 1)) (ih.1.more (by omega)) (ih.2.more (by omega)) (sp_l_ends_mono (n + 1)) (fun ds S Q E h => by first | (obtain ⟨_, _, _, _, _, _, _, rfl, _⟩ := h; rfl) | (obtain ⟨_, _, _, _, _, rfl, _⟩ := h; rfl) | (obtain ⟨_, _, _, _, rfl, _⟩ := h; rfl) | (obtain ⟨rfl, _⟩ := h; rfl) | (obtain ⟨_, rfl, _⟩ := h; rfl) | (obtain ⟨_, _, rfl, _⟩ := h; rfl) | (obtain ⟨_, _, _, rfl, _⟩ := h; rfl) | (obtain ⟨_, _, _, _, _, _, rfl, _⟩ := h; rfl) | (obtain ⟨_, _, _, _, _, _, _, _, rfl, _⟩ := h; rfl) | (obtain ⟨_, _, _, _, _, _, _, _, _, rfl, _⟩ := h; rfl) | (obtain ⟨_, _, _, _, _, _, _, _, _, _, rfl, _⟩ := h; rfl) | (obtain ⟨_, _, _, _, _, _, _, _, _, _, _, rfl, _⟩ := h; rfl) | (obtain ⟨_, _, _, _, _, _, _, _, _, _, _, _, rfl, _⟩ := h; rfl) | (obtain ⟨_, _, _, _, _, _, _, _, _, _, _, _, _, rfl, _⟩ := h; rfl) | (obtain ⟨_, _, _, _, _, _, _, _, _, _, _, _, _, _, rfl, _⟩ := h; rfl) | (obtain ⟨_, _, _, _, _, _, _, _, _, _, _, _, _, _, _, rfl, _⟩ := h; rfl) | (obtain ⟨_, _, _, _, _, _, _, _, _, _, _, _, _, _, _, _, rfl, _⟩ := h; rfl) | (obtain ⟨_, _, _, _, _, _, _, _, _, _, _, _, _, _, _, _, _, rfl, _⟩ := h; rfl) | (obtain ⟨_, rfl⟩ := h; rfl)) (r_l_ends (n + 1))
      have A1 := ok_l_ends_anew (P := P) (base := base) T (2 * (n + 1) + 1) (A0.more (by omega)) (sp_l_ends_anew_mono (n + 1)) (fun ds S Q E h => by first | (obtain ⟨_, _, _, _, _, _, _, rfl, _⟩ := h; rfl) | (obtain ⟨rfl, _⟩ := h; rfl) | (obtain ⟨_, _, _, rfl, _⟩ := h; rfl) | (obtain ⟨_, _, rfl, _⟩ := h; rfl) | (obtain ⟨_, _, _, _, rfl, _⟩ := h; rfl) | (obtain ⟨_, _, _, _, _, rfl, _⟩ := h; rfl) | (obtain ⟨_, rfl, _⟩ := h; rfl) | (obtain ⟨_, _, _, _, _, _, rfl, _⟩ := h; rfl) | (obtain ⟨_, _, _, _, _, _, _, _, rfl, _⟩ := h; rfl) | (obtain ⟨_, rfl⟩ := h; rfl)) (r_l_ends_anew (n + 1))
      exact ⟨A0, A1⟩
  have G_l_ends := (R_l_ends 10).1
  have G_l_ends_anew := (R_l_ends 10).2
  have G_l_right : DFn P w K mg base 22 T.a_l_right T.f_l_right ["_law_pattern_here", "_law_line_here"] sp_l_right := ok_l_right T (G_l_ends := G_l_ends) sp_l_right_mono (fun ds S Q E h => by first | (obtain ⟨_, _, _, _, _, _, _, _, _, rfl, _⟩ := h; rfl) | (obtain ⟨_, _, _, rfl, _⟩ := h; rfl) | (obtain ⟨_, _, _, _, _, _, rfl, _⟩ := h; rfl) | (obtain ⟨_, rfl, _⟩ := h; rfl) | (obtain ⟨_, _, rfl, _⟩ := h; rfl) | (obtain ⟨_, _, _, _, _, rfl, _⟩ := h; rfl) | (obtain ⟨rfl, _⟩ := h; rfl) | (obtain ⟨_, _, _, _, rfl, _⟩ := h; rfl) | (obtain ⟨_, _, _, _, _, _, _, rfl, _⟩ := h; rfl) | (obtain ⟨_, _, _, _, _, _, _, _, rfl, _⟩ := h; rfl) | (obtain ⟨_, _, _, _, _, _, _, _, _, _, rfl, _⟩ := h; rfl) | (obtain ⟨_, _, _, _, _, _, _, _, _, _, _, rfl, _⟩ := h; rfl) | (obtain ⟨_, _, _, _, _, _, _, _, _, _, _, _, rfl, _⟩ := h; rfl) | (obtain ⟨_, _, _, _, _, _, _, _, _, _, _, _, _, rfl, _⟩ := h; rfl) | (obtain ⟨_, _, _, _, _, _, _, _, _, _, _, _, _, _, rfl, _⟩ := h; rfl) | (obtain ⟨_, _, _, _, _, _, _, _, _, _, _, _, _, _, _, rfl, _⟩ := h; rfl) | (obtain ⟨_, _, _, _, _, _, _, _, _, _, _, _, _, _, _, _, rfl, _⟩ := h; rfl) | (obtain ⟨_, _, _, _, _, _, _, _, _, _, _, _, _, _, _, _, _, rfl, _⟩ := h; rfl) | (obtain ⟨_, rfl⟩ := h; rfl)) r_l_right
  have R_l_all : ∀ n, DFn P w K mg base (0 + n + 1) T.a_l_all T.f_l_all ["_law_pattern_here"] (sp_l_all n) := fun n => by
    induction n with
    | zero => exact ok_l_all T 0 (DFn.never 0) (sp_l_all_mono 0) (fun ds S Q E h => by first | (obtain ⟨_, rfl, _⟩ := h; rfl) | (obtain ⟨rfl, _⟩ := h; rfl) | (obtain ⟨_, _, _, rfl, _⟩ := h; rfl) | (obtain ⟨_, _, rfl, _⟩ := h; rfl) | (obtain ⟨_, _, _, _, rfl, _⟩ := h; rfl) | (obtain ⟨_, _, _, _, _, rfl, _⟩ := h; rfl) | (obtain ⟨_, _, _, _, _, _, rfl, _⟩ := h; rfl) | (obtain ⟨_, _, _, _, _, _, _, rfl, _⟩ := h; rfl) | (obtain ⟨_, _, _, _, _, _, _, _, rfl, _⟩ := h; rfl) | (obtain ⟨_, rfl⟩ := h; rfl)) (r_l_all 0)
    | succ n ih => exact ok_l_all T (n + 1) ih (sp_l_all_mono (n + 1)) (fun ds S Q E h => by first | (obtain ⟨_, rfl, _⟩ := h; rfl) | (obtain ⟨rfl, _⟩ := h; rfl) | (obtain ⟨_, _, _, rfl, _⟩ := h; rfl) | (obtain ⟨_, _, rfl, _⟩ := h; rfl) | (obtain ⟨_, _, _, _, rfl, _⟩ := h; rfl) | (obtain ⟨_, _, _, _, _, rfl, _⟩ := h; rfl) | (obtain ⟨_, _, _, _, _, _, rfl, _⟩ := h; rfl) | (obtain ⟨_, _, _, _, _, _, _, rfl, _⟩ := h; rfl) | (obtain ⟨_, _, _, _, _, _, _, _, rfl, _⟩ := h; rfl) | (obtain ⟨_, rfl⟩ := h; rfl)) (r_l_all (n + 1))
  have G_l_all := R_l_all 50
  have G_l_plain : DFn P w K mg base 52 T.a_l_plain T.f_l_plain ["_law_pattern_here"] sp_l_plain := ok_l_plain T (G_l_all := G_l_all) sp_l_plain_mono (fun ds S Q E h => by first | (obtain ⟨_, rfl, _⟩ := h; rfl) | (obtain ⟨rfl, _⟩ := h; rfl) | (obtain ⟨_, _, _, rfl, _⟩ := h; rfl) | (obtain ⟨_, _, rfl, _⟩ := h; rfl) | (obtain ⟨_, _, _, _, rfl, _⟩ := h; rfl) | (obtain ⟨_, _, _, _, _, rfl, _⟩ := h; rfl) | (obtain ⟨_, _, _, _, _, _, rfl, _⟩ := h; rfl) | (obtain ⟨_, _, _, _, _, _, _, rfl, _⟩ := h; rfl) | (obtain ⟨_, _, _, _, _, _, _, _, rfl, _⟩ := h; rfl) | (obtain ⟨_, rfl⟩ := h; rfl)) r_l_plain
  have R_l_needless : ∀ n, DFn P w K mg base (51 + n + 1) T.a_l_needless T.f_l_needless ["_law_feed_here", "_law_pattern_here", "_law_deep"] (sp_l_needless n) := fun n => by
    induction n with
    | zero => exact ok_l_needless T (G_l_draw := G_l_draw) (G_l_all := G_l_all) 0 (DFn.never 0) (sp_l_needless_mono 0) (fun ds S Q E h => by first | (obtain ⟨_, _, _, _, _, _, _, rfl, _⟩ := h; rfl) | (obtain ⟨rfl, _⟩ := h; rfl) | (obtain ⟨_, _, _, rfl, _⟩ := h; rfl) | (obtain ⟨_, _, rfl, _⟩ := h; rfl) | (obtain ⟨_, _, _, _, rfl, _⟩ := h; rfl) | (obtain ⟨_, _, _, _, _, rfl, _⟩ := h; rfl) | (obtain ⟨_, rfl, _⟩ := h; rfl) | (obtain ⟨_, _, _, _, _, _, rfl, _⟩ := h; rfl) | (obtain ⟨_, _, _, _, _, _, _, _, rfl, _⟩ := h; rfl) | (obtain ⟨_, rfl⟩ := h; rfl)) (r_l_needless 0)
    | succ n ih => exact ok_l_needless T (G_l_draw := G_l_draw) (G_l_all := G_l_all) (n + 1) ih (sp_l_needless_mono (n + 1)) (fun ds S Q E h => by first | (obtain ⟨_, _, _, _, _, _, _, rfl, _⟩ := h; rfl) | (obtain ⟨rfl, _⟩ := h; rfl) | (obtain ⟨_, _, _, rfl, _⟩ := h; rfl) | (obtain ⟨_, _, rfl, _⟩ := h; rfl) | (obtain ⟨_, _, _, _, rfl, _⟩ := h; rfl) | (obtain ⟨_, _, _, _, _, rfl, _⟩ := h; rfl) | (obtain ⟨_, rfl, _⟩ := h; rfl) | (obtain ⟨_, _, _, _, _, _, rfl, _⟩ := h; rfl) | (obtain ⟨_, _, _, _, _, _, _, _, rfl, _⟩ := h; rfl) | (obtain ⟨_, rfl⟩ := h; rfl)) (r_l_needless (n + 1))
  have G_l_needless := R_l_needless 5
  have G_law : DFn P w K mg base 58 T.a_law T.f_law ["_law_script"] sp_law := ok_law T (G_l_feed := G_l_feed) (G_l_draw := G_l_draw) (G_l_names := G_l_names) (G_is_pattern := G_is_pattern) (G_l_pattern := G_l_pattern) (G_plainly := G_plainly) (G_l_line := G_l_line) (G_l_right := G_l_right) (G_l_all := G_l_all) (G_l_plain := G_l_plain) (G_l_needless := G_l_needless) sp_law_mono (fun ds S Q E h => by first | (obtain ⟨_, rfl, _⟩ := h; rfl) | (obtain ⟨rfl, _⟩ := h; rfl) | (obtain ⟨_, _, _, rfl, _⟩ := h; rfl) | (obtain ⟨_, _, rfl, _⟩ := h; rfl) | (obtain ⟨_, _, _, _, rfl, _⟩ := h; rfl) | (obtain ⟨_, _, _, _, _, rfl, _⟩ := h; rfl) | (obtain ⟨_, _, _, _, _, _, rfl, _⟩ := h; rfl) | (obtain ⟨_, _, _, _, _, _, _, rfl, _⟩ := h; rfl) | (obtain ⟨_, _, _, _, _, _, _, _, rfl, _⟩ := h; rfl) | (obtain ⟨_, rfl⟩ := h; rfl)) r_law
  exact G_law
theorem all_mk {l : PySem.W.OpenLaw} {w : World} {K : PySem.W.Frag} {h : Heap} {mg : Str → Option Value} {fa : Addr} (X : K.In h) (G : h.Ns mainGlobals mg) (hfa : mg "law" = some (.ref fa))
    {f0 f1 f2 f3 f4 f5 f6 f7 f8 f9 f10 f11 f12 f13 f14 f15 f16 f17 f18 f19 f20 f21 f22 f23 : Addr} {od0 an0 od1 an1 od2 an2 od3 an3 od4 an4 od5 an5 od6 an6 od7 an7 od8 an8 od9 an9 od10 an10 od11 an11 od12 an12 od13 an13 od14 an14 od15 an15 od16 an16 od17 an17 od18 an18 od19 an19 od20 an20 od21 an21 od22 an22 od23 an23 : Option Addr} {sl0 sl1 sl2 sl3 sl4 sl5 sl6 sl7 sl8 sl9 sl10 sl11 sl12 sl13 sl14 sl15 sl16 sl17 sl18 sl19 sl20 sl21 sl22 sl23 : Array (Option Value)} {oc0 kV0 dc0 pm0 cd0 ct0 oc1 kV1 dc1 pm1 cd1 ct1 oc2 kV2 dc2 pm2 cd2 ct2 oc3 kV3 dc3 pm3 cd3 ct3 oc4 kV4 dc4 pm4 cd4 ct4 oc5 kV5 dc5 pm5 cd5 ct5 oc6 kV6 dc6 pm6 cd6 ct6 oc7 kV7 dc7 pm7 cd7 ct7 oc8 kV8 dc8 pm8 cd8 ct8 oc9 kV9 dc9 pm9 cd9 ct9 oc10 kV10 dc10 pm10 cd10 ct10 oc11 kV11 dc11 pm11 cd11 ct11 oc12 kV12 dc12 pm12 cd12 ct12 oc13 kV13 dc13 pm13 cd13 ct13 oc14 kV14 dc14 pm14 cd14 ct14 oc15 kV15 dc15 pm15 cd15 ct15 oc16 kV16 dc16 pm16 cd16 ct16 oc17 kV17 dc17 pm17 cd17 ct17 oc18 kV18 dc18 pm18 cd18 ct18 oc19 kV19 dc19 pm19 cd19 ct19 oc20 kV20 dc20 pm20 cd20 ct20 oc21 kV21 dc21 pm21 cd21 ct21 oc22 kV22 dc22 pm22 cd22 ct22 oc23 kV23 dc23 pm23 cd23 ct23 : Value}
    (a0 : PySem.W.nsIn K mainGlobals "is_name" = some (some (.ref f0))) (l0 : K.lookup f0 = some ⟨oc0, od0, .func (PySem.W.fnOf "is_name" "is_name" (defArgs s_is_name) (defBody s_is_name) (defScope s_is_name) .none kV0 dc0 pm0 an0 cd0 ct0), sl0⟩) (c0 : PySem.W.codeIn K cd0 "is_name" = true) (k0 : PySem.W.keepIn K (.ref f0) = true)
    (a1 : PySem.W.nsIn K mainGlobals "is_one_of" = some (some (.ref f1))) (l1 : K.lookup f1 = some ⟨oc1, od1, .func (PySem.W.fnOf "is_one_of" "is_one_of" (defArgs s_is_one_of) (defBody s_is_one_of) (defScope s_is_one_of) .none kV1 dc1 pm1 an1 cd1 ct1), sl1⟩) (c1 : PySem.W.codeIn K cd1 "is_one_of" = true) (k1 : PySem.W.keepIn K (.ref f1) = true)
    (a2 : PySem.W.nsIn K mainGlobals "plain_then" = some (some (.ref f2))) (l2 : K.lookup f2 = some ⟨oc2, od2, .func (PySem.W.fnOf "plain_then" "plain_then" (defArgs s_plain_then) (defBody s_plain_then) (defScope s_plain_then) .none kV2 dc2 pm2 an2 cd2 ct2), sl2⟩) (c2 : PySem.W.codeIn K cd2 "plain_then" = true) (k2 : PySem.W.keepIn K (.ref f2) = true)
    (a3 : PySem.W.nsIn K mainGlobals "plain_either" = some (some (.ref f3))) (l3 : K.lookup f3 = some ⟨oc3, od3, .func (PySem.W.fnOf "plain_either" "plain_either" (defArgs s_plain_either) (defBody s_plain_either) (defScope s_plain_either) .none kV3 dc3 pm3 an3 cd3 ct3), sl3⟩) (c3 : PySem.W.codeIn K cd3 "plain_either" = true) (k3 : PySem.W.keepIn K (.ref f3) = true)
    (a4 : PySem.W.nsIn K mainGlobals "_law_feed" = some (some (.ref f4))) (l4 : K.lookup f4 = some ⟨oc4, od4, .func (PySem.W.fnOf "_law_feed" "_law_feed" (defArgs s_l_feed) (defBody s_l_feed) (defScope s_l_feed) .none kV4 dc4 pm4 an4 cd4 ct4), sl4⟩) (c4 : PySem.W.codeIn K cd4 "_law_feed" = true) (k4 : PySem.W.keepIn K (.ref f4) = true)
    (a5 : PySem.W.nsIn K mainGlobals "_law_draw" = some (some (.ref f5))) (l5 : K.lookup f5 = some ⟨oc5, od5, .func (PySem.W.fnOf "_law_draw" "_law_draw" (defArgs s_l_draw) (defBody s_l_draw) (defScope s_l_draw) .none kV5 dc5 pm5 an5 cd5 ct5), sl5⟩) (c5 : PySem.W.codeIn K cd5 "_law_draw" = true) (k5 : PySem.W.keepIn K (.ref f5) = true)
    (a6 : PySem.W.nsIn K mainGlobals "_law_join" = some (some (.ref f6))) (l6 : K.lookup f6 = some ⟨oc6, od6, .func (PySem.W.fnOf "_law_join" "_law_join" (defArgs s_l_join) (defBody s_l_join) (defScope s_l_join) .none kV6 dc6 pm6 an6 cd6 ct6), sl6⟩) (c6 : PySem.W.codeIn K cd6 "_law_join" = true) (k6 : PySem.W.keepIn K (.ref f6) = true)
    (a7 : PySem.W.nsIn K mainGlobals "is_word" = some (some (.ref f7))) (l7 : K.lookup f7 = some ⟨oc7, od7, .func (PySem.W.fnOf "is_word" "is_word" (defArgs s_is_word) (defBody s_is_word) (defScope s_is_word) .none kV7 dc7 pm7 an7 cd7 ct7), sl7⟩) (c7 : PySem.W.codeIn K cd7 "is_word" = true) (k7 : PySem.W.keepIn K (.ref f7) = true)
    (a8 : PySem.W.nsIn K mainGlobals "_law_names" = some (some (.ref f8))) (l8 : K.lookup f8 = some ⟨oc8, od8, .func (PySem.W.fnOf "_law_names" "_law_names" (defArgs s_l_names) (defBody s_l_names) (defScope s_l_names) .none kV8 dc8 pm8 an8 cd8 ct8), sl8⟩) (c8 : PySem.W.codeIn K cd8 "_law_names" = true) (k8 : PySem.W.keepIn K (.ref f8) = true)
    (a9 : PySem.W.nsIn K mainGlobals "_law_leaf" = some (some (.ref f9))) (l9 : K.lookup f9 = some ⟨oc9, od9, .func (PySem.W.fnOf "_law_leaf" "_law_leaf" (defArgs s_l_leaf) (defBody s_l_leaf) (defScope s_l_leaf) .none kV9 dc9 pm9 an9 cd9 ct9), sl9⟩) (c9 : PySem.W.codeIn K cd9 "_law_leaf" = true) (k9 : PySem.W.keepIn K (.ref f9) = true)
    (a10 : PySem.W.nsIn K mainGlobals "is_leaf" = some (some (.ref f10))) (l10 : K.lookup f10 = some ⟨oc10, od10, .func (PySem.W.fnOf "is_leaf" "is_leaf" (defArgs s_is_leaf) (defBody s_is_leaf) (defScope s_is_leaf) .none kV10 dc10 pm10 an10 cd10 ct10), sl10⟩) (c10 : PySem.W.codeIn K cd10 "is_leaf" = true) (k10 : PySem.W.keepIn K (.ref f10) = true)
    (a11 : PySem.W.nsIn K mainGlobals "parts_right" = some (some (.ref f11))) (l11 : K.lookup f11 = some ⟨oc11, od11, .func (PySem.W.fnOf "parts_right" "parts_right" (defArgs s_parts_right) (defBody s_parts_right) (defScope s_parts_right) .none kV11 dc11 pm11 an11 cd11 ct11), sl11⟩) (c11 : PySem.W.codeIn K cd11 "parts_right" = true) (k11 : PySem.W.keepIn K (.ref f11) = true)
    (a12 : PySem.W.nsIn K mainGlobals "is_pattern" = some (some (.ref f12))) (l12 : K.lookup f12 = some ⟨oc12, od12, .func (PySem.W.fnOf "is_pattern" "is_pattern" (defArgs s_is_pattern) (defBody s_is_pattern) (defScope s_is_pattern) .none kV12 dc12 pm12 an12 cd12 ct12), sl12⟩) (c12 : PySem.W.codeIn K cd12 "is_pattern" = true) (k12 : PySem.W.keepIn K (.ref f12) = true)
    (a13 : PySem.W.nsIn K mainGlobals "_law_pattern" = some (some (.ref f13))) (l13 : K.lookup f13 = some ⟨oc13, od13, .func (PySem.W.fnOf "_law_pattern" "_law_pattern" (defArgs s_l_pattern) (defBody s_l_pattern) (defScope s_l_pattern) .none kV13 dc13 pm13 an13 cd13 ct13), sl13⟩) (c13 : PySem.W.codeIn K cd13 "_law_pattern" = true) (k13 : PySem.W.keepIn K (.ref f13) = true)
    (a14 : PySem.W.nsIn K mainGlobals "plainly" = some (some (.ref f14))) (l14 : K.lookup f14 = some ⟨oc14, od14, .func (PySem.W.fnOf "plainly" "plainly" (defArgs s_plainly) (defBody s_plainly) (defScope s_plainly) .none kV14 dc14 pm14 an14 cd14 ct14), sl14⟩) (c14 : PySem.W.codeIn K cd14 "plainly" = true) (k14 : PySem.W.keepIn K (.ref f14) = true)
    (a15 : PySem.W.nsIn K mainGlobals "_law_gone" = some (some (.ref f15))) (l15 : K.lookup f15 = some ⟨oc15, od15, .func (PySem.W.fnOf "_law_gone" "_law_gone" (defArgs s_l_gone) (defBody s_l_gone) (defScope s_l_gone) .none kV15 dc15 pm15 an15 cd15 ct15), sl15⟩) (c15 : PySem.W.codeIn K cd15 "_law_gone" = true) (k15 : PySem.W.keepIn K (.ref f15) = true)
    (a16 : PySem.W.nsIn K mainGlobals "_law_line" = some (some (.ref f16))) (l16 : K.lookup f16 = some ⟨oc16, od16, .func (PySem.W.fnOf "_law_line" "_law_line" (defArgs s_l_line) (defBody s_l_line) (defScope s_l_line) .none kV16 dc16 pm16 an16 cd16 ct16), sl16⟩) (c16 : PySem.W.codeIn K cd16 "_law_line" = true) (k16 : PySem.W.keepIn K (.ref f16) = true)
    (a17 : PySem.W.nsIn K mainGlobals "_law_ends" = some (some (.ref f17))) (l17 : K.lookup f17 = some ⟨oc17, od17, .func (PySem.W.fnOf "_law_ends" "_law_ends" (defArgs s_l_ends) (defBody s_l_ends) (defScope s_l_ends) .none kV17 dc17 pm17 an17 cd17 ct17), sl17⟩) (c17 : PySem.W.codeIn K cd17 "_law_ends" = true) (k17 : PySem.W.keepIn K (.ref f17) = true)
    (a18 : PySem.W.nsIn K mainGlobals "_law_ends_anew" = some (some (.ref f18))) (l18 : K.lookup f18 = some ⟨oc18, od18, .func (PySem.W.fnOf "_law_ends_anew" "_law_ends_anew" (defArgs s_l_ends_anew) (defBody s_l_ends_anew) (defScope s_l_ends_anew) .none kV18 dc18 pm18 an18 cd18 ct18), sl18⟩) (c18 : PySem.W.codeIn K cd18 "_law_ends_anew" = true) (k18 : PySem.W.keepIn K (.ref f18) = true)
    (a19 : PySem.W.nsIn K mainGlobals "_law_right" = some (some (.ref f19))) (l19 : K.lookup f19 = some ⟨oc19, od19, .func (PySem.W.fnOf "_law_right" "_law_right" (defArgs s_l_right) (defBody s_l_right) (defScope s_l_right) .none kV19 dc19 pm19 an19 cd19 ct19), sl19⟩) (c19 : PySem.W.codeIn K cd19 "_law_right" = true) (k19 : PySem.W.keepIn K (.ref f19) = true)
    (a20 : PySem.W.nsIn K mainGlobals "_law_all" = some (some (.ref f20))) (l20 : K.lookup f20 = some ⟨oc20, od20, .func (PySem.W.fnOf "_law_all" "_law_all" (defArgs s_l_all) (defBody s_l_all) (defScope s_l_all) .none kV20 dc20 pm20 an20 cd20 ct20), sl20⟩) (c20 : PySem.W.codeIn K cd20 "_law_all" = true) (k20 : PySem.W.keepIn K (.ref f20) = true)
    (a21 : PySem.W.nsIn K mainGlobals "_law_plain" = some (some (.ref f21))) (l21 : K.lookup f21 = some ⟨oc21, od21, .func (PySem.W.fnOf "_law_plain" "_law_plain" (defArgs s_l_plain) (defBody s_l_plain) (defScope s_l_plain) .none kV21 dc21 pm21 an21 cd21 ct21), sl21⟩) (c21 : PySem.W.codeIn K cd21 "_law_plain" = true) (k21 : PySem.W.keepIn K (.ref f21) = true)
    (a22 : PySem.W.nsIn K mainGlobals "_law_needless" = some (some (.ref f22))) (l22 : K.lookup f22 = some ⟨oc22, od22, .func (PySem.W.fnOf "_law_needless" "_law_needless" (defArgs s_l_needless) (defBody s_l_needless) (defScope s_l_needless) .none kV22 dc22 pm22 an22 cd22 ct22), sl22⟩) (c22 : PySem.W.codeIn K cd22 "_law_needless" = true) (k22 : PySem.W.keepIn K (.ref f22) = true)
    (a23 : PySem.W.nsIn K mainGlobals "law" = some (some (.ref f23))) (l23 : K.lookup f23 = some ⟨oc23, od23, .func (PySem.W.fnOf "law" "law" (defArgs s_law) (defBody s_law) (defScope s_law) .none kV23 dc23 pm23 an23 cd23 ct23), sl23⟩) (c23 : PySem.W.codeIn K cd23 "law" = true) (k23 : PySem.W.keepIn K (.ref f23) = true)
    {u0 u1 u2 u3 u4 u5 : Tok}
    {ta0_1 : Addr} {tn0_1 : Nat} 
    (lt0_1 : K.lookup ta0_1 = some ⟨.type "tuple", none, .seq #[] tn0_1, #[]⟩)
    {ta0 : Addr} {tn0 : Nat}  {tt0_0 : Tok}
    (gt0 : PySem.W.nsIn K mainGlobals "NOTHING" = some (some (.ref ta0))) (lt0 : K.lookup ta0 = some ⟨.type "tuple", none, .seq #[.str "either" tt0_0, .ref ta0_1] tn0, #[]⟩)
    {ta1_1 : Addr} {tn1_1 : Nat} 
    (lt1_1 : K.lookup ta1_1 = some ⟨.type "tuple", none, .seq #[] tn1_1, #[]⟩)
    {ta1 : Addr} {tn1 : Nat}  {tt1_0 : Tok}
    (gt1 : PySem.W.nsIn K mainGlobals "NO_STEPS" = some (some (.ref ta1))) (lt1 : K.lookup ta1 = some ⟨.type "tuple", none, .seq #[.str "then" tt1_0, .ref ta1_1] tn1, #[]⟩)
    {ta2 : Addr} {tn2 : Nat}  {tt2_0 tt2_1 : Tok}
    (gt2 : PySem.W.nsIn K mainGlobals "SIDES" = some (some (.ref ta2))) (lt2 : K.lookup ta2 = some ⟨.type "tuple", none, .seq #[.str "on" tt2_0, .str "back" tt2_1] tn2, #[]⟩)
    {ta3 : Addr} {tn3 : Nat}  {tt3_0 : Tok}
    (gt3 : PySem.W.nsIn K mainGlobals "STAY" = some (some (.ref ta3))) (lt3 : K.lookup ta3 = some ⟨.type "tuple", none, .seq #[.str "stay" tt3_0] tn3, #[]⟩)
    (gg0 : PySem.W.nsIn K mainGlobals "ANY_WORD" = some (some (.str "*" u0)))
    (gg1 : PySem.W.nsIn K mainGlobals "LETTERS" = some (some (.str "abcdefghijklmnopqrstuvwxyz" u1)))
    (gg2 : PySem.W.nsIn K mainGlobals "MOST_DEEP" = some (some (.int 10 u2)))
    (gg3 : PySem.W.nsIn K mainGlobals "MOST_PARTS" = some (some (.int 40 u3)))
    (gg4 : PySem.W.nsIn K mainGlobals "MOST_SIGNS" = some (some (.int 8 u4)))
    (gg5 : PySem.W.nsIn K mainGlobals "MOST_WITHIN" = some (some (.int 39 u5)))
    (z0 : PySem.W.nsIn K mainGlobals "all" = some none)
    (z1 : PySem.W.nsIn K mainGlobals "int" = some none)
    (z2 : PySem.W.nsIn K mainGlobals "isinstance" = some none)
    (z3 : PySem.W.nsIn K mainGlobals "len" = some none)
    (z4 : PySem.W.nsIn K mainGlobals "list" = some none)
    (z5 : PySem.W.nsIn K mainGlobals "range" = some none)
    (z6 : PySem.W.nsIn K mainGlobals "repr" = some none)
    (z7 : PySem.W.nsIn K mainGlobals "set" = some none)
    (z8 : PySem.W.nsIn K mainGlobals "sorted" = some none)
    (z9 : PySem.W.nsIn K mainGlobals "str" = some none)
    (z10 : PySem.W.nsIn K mainGlobals "tuple" = some none)
    : ∃ fd : FuncData, (∀ (s : Shared) (v : Value), BindsTo s fd ⟨[v], []⟩ [("_law_script", v)]) ∧ ∀ base : Heap, K.In base → base.Ns mainGlobals mg → DFn l.prog w K mg base 58 fa fd ["_law_script"] sp_law := by
  have e := hfa.symm.trans (PySem.W.mg_of X G a23)
  cases e
  obtain ⟨T, e1, e2⟩ : ∃ T : Txt w K mg, T.a_law = fa ∧ T.f_law = PySem.W.fnOf "law" "law" (defArgs s_law) (defBody s_law) (defScope s_law) .none kV23 dc23 pm23 an23 cd23 ct23 :=
    ⟨{ a_is_name := f0, f_is_name := _, F_is_name := fun_mk (st := s_is_name) l0 c0 k0, m_is_name := PySem.W.mg_of X G a0, d_is_name := (fun_mk (st := s_is_name) l0 c0 k0).binds (ps := ["thing"]) fun _ _ _ _ _ _ us hl => match us, hl with | [_], _ => rfl,
       a_is_one_of := f1, f_is_one_of := _, F_is_one_of := fun_mk (st := s_is_one_of) l1 c1 k1, m_is_one_of := PySem.W.mg_of X G a1, d_is_one_of := (fun_mk (st := s_is_one_of) l1 c1 k1).binds (ps := ["thing", "some"]) fun _ _ _ _ _ _ us hl => match us, hl with | [_, _], _ => rfl,
       a_plain_then := f2, f_plain_then := _, F_plain_then := fun_mk (st := s_plain_then) l2 c2 k2, m_plain_then := PySem.W.mg_of X G a2, d_plain_then := (fun_mk (st := s_plain_then) l2 c2 k2).binds (ps := ["parts"]) fun _ _ _ _ _ _ us hl => match us, hl with | [_], _ => rfl,
       a_plain_either := f3, f_plain_either := _, F_plain_either := fun_mk (st := s_plain_either) l3 c3 k3, m_plain_either := PySem.W.mg_of X G a3, d_plain_either := (fun_mk (st := s_plain_either) l3 c3 k3).binds (ps := ["parts"]) fun _ _ _ _ _ _ us hl => match us, hl with | [_], _ => rfl,
       a_l_feed := f4, f_l_feed := _, F_l_feed := fun_mk (st := s_l_feed) l4 c4 k4, m_l_feed := PySem.W.mg_of X G a4, d_l_feed := (fun_mk (st := s_l_feed) l4 c4 k4).binds (ps := ["_law_script"]) fun _ _ _ _ _ _ us hl => match us, hl with | [_], _ => rfl,
       a_l_draw := f5, f_l_draw := _, F_l_draw := fun_mk (st := s_l_draw) l5 c5 k5, m_l_draw := PySem.W.mg_of X G a5, d_l_draw := (fun_mk (st := s_l_draw) l5 c5 k5).binds (ps := ["_law_feed_here", "_law_many"]) fun _ _ _ _ _ _ us hl => match us, hl with | [_, _], _ => rfl,
       a_l_join := f6, f_l_join := _, F_l_join := fun_mk (st := s_l_join) l6 c6 k6, m_l_join := PySem.W.mg_of X G a6, d_l_join := (fun_mk (st := s_l_join) l6 c6 k6).binds (ps := ["_law_one", "_law_other"]) fun _ _ _ _ _ _ us hl => match us, hl with | [_, _], _ => rfl,
       a_is_word := f7, f_is_word := _, F_is_word := fun_mk (st := s_is_word) l7 c7 k7, m_is_word := PySem.W.mg_of X G a7, d_is_word := (fun_mk (st := s_is_word) l7 c7 k7).binds (ps := ["thing"]) fun _ _ _ _ _ _ us hl => match us, hl with | [_], _ => rfl,
       a_l_names := f8, f_l_names := _, F_l_names := fun_mk (st := s_l_names) l8 c8 k8, m_l_names := PySem.W.mg_of X G a8, d_l_names := (fun_mk (st := s_l_names) l8 c8 k8).binds (ps := ["_law_feed_here", "_law_many"]) fun _ _ _ _ _ _ us hl => match us, hl with | [_, _], _ => rfl,
       a_l_leaf := f9, f_l_leaf := _, F_l_leaf := fun_mk (st := s_l_leaf) l9 c9 k9, m_l_leaf := PySem.W.mg_of X G a9, d_l_leaf := (fun_mk (st := s_l_leaf) l9 c9 k9).binds (ps := ["_law_feed_here", "_law_words", "_law_marks"]) fun _ _ _ _ _ _ us hl => match us, hl with | [_, _, _], _ => rfl,
       a_is_leaf := f10, f_is_leaf := _, F_is_leaf := fun_mk (st := s_is_leaf) l10 c10 k10, m_is_leaf := PySem.W.mg_of X G a10, d_is_leaf := (fun_mk (st := s_is_leaf) l10 c10 k10).binds (ps := ["thing"]) fun _ _ _ _ _ _ us hl => match us, hl with | [_], _ => rfl,
       a_parts_right := f11, f_parts_right := _, F_parts_right := fun_mk (st := s_parts_right) l11 c11 k11, m_parts_right := PySem.W.mg_of X G a11, d_parts_right := (fun_mk (st := s_parts_right) l11 c11 k11).binds (ps := ["thing"]) fun _ _ _ _ _ _ us hl => match us, hl with | [_], _ => rfl,
       a_is_pattern := f12, f_is_pattern := _, F_is_pattern := fun_mk (st := s_is_pattern) l12 c12 k12, m_is_pattern := PySem.W.mg_of X G a12, d_is_pattern := (fun_mk (st := s_is_pattern) l12 c12 k12).binds (ps := ["thing"]) fun _ _ _ _ _ _ us hl => match us, hl with | [_], _ => rfl,
       a_l_pattern := f13, f_l_pattern := _, F_l_pattern := fun_mk (st := s_l_pattern) l13 c13 k13, m_l_pattern := PySem.W.mg_of X G a13, d_l_pattern := (fun_mk (st := s_l_pattern) l13 c13 k13).binds (ps := ["_law_feed_here", "_law_words", "_law_marks", "_law_bag", "_law_deep"]) fun _ _ _ _ _ _ us hl => match us, hl with | [_, _, _, _, _], _ => rfl,
       a_plainly := f14, f_plainly := _, F_plainly := fun_mk (st := s_plainly) l14 c14 k14, m_plainly := PySem.W.mg_of X G a14, d_plainly := (fun_mk (st := s_plainly) l14 c14 k14).binds (ps := ["pattern"]) fun _ _ _ _ _ _ us hl => match us, hl with | [_], _ => rfl,
       a_l_gone := f15, f_l_gone := _, F_l_gone := fun_mk (st := s_l_gone) l15 c15 k15, m_l_gone := PySem.W.mg_of X G a15, d_l_gone := (fun_mk (st := s_l_gone) l15 c15 k15).binds (ps := ["_law_feed_here", "_law_pattern_here", "_law_words", "_law_marks"]) fun _ _ _ _ _ _ us hl => match us, hl with | [_, _, _, _], _ => rfl,
       a_l_line := f16, f_l_line := _, F_l_line := fun_mk (st := s_l_line) l16 c16 k16, m_l_line := PySem.W.mg_of X G a16, d_l_line := (fun_mk (st := s_l_line) l16 c16 k16).binds (ps := ["_law_feed_here", "_law_pattern_here", "_law_words", "_law_marks"]) fun _ _ _ _ _ _ us hl => match us, hl with | [_, _, _, _], _ => rfl,
       a_l_ends := f17, f_l_ends := _, F_l_ends := fun_mk (st := s_l_ends) l17 c17 k17, m_l_ends := PySem.W.mg_of X G a17, d_l_ends := (fun_mk (st := s_l_ends) l17 c17 k17).binds (ps := ["_law_pattern_here", "_law_line_here", "_law_at", "_law_known"]) fun _ _ _ _ _ _ us hl => match us, hl with | [_, _, _, _], _ => rfl,
       a_l_ends_anew := f18, f_l_ends_anew := _, F_l_ends_anew := fun_mk (st := s_l_ends_anew) l18 c18 k18, m_l_ends_anew := PySem.W.mg_of X G a18, d_l_ends_anew := (fun_mk (st := s_l_ends_anew) l18 c18 k18).binds (ps := ["_law_pattern_here", "_law_line_here", "_law_at", "_law_known"]) fun _ _ _ _ _ _ us hl => match us, hl with | [_, _, _, _], _ => rfl,
       a_l_right := f19, f_l_right := _, F_l_right := fun_mk (st := s_l_right) l19 c19 k19, m_l_right := PySem.W.mg_of X G a19, d_l_right := (fun_mk (st := s_l_right) l19 c19 k19).binds (ps := ["_law_pattern_here", "_law_line_here"]) fun _ _ _ _ _ _ us hl => match us, hl with | [_, _], _ => rfl,
       a_l_all := f20, f_l_all := _, F_l_all := fun_mk (st := s_l_all) l20 c20 k20, m_l_all := PySem.W.mg_of X G a20, d_l_all := (fun_mk (st := s_l_all) l20 c20 k20).binds (ps := ["_law_pattern_here"]) fun _ _ _ _ _ _ us hl => match us, hl with | [_], _ => rfl,
       a_l_plain := f21, f_l_plain := _, F_l_plain := fun_mk (st := s_l_plain) l21 c21 k21, m_l_plain := PySem.W.mg_of X G a21, d_l_plain := (fun_mk (st := s_l_plain) l21 c21 k21).binds (ps := ["_law_pattern_here"]) fun _ _ _ _ _ _ us hl => match us, hl with | [_], _ => rfl,
       a_l_needless := f22, f_l_needless := _, F_l_needless := fun_mk (st := s_l_needless) l22 c22 k22, m_l_needless := PySem.W.mg_of X G a22, d_l_needless := (fun_mk (st := s_l_needless) l22 c22 k22).binds (ps := ["_law_feed_here", "_law_pattern_here", "_law_deep"]) fun _ _ _ _ _ _ us hl => match us, hl with | [_, _, _], _ => rfl,
       a_law := fa, f_law := _, F_law := fun_mk (st := s_law) l23 c23 k23, m_law := PySem.W.mg_of X G a23, d_law := (fun_mk (st := s_law) l23 c23 k23).binds (ps := ["_law_script"]) fun _ _ _ _ _ _ us hl => match us, hl with | [_], _ => rfl,
       a_NOTHING := ta0, i_NOTHING := _, n_NOTHING := _, g_NOTHING := PySem.W.mg_of X G gt0, l_NOTHING := lt0, z_NOTHING := (show 2 ≤ sizeLine by decide), v_NOTHING := ⟨[.str "either", .ref ta0_1], .cons ⟨_, rfl⟩ (.cons rfl (.nil)), fun H => RDs.cons rfl (RDs.cons ⟨_, [], rfl, .inr ⟨_, _, lt0_1, (show 0 ≤ sizeLine by decide), .nil⟩, .nil⟩ (.nil))⟩,
       a_NO_STEPS := ta1, i_NO_STEPS := _, n_NO_STEPS := _, g_NO_STEPS := PySem.W.mg_of X G gt1, l_NO_STEPS := lt1, z_NO_STEPS := (show 2 ≤ sizeLine by decide), v_NO_STEPS := ⟨[.str "then", .ref ta1_1], .cons ⟨_, rfl⟩ (.cons rfl (.nil)), fun H => RDs.cons rfl (RDs.cons ⟨_, [], rfl, .inr ⟨_, _, lt1_1, (show 0 ≤ sizeLine by decide), .nil⟩, .nil⟩ (.nil))⟩,
       a_SIDES := ta2, i_SIDES := _, n_SIDES := _, g_SIDES := PySem.W.mg_of X G gt2, l_SIDES := lt2, z_SIDES := (show 2 ≤ sizeLine by decide), v_SIDES := ⟨[.str "on", .str "back"], .cons ⟨_, rfl⟩ (.cons ⟨_, rfl⟩ (.nil)), fun H => RDs.cons rfl (RDs.cons rfl (.nil))⟩,
       a_STAY := ta3, i_STAY := _, n_STAY := _, g_STAY := PySem.W.mg_of X G gt3, l_STAY := lt3, z_STAY := (show 1 ≤ sizeLine by decide), v_STAY := ⟨[.str "stay"], .cons ⟨_, rfl⟩ (.nil), fun H => RDs.cons rfl (.nil)⟩,
       t_ANY_WORD := _, g_ANY_WORD := PySem.W.mg_of X G gg0,
       t_LETTERS := _, g_LETTERS := PySem.W.mg_of X G gg1,
       t_MOST_DEEP := _, g_MOST_DEEP := PySem.W.mg_of X G gg2,
       t_MOST_PARTS := _, g_MOST_PARTS := PySem.W.mg_of X G gg3,
       t_MOST_SIGNS := _, g_MOST_SIGNS := PySem.W.mg_of X G gg4,
       t_MOST_WITHIN := _, g_MOST_WITHIN := PySem.W.mg_of X G gg5,
       b_all := PySem.W.mg_none_of X G z0,
       b_int := PySem.W.mg_none_of X G z1,
       b_isinstance := PySem.W.mg_none_of X G z2,
       b_len := PySem.W.mg_none_of X G z3,
       b_list := PySem.W.mg_none_of X G z4,
       b_range := PySem.W.mg_none_of X G z5,
       b_repr := PySem.W.mg_none_of X G z6,
       b_set := PySem.W.mg_none_of X G z7,
       b_sorted := PySem.W.mg_none_of X G z8,
       b_str := PySem.W.mg_none_of X G z9,
       b_tuple := PySem.W.mg_none_of X G z10 }, rfl, rfl⟩
  refine ⟨PySem.W.fnOf "law" "law" (defArgs s_law) (defBody s_law) (defScope s_law) .none kV23 dc23 pm23 an23 cd23 ct23, fun s v => .of_eq rfl, fun base _ _ => ?_⟩
  rw [← e1, ← e2]
  exact all_go T
end
theorem sp_law_all (ns : List Int) (S : DH) (h : ns.length ≤ 63) : sp_law [.rol (ns.map D.int)] S (fun d _ => d = .bl true) fun _ _ _ => False := ⟨ns, rfl, h, fun _ => rfl⟩
theorem walk {l : PySem.W.OpenLaw} {q : Program} {loose : List Str} {XP : (Str → Option Value) → Heap → Prop} {YP : World → Heap → Prop} {d : DefRec} {K : Params → PySem.W.Frag} (hn : l.most = some 63) (hdf : d.params.defaults = []) (hY : ∀ (w : World) (h : Heap), YP w h → (K w.params).In h)
    (F : ∀ (w : World) (mg : Str → Option Value) (fa : Addr) (h : Heap), (K w.params).In h → h.Ns mainGlobals mg → mg d.name = some (.ref fa) →
      ∃ fd : FuncData, (∀ (s : Shared) (u : Value), BindsTo s fd ⟨[u], []⟩ [("_law_script", u)]) ∧ ∀ base : Heap, (K w.params).In base → base.Ns mainGlobals mg → DFn l.prog w (K w.params) mg base 58 fa fd ["_law_script"] sp_law) : PySem.W.WalkO q loose XP YP l.row.toRowW d [] (fun f vs => PySem.call f vs) :=
  dwalk (n := 63) (k := 58) hn (by decide) hdf ⟨rfl, by decide, by decide⟩ hY F fun ns S hl => sp_law_all ns S hl
end K64X
set_option maxRecDepth 100000
open PySem PySem.W PyProof.Rows
set_option maxRecDepth 100000 in
set_option maxHeartbeats 0 in
theorem K64X.row_holds : OpenRow.Holds (OpenLaw.row PySem.Challenge.rw_pathask_k64_plainly) := by
  have hsaid := K64XS.said; k_headL; (case hw => w_witness2)
  k_fill
  as_aux_lemma =>
    refine K64X.walk (l := PySem.Challenge.rw_pathask_k64_plainly) rfl rfl (fun w h Y => PySem.W.kIn_of Y) ?F
    case F =>
      intro w mg fa h KX G hmg
      refine' K64X.all_mk KX G hmg ?a0 ?l0 ?c0 ?k0 ?a1 ?l1 ?c1 ?k1 ?a2 ?l2 ?c2 ?k2 ?a3 ?l3 ?c3 ?k3 ?a4 ?l4 ?c4 ?k4 ?a5 ?l5 ?c5 ?k5 ?a6 ?l6 ?c6 ?k6 ?a7 ?l7 ?c7 ?k7 ?a8 ?l8 ?c8 ?k8 ?a9 ?l9 ?c9 ?k9 ?a10 ?l10 ?c10 ?k10 ?a11 ?l11 ?c11 ?k11 ?a12 ?l12 ?c12 ?k12 ?a13 ?l13 ?c13 ?k13 ?a14 ?l14 ?c14 ?k14 ?a15 ?l15 ?c15 ?k15 ?a16 ?l16 ?c16 ?k16 ?a17 ?l17 ?c17 ?k17 ?a18 ?l18 ?c18 ?k18 ?a19 ?l19 ?c19 ?k19 ?a20 ?l20 ?c20 ?k20 ?a21 ?l21 ?c21 ?k21 ?a22 ?l22 ?c22 ?k22 ?a23 ?l23 ?c23 ?k23 ?lt0_1 ?gt0 ?lt0 ?lt1_1 ?gt1 ?lt1 ?gt2 ?lt2 ?gt3 ?lt3 ?gg0 ?gg1 ?gg2 ?gg3 ?gg4 ?gg5 ?z0 ?z1 ?z2 ?z3 ?z4 ?z5 ?z6 ?z7 ?z8 ?z9 ?z10
      (case a0 => k_is); (case l0 => k_is); (case c0 => k_is); (case k0 => k_is)
      (case a1 => k_is); (case l1 => k_is); (case c1 => k_is); (case k1 => k_is)
      (case a2 => k_is); (case l2 => k_is); (case c2 => k_is); (case k2 => k_is)
      (case a3 => k_is); (case l3 => k_is); (case c3 => k_is); (case k3 => k_is)
      (case a4 => k_is); (case l4 => k_is); (case c4 => k_is); (case k4 => k_is)
      (case a5 => k_is); (case l5 => k_is); (case c5 => k_is); (case k5 => k_is)
      (case a6 => k_is); (case l6 => k_is); (case c6 => k_is); (case k6 => k_is)
      (case a7 => k_is); (case l7 => k_is); (case c7 => k_is); (case k7 => k_is)
      (case a8 => k_is); (case l8 => k_is); (case c8 => k_is); (case k8 => k_is)
      (case a9 => k_is); (case l9 => k_is); (case c9 => k_is); (case k9 => k_is)
      (case a10 => k_is); (case l10 => k_is); (case c10 => k_is); (case k10 => k_is)
      (case a11 => k_is); (case l11 => k_is); (case c11 => k_is); (case k11 => k_is)
      (case a12 => k_is); (case l12 => k_is); (case c12 => k_is); (case k12 => k_is)
      (case a13 => k_is); (case l13 => k_is); (case c13 => k_is); (case k13 => k_is)
      (case a14 => k_is); (case l14 => k_is); (case c14 => k_is); (case k14 => k_is)
      (case a15 => k_is); (case l15 => k_is); (case c15 => k_is); (case k15 => k_is)
      (case a16 => k_is); (case l16 => k_is); (case c16 => k_is); (case k16 => k_is)
      (case a17 => k_is); (case l17 => k_is); (case c17 => k_is); (case k17 => k_is)
      (case a18 => k_is); (case l18 => k_is); (case c18 => k_is); (case k18 => k_is)
      (case a19 => k_is); (case l19 => k_is); (case c19 => k_is); (case k19 => k_is)
      (case a20 => k_is); (case l20 => k_is); (case c20 => k_is); (case k20 => k_is)
      (case a21 => k_is); (case l21 => k_is); (case c21 => k_is); (case k21 => k_is)
      (case a22 => k_is); (case l22 => k_is); (case c22 => k_is); (case k22 => k_is)
      (case a23 => k_is); (case l23 => k_is); (case c23 => k_is); (case k23 => k_is)
      (case gt0 => k_is); (case lt0 => k_is); (case lt0_1 => k_is); (case gt1 => k_is)
      (case lt1 => k_is); (case lt1_1 => k_is); (case gt2 => k_is); (case lt2 => k_is)
      (case gt3 => k_is); (case lt3 => k_is); (case gg0 => k_is); (case gg1 => k_is)
      (case gg2 => k_is); (case gg3 => k_is); (case gg4 => k_is); (case gg5 => k_is)
      (case z0 => k_is); (case z1 => k_is); (case z2 => k_is); (case z3 => k_is)
      (case z4 => k_is); (case z5 => k_is); (case z6 => k_is); (case z7 => k_is)
      (case z8 => k_is); (case z9 => k_is); (case z10 => k_is)
set_option maxHeartbeats 0 in
theorem PySem.Challenge.cw_pathask_k64_plainly_holds : PySem.Challenge.rw_pathask_k64_plainly.Holds := by
  w_on; o_law
  exact K64X.row_holds
