import PyProof.Rows.All
import Wide.All
import OpenK.AllK
import Wide.FinOn
import KE.OsRunLaw
import PyProof.EqAt
import PyProof.EqKinds
import PyProof.TupleCall
import HandS.Base
import HandS.Call
import HandS.List
import HandS.Comp
import HandS.Ends
import HandS.Dict
import HandS.Iter
import HandS.Text
import HandS.Words
import HandS.Exc
import HandS.ExcInit
import KE.KeyNested
import KE.KDictKeyed
import HandS.WordsDict
import HandS.TupAny
import HandS.TupLe
import HandS.Deep
import HandS.Wide
import HandS.IsInst
import HandS.More
import HandS.SetFor
import HandS.SortInts
import HandS.TupLen
import KE.SortData
import HandS.Set
import PyProof.Rows.SetFrom
import HandS.TupMul
import KE.DataCmp
import HandS.Remove
import HandS.TryOnly
import KE.KDictCopyH
import KE.KDictSum
import PyProof.WalksMore
import KE.KDictPairs
import HandS.TupSets
import HandS.RaiseMore
import HandS.Rev
import HandS.Style
import KE.DataFind
import PyProof.ListNew
import HandS.HotCalls
import HandS.ExcField
import HandS.ExcIs
import HandS.ExcValue
import KE.KExcIs
import PyProof.ReprRoads
import HandS.ListItems
import HandS.DictTup
import PySem.Challenge.RW_pathask_k30_what_is_a_machine
set_option Elab.async false
set_option linter.all false
set_option maxRecDepth 100000
set_option maxHeartbeats 0
namespace K30XS
open PySem PySem.W PyProof.Rows
theorem look0 : (sreFenced (OpenLaw.row PySem.Challenge.rw_pathask_k30_what_is_a_machine).prog.main) = true := by decide +kernel
theorem look1 : (((moduleNames (OpenLaw.row PySem.Challenge.rw_pathask_k30_what_is_a_machine).prog.main.body).isEmpty || lookedIntoSs (moduleNames (OpenLaw.row PySem.Challenge.rw_pathask_k30_what_is_a_machine).prog.main.body) (OpenLaw.row PySem.Challenge.rw_pathask_k30_what_is_a_machine).prog.main.body)) = true := by decide +kernel
theorem look2 : (namesResolve (OpenLaw.row PySem.Challenge.rw_pathask_k30_what_is_a_machine).prog) = true := by decide +kernel
theorem look3 : ((OpenLaw.row PySem.Challenge.rw_pathask_k30_what_is_a_machine).prog.boundNames.all (fun n => !worldNames.contains n)) = true := by decide +kernel
theorem look4 : (noRoadLSs { strict := !(importedModules (OpenLaw.row PySem.Challenge.rw_pathask_k30_what_is_a_machine).prog.main.body).all cThrough.contains, foot := none, bare := (["vars", "dir", "locals"] : List Str).filter (readsOut (OpenLaw.row PySem.Challenge.rw_pathask_k30_what_is_a_machine).prog (OpenLaw.row PySem.Challenge.rw_pathask_k30_what_is_a_machine).prog.main.body) } (OpenLaw.row PySem.Challenge.rw_pathask_k30_what_is_a_machine).prog.main.body) = true := by decide +kernel
theorem look5 : (namesMeet (OpenLaw.row PySem.Challenge.rw_pathask_k30_what_is_a_machine).prog (OpenLaw.row PySem.Challenge.rw_pathask_k30_what_is_a_machine).prog.main.body fun _ n => attrL n) = true := by decide +kernel
theorem looks : looksOpen (OpenLaw.row PySem.Challenge.rw_pathask_k30_what_is_a_machine).prog = true := by
  unfold looksOpen
  rw [look0, look1, look2, look3, look4, look5]
  rfl
theorem said : (OpenLaw.row PySem.Challenge.rw_pathask_k30_what_is_a_machine).wellSaid = true := by
  unfold OpenRow.wellSaid OpenRow.partSaid
  rw [looks]
  simp only [Bool.and_eq_true]
  (repeat' (refine And.intro ?_ ?_)) <;> decide +kernel
end K30XS
set_option maxRecDepth 100000
set_option maxHeartbeats 4000000
/-! Dat1: the data layer's base. A value is a plain tree (a tuple is its items); lists, dicts, instances stand at
addresses of a data heap. Readings are over slots of such values and the data heap. -/
namespace Dt
open PySem PySem.Spec L2

/-! ### the abstract heap grows -/
/-- what values rest on -/
structure LeW (H H' : Hp) : Prop where
  tup : ∀ p xs, H p = some (.tup xs) → H' p = some (.tup xs)
  fl : ∀ p o xs, H p = some (.frz o (.lst xs)) → H' p = some (.frz o (.lst xs))
  ft : ∀ p o xs, H p = some (.frz o (.tup xs)) → H' p = some (.frz o (.tup xs))
structure LeH (H H' : Hp) : Prop where
  tup : ∀ p xs, H p = some (.tup xs) → H' p = some (.tup xs)
  fz : ∀ p o u, H p = some (.frz o u) → H' p = some (.frz o u)
theorem LeH.fl {H H' : Hp} (le : LeH H H') : ∀ p o xs, H p = some (.frz o (.lst xs)) → H' p = some (.frz o (.lst xs)) := fun p o xs h => le.fz p o _ h
theorem LeH.ft {H H' : Hp} (le : LeH H H') : ∀ p o xs, H p = some (.frz o (.tup xs)) → H' p = some (.frz o (.tup xs)) := fun p o xs h => le.fz p o _ h
theorem LeH.w {H H' : Hp} (le : LeH H H') : LeW H H' := ⟨le.tup, le.fl, le.ft⟩
theorem LeH.refl (H : Hp) : LeH H H := ⟨fun _ _ h => h, fun _ _ _ h => h⟩
theorem LeH.trans {H1 H2 H3 : Hp} (a : LeH H1 H2) (b : LeH H2 H3) : LeH H1 H3 :=
  ⟨fun p xs h => b.tup p xs (a.tup p xs h), fun p o xs h => b.fz p o xs (a.fz p o xs h)⟩
theorem LeH.new {H : Hp} {p : Addr} {o : HO} (h : H p = none) : LeH H (upd H p o) :=
  ⟨fun q xs e => by rw [upd_ne (ne_of_none e h)]; exact e, fun q u xs e => by rw [upd_ne (ne_of_none e h)]; exact e⟩
theorem LeH.put {H : Hp} {p : Addr} {o u : HO} (h : H p = some u) (m : Mut (some u)) : LeH H (upd H p o) := by
  have k : ∀ q v, H q = some v → ¬ Mut (some v) → q ≠ p := fun q v e n z => by
    subst z
    rw [h] at e
    cases e
    exact n m
  exact ⟨fun q xs e => by rw [upd_ne (k q _ e fun z => z)]; exact e, fun q u xs e => by rw [upd_ne (k q _ e fun z => z)]; exact e⟩

/-! ### data -/
inductive D where
  | non | bl (b : Bool) | int (i : Int) | str (x : Str) | tup (xs : List D) | rol (xs : List D) | ref (a : Addr)

/-- a list that is read alone, for good -/
def SqR (K : PySem.W.Frag) (H : Hp) (a : Addr) (xs : List V) : Prop :=
  (∃ o, H a = some (.frz o (.lst xs))) ∨
    ∃ (its : Array Value) (n : Nat), K.lookup a = some { cls := .type "list", data := .seq its n } ∧ its.size ≤ sizeLine ∧ Vals xs its.toList
theorem SqR.l {K : PySem.W.Frag} {H : Hp} {a : Addr} {xs : List V} (h : SqR K H a xs) : SqL K H a xs := h.elim (fun z => .inl (.inr z)) fun ⟨its, n, e, hz, r⟩ => .inr ⟨_, its, n, e, rfl, rfl, rfl, hz, r⟩
theorem SqR.le {K : PySem.W.Frag} {H H' : Hp} {a : Addr} {xs : List V} (le : LeH H H') (h : SqR K H a xs) : SqR K H' a xs :=
  h.elim (fun ⟨o, e⟩ => .inl ⟨o, le.fl _ _ _ e⟩) .inr
theorem sqT_le {K : PySem.W.Frag} {H H' : Hp} {a : Addr} {xs : List V} (le : LeH H H') (h : SqT K H a xs) : SqT K H' a xs := by
  rcases h with (h | ⟨o, h⟩) | h
  · exact .inl (.inl (le.tup _ _ h))
  · exact .inl (.inr ⟨o, le.ft _ _ _ h⟩)
  · exact .inr h

theorem SqR.leW {K : PySem.W.Frag} {H H' : Hp} {a : Addr} {xs : List V} (le : LeW H H') (h : SqR K H a xs) : SqR K H' a xs :=
  h.elim (fun ⟨o, e⟩ => .inl ⟨o, le.fl _ _ _ e⟩) .inr
theorem sqT_leW {K : PySem.W.Frag} {H H' : Hp} {a : Addr} {xs : List V} (le : LeW H H') (h : SqT K H a xs) : SqT K H' a xs := by
  rcases h with (h | ⟨o, h⟩) | h
  · exact .inl (.inl (le.tup _ _ h))
  · exact .inl (.inr ⟨o, le.ft _ _ _ h⟩)
  · exact .inr h

mutual
def RD (K : PySem.W.Frag) (H : Hp) : D → V → Prop
  | .non, v => v = .non
  | .bl b, v => v = .bl b
  | .int i, v => v = .int i
  | .str x, v => v = .str x
  | .tup ds, v => ∃ p xs, v = .ref p ∧ SqT K H p xs ∧ RDs K H ds xs
  | .rol ds, v => ∃ p xs, v = .ref p ∧ SqR K H p xs ∧ RDs K H ds xs
  | .ref a, v => v = .ref a
def RDs (K : PySem.W.Frag) (H : Hp) : List D → List V → Prop
  | [], vs => vs = []
  | d :: ds, vs => ∃ v r, vs = v :: r ∧ RD K H d v ∧ RDs K H ds r
end

section
variable {w : World} {K : PySem.W.Frag} {H H' : Hp}
mutual
theorem RD.le (le : LeH H H') : ∀ {d : D} {v : V}, RD K H d v → RD K H' d v
  | .non, _, h => h
  | .bl _, _, h => h
  | .int _, _, h => h
  | .str _, _, h => h
  | .tup ds, _, h => by
    obtain ⟨p, xs, e, t, r⟩ : ∃ p xs, _ = V.ref p ∧ SqT K H p xs ∧ RDs K H ds xs := h
    exact ⟨p, xs, e, sqT_le le t, RDs.le le r⟩
  | .rol ds, _, h => by
    obtain ⟨p, xs, e, t, r⟩ : ∃ p xs, _ = V.ref p ∧ SqR K H p xs ∧ RDs K H ds xs := h
    exact ⟨p, xs, e, t.le le, RDs.le le r⟩
  | .ref _, _, h => h
theorem RDs.le (le : LeH H H') : ∀ {ds : List D} {vs : List V}, RDs K H ds vs → RDs K H' ds vs
  | [], _, h => h
  | _ :: _, _, h => by
    obtain ⟨v, r, e, h1, h2⟩ := h
    exact ⟨v, r, e, RD.le le h1, RDs.le le h2⟩
end
mutual
theorem RD.leW (le : LeW H H') : ∀ {d : D} {v : V}, RD K H d v → RD K H' d v
  | .non, _, h => h
  | .bl _, _, h => h
  | .int _, _, h => h
  | .str _, _, h => h
  | .tup ds, _, h => by
    obtain ⟨p, xs, e, t, r⟩ : ∃ p xs, _ = V.ref p ∧ SqT K H p xs ∧ RDs K H ds xs := h
    exact ⟨p, xs, e, sqT_leW le t, RDs.leW le r⟩
  | .rol ds, _, h => by
    obtain ⟨p, xs, e, t, r⟩ : ∃ p xs, _ = V.ref p ∧ SqR K H p xs ∧ RDs K H ds xs := h
    exact ⟨p, xs, e, t.leW le, RDs.leW le r⟩
  | .ref _, _, h => h
theorem RDs.leW (le : LeW H H') : ∀ {ds : List D} {vs : List V}, RDs K H ds vs → RDs K H' ds vs
  | [], _, h => h
  | _ :: _, _, h => by
    obtain ⟨v, r, e, h1, h2⟩ := h
    exact ⟨v, r, e, RD.leW le h1, RDs.leW le h2⟩
end
theorem RDs.nil : RDs K H [] [] := rfl
theorem RDs.cons {d : D} {ds : List D} {v : V} {vs : List V} (a : RD K H d v) (b : RDs K H ds vs) : RDs K H (d :: ds) (v :: vs) := ⟨v, vs, rfl, a, b⟩
theorem RDs.length : ∀ {ds : List D} {vs : List V}, RDs K H ds vs → ds.length = vs.length
  | [], _, h => by cases h; rfl
  | _ :: ds, _, h => by
    obtain ⟨v, r, rfl, _, h2⟩ := h
    simp [RDs.length h2]
theorem RDs.get : ∀ {ds : List D} {vs : List V} {i : Nat} {d : D}, RDs K H ds vs → ds[i]? = some d → ∃ v, vs[i]? = some v ∧ RD K H d v
  | [], _, _, _, _, e => by simp at e
  | _ :: _, _, 0, _, h, e => by
    obtain ⟨v, r, rfl, h1, h2⟩ := h
    simp at e
    subst e
    exact ⟨v, rfl, h1⟩
  | _ :: ds, _, i + 1, _, h, e => by
    obtain ⟨v, r, rfl, h1, h2⟩ := h
    obtain ⟨u, e1, e2⟩ := RDs.get (i := i) h2 (by simpa using e)
    exact ⟨u, by simpa using e1, e2⟩
theorem RDs.got : ∀ {ds : List D} {vs : List V} {i : Nat} {v : V}, RDs K H ds vs → vs[i]? = some v → ∃ d, ds[i]? = some d ∧ RD K H d v
  | [], _, _, _, h, e => by cases h; simp at e
  | _ :: _, _, 0, _, h, e => by
    obtain ⟨v, r, rfl, h1, h2⟩ := h
    simp at e
    subst e
    exact ⟨_, rfl, h1⟩
  | _ :: ds, _, i + 1, _, h, e => by
    obtain ⟨v, r, rfl, h1, h2⟩ := h
    obtain ⟨u, e1, e2⟩ := RDs.got (i := i) h2 (by simpa using e)
    exact ⟨u, by simpa using e1, e2⟩
theorem RDs.append : ∀ {ds es : List D} {vs us : List V}, RDs K H ds vs → RDs K H es us → RDs K H (ds ++ es) (vs ++ us)
  | [], _, _, _, h, k => by cases h; exact k
  | _ :: _, _, _, _, h, k => by
    obtain ⟨v, r, rfl, h1, h2⟩ := h
    exact ⟨v, r ++ _, rfl, h1, RDs.append h2 k⟩
theorem RDs.snoc {ds : List D} {vs : List V} {d : D} {v : V} (h : RDs K H ds vs) (k : RD K H d v) : RDs K H (ds ++ [d]) (vs ++ [v]) := h.append (.cons k .nil)
theorem RDs.set : ∀ {ds : List D} {vs : List V} {d : D} {v : V} (i : Nat), RDs K H ds vs → RD K H d v → RDs K H (ds.set i d) (vs.set i v)
  | [], _, _, _, _, h, _ => by cases h; rfl
  | _ :: _, _, _, _, 0, h, k => by
    obtain ⟨v, r, rfl, h1, h2⟩ := h
    exact ⟨_, r, rfl, k, h2⟩
  | _ :: _, _, _, _, i + 1, h, k => by
    obtain ⟨v, r, rfl, h1, h2⟩ := h
    exact ⟨v, _, rfl, h1, RDs.set i h2 k⟩
theorem RDs.take : ∀ {ds : List D} {vs : List V} (n : Nat), RDs K H ds vs → RDs K H (ds.take n) (vs.take n)
  | [], _, _, h => by cases h; simp [RDs]
  | _ :: _, _, 0, h => by simp [RDs]
  | _ :: _, _, n + 1, h => by
    obtain ⟨v, r, rfl, h1, h2⟩ := h
    exact ⟨v, _, rfl, h1, RDs.take n h2⟩
theorem RDs.drop : ∀ {ds : List D} {vs : List V} (n : Nat), RDs K H ds vs → RDs K H (ds.drop n) (vs.drop n)
  | [], _, _, h => by cases h; simp [RDs]
  | _ :: _, _, 0, h => h
  | _ :: _, _, n + 1, h => by
    obtain ⟨v, r, rfl, h1, h2⟩ := h
    exact RDs.drop n h2
theorem RDs.reverse : ∀ {ds : List D} {vs : List V}, RDs K H ds vs → RDs K H ds.reverse vs.reverse
  | [], _, h => by cases h; rfl
  | _ :: _, _, h => by
    obtain ⟨v, r, rfl, h1, h2⟩ := h
    rw [List.reverse_cons, List.reverse_cons]
    exact (RDs.reverse h2).snoc h1
theorem RDs.dropLast : ∀ {ds : List D} {vs : List V}, RDs K H ds vs → RDs K H ds.dropLast vs.dropLast := fun {ds vs} h => by
  rw [List.dropLast_eq_take, List.dropLast_eq_take, h.length]
  exact h.take _
theorem RDs.eraseIdx : ∀ {ds : List D} {vs : List V} (n : Nat), RDs K H ds vs → RDs K H (ds.eraseIdx n) (vs.eraseIdx n)
  | [], _, _, h => by cases h; rfl
  | _ :: _, _, 0, h => by
    obtain ⟨v, r, rfl, h1, h2⟩ := h
    exact h2
  | _ :: _, _, n + 1, h => by
    obtain ⟨v, r, rfl, h1, h2⟩ := h
    exact ⟨v, _, rfl, h1, RDs.eraseIdx n h2⟩
theorem RDs.ints : ∀ {ns : List Int} {vs : List V}, RDs K H (ns.map D.int) vs ↔ vs = ns.map V.int
  | [], _ => Iff.rfl
  | n :: ns, vs => by
    constructor
    · rintro ⟨v, r, rfl, h1, h2⟩
      cases h1
      rw [RDs.ints.mp h2]
      rfl
    · rintro rfl
      exact ⟨_, _, rfl, rfl, RDs.ints.mpr rfl⟩
theorem RDs.bls : ∀ {ns : List Bool} {vs : List V}, RDs K H (ns.map D.bl) vs ↔ vs = ns.map V.bl
  | [], _ => Iff.rfl
  | n :: ns, vs => by
    constructor
    · rintro ⟨v, r, rfl, h1, h2⟩
      cases h1
      rw [RDs.bls.mp h2]
      rfl
    · rintro rfl
      exact ⟨_, _, rfl, rfl, RDs.bls.mpr rfl⟩
end

/-! ### tables -/
section
variable {κ α : Type} [DecidableEq κ]
def lk : List (κ × α) → κ → Option α
  | [], _ => none
  | (j, v) :: r, k => if j = k then some v else lk r k
def pt (l : List (κ × α)) (k : κ) (v : α) : List (κ × α) :=
  if (lk l k).isSome then l.map (fun q => if q.1 = k then (q.1, v) else q) else l ++ [(k, v)]
def dr (l : List (κ × α)) (k : κ) : List (κ × α) := l.filter fun q => decide (q.1 ≠ k)
end
def RKs {κ : Type} (K : PySem.W.Frag) (H : Hp) : List (κ × D) → List (κ × V) → Prop
  | [], ws => ws = []
  | (k, d) :: r, ws => ∃ v s, ws = (k, v) :: s ∧ RD K H d v ∧ RKs K H r s
section
variable {w : World} {K : PySem.W.Frag} {H H' : Hp} {κ : Type}
theorem RKs.le (le : LeH H H') : ∀ {kvs : List (κ × D)} {ws : List (κ × V)}, RKs K H kvs ws → RKs K H' kvs ws
  | [], _, h => h
  | (_, _) :: _, _, h => by
    obtain ⟨v, r, e, h1, h2⟩ := h
    exact ⟨v, r, e, h1.le le, RKs.le le h2⟩
theorem RKs.leW (le : LeW H H') : ∀ {kvs : List (κ × D)} {ws : List (κ × V)}, RKs K H kvs ws → RKs K H' kvs ws
  | [], _, h => h
  | (_, _) :: _, _, h => by
    obtain ⟨v, r, e, h1, h2⟩ := h
    exact ⟨v, r, e, h1.leW le, RKs.leW le h2⟩
theorem RKs.length : ∀ {kvs : List (κ × D)} {ws : List (κ × V)}, RKs K H kvs ws → kvs.length = ws.length
  | [], _, h => by cases h; rfl
  | (_, _) :: _, _, h => by
    obtain ⟨v, r, rfl, h1, h2⟩ := h
    simp [RKs.length h2]
theorem RKs.append : ∀ {kvs ls : List (κ × D)} {ws us : List (κ × V)}, RKs K H kvs ws → RKs K H ls us → RKs K H (kvs ++ ls) (ws ++ us)
  | [], _, _, _, h, k => by cases h; exact k
  | (_, _) :: _, _, _, _, h, k => by
    obtain ⟨v, r, rfl, h1, h2⟩ := h
    exact ⟨v, r ++ _, rfl, h1, RKs.append h2 k⟩
theorem RKs.get : ∀ {kvs : List (κ × D)} {ws : List (κ × V)} {i : Nat} {k : κ} {v : V}, RKs K H kvs ws → ws[i]? = some (k, v) → ∃ d, kvs[i]? = some (k, d) ∧ RD K H d v
  | [], _, _, _, _, h, e => by cases h; simp at e
  | (_, _) :: _, _, 0, _, _, h, e => by
    obtain ⟨v, r, rfl, h1, h2⟩ := h
    simp at e
    obtain ⟨rfl, rfl⟩ := e
    exact ⟨_, rfl, h1⟩
  | (_, _) :: _, _, i + 1, _, _, h, e => by
    obtain ⟨v, r, rfl, h1, h2⟩ := h
    obtain ⟨u, e1, e2⟩ := RKs.get (i := i) h2 (by simpa using e)
    exact ⟨u, by simpa using e1, e2⟩
variable [DecidableEq κ]
theorem RKs.lk : ∀ {kvs : List (κ × D)} {ws : List (κ × V)} (k : κ), RKs K H kvs ws → match Dt.lk kvs k, valV ws k with | some d, some v => RD K H d v | none, none => True | _, _ => False
  | [], _, k, h => by cases h; simp [Dt.lk, valV]
  | (j, d) :: r, _, k, h => by
    obtain ⟨v, s, rfl, h1, h2⟩ := h
    by_cases e : j = k
    · rw [valV_pos e]
      simp [Dt.lk, e, h1]
    · rw [valV_neg e]
      simp only [Dt.lk, if_neg e]
      exact RKs.lk k h2
theorem RKs.nn {kvs : List (κ × D)} {ws : List (κ × V)} {k : κ} (h : RKs K H kvs ws) (e : Dt.lk kvs k = none) : valV ws k = none := by
  have := h.lk k
  rw [e] at this
  cases q : valV ws k with
  | none => rfl
  | some v => rw [q] at this; exact this.elim
theorem RKs.ss {kvs : List (κ × D)} {ws : List (κ × V)} {k : κ} {d : D} (h : RKs K H kvs ws) (e : Dt.lk kvs k = some d) : ∃ v, valV ws k = some v ∧ RD K H d v := by
  have := h.lk k
  rw [e] at this
  cases q : valV ws k with
  | none => rw [q] at this; exact this.elim
  | some v => rw [q] at this; exact ⟨v, rfl, this⟩
theorem RKs.isSome {kvs : List (κ × D)} {ws : List (κ × V)} (k : κ) (h : RKs K H kvs ws) : (valV ws k).isSome = (Dt.lk kvs k).isSome := by
  cases e : Dt.lk kvs k with
  | none => rw [h.nn e]; rfl
  | some d =>
    obtain ⟨v, q, _⟩ := h.ss e
    rw [q]
    rfl
theorem RKs.mapv {k : κ} {d : D} {v : V} (rv : RD K H d v) : ∀ {kvs : List (κ × D)} {ws : List (κ × V)}, RKs K H kvs ws →
    RKs K H (kvs.map fun q => if q.1 = k then (q.1, d) else q) (ws.map fun q => if q.1 = k then (q.1, v) else q)
  | [], _, h => by cases h; rfl
  | (j, _) :: _, _, h => by
    obtain ⟨w, s, rfl, h1, h2⟩ := h
    by_cases e : j = k
    · simp only [List.map_cons, if_pos e]
      exact ⟨v, _, rfl, rv, RKs.mapv rv h2⟩
    · simp only [List.map_cons, if_neg e]
      exact ⟨w, _, rfl, h1, RKs.mapv rv h2⟩
theorem RKs.pt {kvs : List (κ × D)} {ws : List (κ × V)} {k : κ} {d : D} {v : V} (h : RKs K H kvs ws) (rv : RD K H d v) : RKs K H (Dt.pt kvs k d) (putK ws k v) := by
  unfold Dt.pt putK
  rw [valV_any, h.isSome k]
  split
  · exact RKs.mapv rv h
  · exact h.append ⟨v, [], rfl, rv, rfl⟩
theorem RKs.dr {k : κ} : ∀ {kvs : List (κ × D)} {ws : List (κ × V)}, RKs K H kvs ws → RKs K H (Dt.dr kvs k) (dropK ws k)
  | [], _, h => by cases h; rfl
  | (j, _) :: _, _, h => by
    obtain ⟨w, s, rfl, h1, h2⟩ := h
    unfold Dt.dr dropK
    by_cases e : j = k
    · simp only [List.filter_cons, decide_eq_true_eq, ne_eq, e, not_true, decide_false, Bool.false_eq_true, if_false]
      exact RKs.dr h2
    · simp only [List.filter_cons, decide_eq_true_eq, ne_eq, e, not_false_eq_true, decide_true, if_true]
      exact ⟨w, _, rfl, h1, RKs.dr h2⟩
end

/-! ### data may be told apart -/
mutual
def deq : D → D → Bool
  | .non, .non => true
  | .bl a, .bl b => decide (a = b)
  | .int a, .int b => decide (a = b)
  | .str a, .str b => decide (a = b)
  | .tup a, .tup b => deqs a b
  | .rol a, .rol b => deqs a b
  | .ref a, .ref b => decide (a = b)
  | _, _ => false
def deqs : List D → List D → Bool
  | [], [] => true
  | a :: as, b :: bs => deq a b && deqs as bs
  | _, _ => false
end
mutual
theorem deq_self : ∀ a : D, deq a a = true
  | .non => rfl
  | .bl a => by simp [deq]
  | .int a => by simp [deq]
  | .str a => by simp [deq]
  | .tup a => by rw [deq]; exact deqs_self a
  | .rol a => by rw [deq]; exact deqs_self a
  | .ref a => by simp [deq]
theorem deqs_self : ∀ a : List D, deqs a a = true
  | [] => rfl
  | a :: as => by rw [deqs, deq_self a, deqs_self as]; rfl
end
mutual
theorem of_deq : ∀ a b : D, deq a b = true → a = b
  | .non, b, h => by cases b <;> simp [deq] at h; rfl
  | .bl a, b, h => by cases b <;> simp [deq] at h; rw [h]
  | .int a, b, h => by cases b <;> simp [deq] at h; rw [h]
  | .str a, b, h => by cases b <;> simp [deq] at h; rw [h]
  | .tup a, b, h => by
    cases b <;> simp [deq] at h
    rw [of_deqs a _ h]
  | .rol a, b, h => by
    cases b <;> simp [deq] at h
    rw [of_deqs a _ h]
  | .ref a, b, h => by cases b <;> simp [deq] at h; rw [h]
theorem of_deqs : ∀ a b : List D, deqs a b = true → a = b
  | [], b, h => by cases b <;> simp [deqs] at h; rfl
  | x :: xs, b, h => by
    cases b with
    | nil => simp [deqs] at h
    | cons y ys =>
      simp [deqs] at h
      rw [of_deq x y h.1, of_deqs xs ys h.2]
end
instance : DecidableEq D := fun a b => if h : deq a b = true then .isTrue (of_deq a b h) else .isFalse fun e => h (e ▸ deq_self a)
/-! ### keys that are tuples -/
mutual
def nkey : D → Option NestedKey
  | .non => some .none
  | .int i => some (.num i)
  | .str x => some (.text x)
  | .tup ds => match nkeys ds with | some ks => some (.tup ks) | none => none
  | _ => none
def nkeys : List D → Option (List NestedKey)
  | [] => some []
  | d :: ds => match nkey d, nkeys ds with | some k, some ks => some (k :: ks) | _, _ => none
end
mutual
theorem nkey_inj : ∀ (a b : D) (k : NestedKey), nkey a = some k → nkey b = some k → a = b
  | .non, b, k, h, h' => by
    simp only [nkey, Option.some.injEq] at h
    subst h
    cases b with
    | tup ds => simp only [nkey] at h'; split at h' <;> cases h'
    | non => rfl
    | _ => simp [nkey] at h'
  | .int i, b, k, h, h' => by
    simp only [nkey, Option.some.injEq] at h
    subst h
    cases b with
    | tup ds => simp only [nkey] at h'; split at h' <;> cases h'
    | int j => simp [nkey] at h'; rw [h']
    | _ => simp [nkey] at h'
  | .str i, b, k, h, h' => by
    simp only [nkey, Option.some.injEq] at h
    subst h
    cases b with
    | tup ds => simp only [nkey] at h'; split at h' <;> cases h'
    | str j => simp [nkey] at h'; rw [h']
    | _ => simp [nkey] at h'
  | .tup ds, b, k, h, h' => by
    simp only [nkey] at h
    split at h
    · rename_i ks e
      cases h
      cases b with
      | tup es =>
        simp only [nkey] at h'
        split at h'
        · rename_i ks' e'
          cases h'
          rw [nkeys_inj ds es _ e e']
        · cases h'
      | _ => simp [nkey] at h'
    · cases h
  | .bl _, _, _, h, _ => by simp [nkey] at h
  | .rol _, _, _, h, _ => by simp [nkey] at h
  | .ref _, _, _, h, _ => by simp [nkey] at h
theorem nkeys_inj : ∀ (a b : List D) (k : List NestedKey), nkeys a = some k → nkeys b = some k → a = b
  | [], b, k, h, h' => by
    simp only [nkeys, Option.some.injEq] at h
    subst h
    cases b with
    | nil => rfl
    | cons y ys => simp only [nkeys] at h'; split at h' <;> cases h'
  | x :: xs, b, k, h, h' => by
    simp only [nkeys] at h
    split at h
    · rename_i k1 ks e1 e2
      cases h
      cases b with
      | nil => simp [nkeys] at h'
      | cons y ys =>
        simp only [nkeys] at h'
        split at h'
        · rename_i k2 ks2 f1 f2
          cases h'
          rw [nkey_inj x y _ e1 f1, nkeys_inj xs ys _ e2 f2]
        · cases h'
    · cases h
end
/-- a dict's rows as they lie: the key, its address, the value -/
def RawRows (w : World) (rows : List (NestedKey × Addr × V)) (a : Addr) (h : Heap) : Prop := (a == sysModules) = false ∧ ∃ o es ep, h.get? a = some o ∧ o.ExactDict ∧ o.data = .dict es ep ∧
  Paired (fun (r : NestedKey × Addr × V) (e : DictEntry) => e.hash = r.1.hash w ∧ e.key = .ref r.2.1 ∧ RelV r.2.2 e.val) rows es.toList
abbrev dnHO (w : World) (rows : List (NestedKey × Addr × V)) (a : Addr) : HO := .ext (RawRows w rows a)
/-- rows beside keys and values -/
def RRows (K : PySem.W.Frag) (H : Hp) : List (D × D) → List (NestedKey × Addr × V) → Prop
  | [], rows => rows = []
  | (k, d) :: r, rows => ∃ nk b v s, rows = (nk, b, v) :: s ∧ nkey k = some nk ∧ nk.depth ≤ 8 ∧ RD K H k (.ref b) ∧ RD K H d v ∧ RRows K H r s
theorem RRows.le {K : PySem.W.Frag} {H H' : Hp} (le : LeH H H') : ∀ {kvs : List (D × D)} {rows : List (NestedKey × Addr × V)}, RRows K H kvs rows → RRows K H' kvs rows
  | [], _, h => h
  | (_, _) :: _, _, ⟨nk, b, v, s, e, e1, e2, r1, r2, h⟩ => ⟨nk, b, v, s, e, e1, e2, r1.le le, r2.le le, RRows.le le h⟩
theorem RRows.leW {K : PySem.W.Frag} {H H' : Hp} (le : LeW H H') : ∀ {kvs : List (D × D)} {rows : List (NestedKey × Addr × V)}, RRows K H kvs rows → RRows K H' kvs rows
  | [], _, h => h
  | (_, _) :: _, _, ⟨nk, b, v, s, e, e1, e2, r1, r2, h⟩ => ⟨nk, b, v, s, e, e1, e2, r1.leW le, r2.leW le, RRows.leW le h⟩
/-! ### the data heap -/
inductive Ob where
  | lst (xs : List D) | dK (kvs : List (Key × D)) | dN (kvs : List (D × D)) | ins (C : Addr) (fs : List (Str × D))
  | exc (C dd : Addr) | xd (fs : List (Str × D)) | ex0 (C : Addr) | ex1 (C dx : Addr) | xm (fs : List (Str × D))
  | fK (kvs : List (Key × D)) | fN (kvs : List (D × D))
abbrev DH := Addr → Option Ob
def upo (S : DH) (a : Addr) (o : Ob) : DH := fun b => if b = a then some o else S b
@[simp] theorem upo_same {S : DH} {a : Addr} {o : Ob} : upo S a o a = some o := if_pos rfl
theorem upo_ne {S : DH} {a b : Addr} {o : Ob} (h : b ≠ a) : upo S a o b = S b := if_neg h
@[simp] theorem upo_upo {S : DH} {a : Addr} {o u : Ob} : upo (upo S a o) a u = upo S a u := by
  funext b
  unfold upo
  split <;> rfl
/-- a new object o: p its address, the heap with it -/
def newO (S : DH) (o : Ob) (Q : Addr → DH → Prop) : Prop := ∀ p, S p = none → Q p (upo S p o)
/-- an exception: its class, where its fields lie -/
def excP (C dd a : Addr) (h : Heap) : Prop := ∃ (oe : Obj) (vs : Array Value), h.get? a = some oe ∧ oe.cls = .ref C ∧ oe.dict = some dd ∧ oe.data = .fields vs
abbrev excHO (C dd a : Addr) : HO := .ext (excP C dd a)
def ROb (w : World) (K : PySem.W.Frag) (H : Hp) (a : Addr) : Ob → Prop
  | .lst ds => ∃ xs, H a = some (.lst xs) ∧ RDs K H ds xs
  | .dK kvs => ∃ ws, H a = some (.dK ws) ∧ RKs K H kvs ws
  | .dN kvs => ∃ rows, H a = some (dnHO w rows a) ∧ kvs.length ≤ sizeLine ∧ (kvs.map (·.1)).Nodup ∧ RRows K H kvs rows
  | .ins C fs => ∃ dx ws, H a = some (.ins C dx ws) ∧ RKs K H fs ws
  | .exc C dd => H a = some (excHO C dd a)
  | .xd fs => ∃ ws, H a = some (.xd ws) ∧ RKs K H fs ws
  | .ex0 C => H a = some (exo a C none)
  | .ex1 C dx => H a = some (exo a C (some dx))
  | .xm fs => ∃ ws, H a = some (exd a ws) ∧ RKs K H fs ws
  | .fK kvs => ∃ ws, (∃ o, H a = some (.frz o (.dK ws))) ∧ RKs K H kvs ws
  | .fN kvs => ∃ rows, (∃ o, H a = some (.frz o (dnHO w rows a))) ∧ kvs.length ≤ sizeLine ∧ (kvs.map (·.1)).Nodup ∧ RRows K H kvs rows
def Rep (w : World) (K : PySem.W.Frag) (S : DH) (H : Hp) : Prop := ∀ a o, S a = some o → ROb w K H a o
section
variable {w : World} {K : PySem.W.Frag} {H H' : Hp} {S : DH} {a p : Addr} {o : Ob}
theorem ROb.mut (h : ROb w K H a o) : ∃ u, H a = some u ∧ True := by
  cases o with
  | lst _ => obtain ⟨xs, e, _⟩ := h; exact ⟨_, e, trivial⟩
  | dK _ => obtain ⟨xs, e, _⟩ := h; exact ⟨_, e, trivial⟩
  | dN _ => obtain ⟨xs, e, _⟩ := h; exact ⟨_, e, trivial⟩
  | ins _ _ => obtain ⟨dx, xs, e, _⟩ := h; exact ⟨_, e, trivial⟩
  | exc _ _ => exact ⟨_, h, trivial⟩
  | ex0 _ => exact ⟨_, h, trivial⟩
  | ex1 _ _ => exact ⟨_, h, trivial⟩
  | xd _ => obtain ⟨xs, e, _⟩ := h; exact ⟨_, e, trivial⟩
  | xm _ => obtain ⟨xs, e, _⟩ := h; exact ⟨_, e, trivial⟩
  | fK _ => obtain ⟨xs, ⟨o, e⟩, _⟩ := h; exact ⟨_, e, trivial⟩
  | fN _ => obtain ⟨xs, ⟨o, e⟩, _⟩ := h; exact ⟨_, e, trivial⟩
theorem ROb.at (h : ROb w K H a o) (le : LeH H H') (e : H' a = H a) : ROb w K H' a o := by
  cases o with
  | lst _ => obtain ⟨xs, q, r⟩ := h; exact ⟨xs, e.trans q, r.le le⟩
  | dK _ => obtain ⟨xs, q, r⟩ := h; exact ⟨xs, e.trans q, r.le le⟩
  | dN _ => obtain ⟨xs, q, l, n, r⟩ := h; exact ⟨xs, e.trans q, l, n, r.le le⟩
  | ins _ _ => obtain ⟨dx, xs, q, r⟩ := h; exact ⟨dx, xs, e.trans q, r.le le⟩
  | exc _ _ => exact e.trans h
  | ex0 _ => exact e.trans h
  | ex1 _ _ => exact e.trans h
  | xd _ => obtain ⟨xs, q, r⟩ := h; exact ⟨xs, e.trans q, r.le le⟩
  | xm _ => obtain ⟨xs, q, r⟩ := h; exact ⟨xs, e.trans q, r.le le⟩
  | fK _ => obtain ⟨xs, ⟨o, q⟩, r⟩ := h; exact ⟨xs, ⟨o, e.trans q⟩, r.le le⟩
  | fN _ => obtain ⟨xs, ⟨o, q⟩, l, n, r⟩ := h; exact ⟨xs, ⟨o, e.trans q⟩, l, n, r.le le⟩
theorem Rep.free (r : Rep w K S H) (h : H p = none) : S p = none := by
  cases e : S p with
  | none => rfl
  | some o =>
    obtain ⟨u, q, _⟩ := (r p o e).mut
    rw [h] at q
    cases q
/-- a new object that the data heap does not tell -/
theorem Rep.garb {u : HO} (r : Rep w K S H) (h : H p = none) : Rep w K S (upd H p u) := fun b o e => by
  obtain ⟨v, q, _⟩ := (r b o e).mut
  exact (r b o e).at (LeH.new h) (upd_ne (ne_of_none q h))
theorem Rep.new {u : HO} (r : Rep w K S H) (h : H p = none) (n : ROb w K (upd H p u) p o) : Rep w K (upo S p o) (upd H p u) := fun b ob e => by
  by_cases z : b = p
  · subst z
    rw [upo_same] at e
    cases e
    exact n
  · rw [upo_ne z] at e
    exact (r b ob e).at (LeH.new h) (upd_ne z)
theorem Rep.put {u v : HO} (r : Rep w K S H) (h : H p = some v) (m : Mut (some v)) (n : ROb w K (upd H p u) p o) : Rep w K (upo S p o) (upd H p u) := fun b ob e => by
  by_cases z : b = p
  · subst z
    rw [upo_same] at e
    cases e
    exact n
  · rw [upo_ne z] at e
    exact (r b ob e).at (LeH.put h m) (upd_ne z)
end

def opt {α : Type} (o : Option α) (k : α → Prop) : Prop := match o with | some x => k x | none => False
@[simp] theorem opt_some {α : Type} (x : α) (k : α → Prop) : opt (some x) k = k x := rfl
@[simp] theorem opt_none {α : Type} (k : α → Prop) : opt none k = False := rfl
theorem opt_mono {α : Type} {o : Option α} {k k' : α → Prop} (h : ∀ x, k x → k' x) (q : opt o k) : opt o k' := by
  cases o with
  | none => exact q
  | some x => exact h x q
theorem opt_ex {α : Type} {o : Option α} {k : α → Prop} (q : opt o k) : ∃ x, o = some x ∧ k x := by
  cases o with
  | none => exact q.elim
  | some x => exact ⟨x, rfl, q⟩
/-- the items of a list -/
def seqD (S : DH) (d : D) : Option (List D) := match d with
  | .rol xs => some xs
  | .ref a => (match S a with | some (.lst xs) => some xs | _ => none)
  | _ => none
section
variable {S : DH}
@[simp] theorem seqD_rol (xs : List D) : seqD S (.rol xs) = some xs := rfl
@[simp] theorem seqD_ref (a : Addr) : seqD S (.ref a) = (match S a with | some (.lst xs) => some xs | _ => none) := rfl
@[simp] theorem seqD_tup (xs : List D) : seqD S (.tup xs) = none := rfl
@[simp] theorem seqD_str (xs : Str) : seqD S (.str xs) = none := rfl
@[simp] theorem seqD_int (xs : Int) : seqD S (.int xs) = none := rfl
@[simp] theorem seqD_non : seqD S .non = none := rfl
@[simp] theorem seqD_bl (b : Bool) : seqD S (.bl b) = none := rfl
end
/-- a list of ours, written or not -/
def SqX (K : PySem.W.Frag) (H : Hp) (a : Addr) (xs : List V) : Prop := H a = some (.lst xs) ∨ SqR K H a xs
theorem SqX.l {K : PySem.W.Frag} {H : Hp} {a : Addr} {xs : List V} (h : SqX K H a xs) : SqL K H a xs := h.elim (fun z => .inl (.inl z)) SqR.l
theorem seqD_rd {w : World} {K : PySem.W.Frag} {S : DH} {H : Hp} {d : D} {v : V} {ds : List D} (rep : Rep w K S H) (rd : RD K H d v) (e : seqD S d = some ds) : ∃ a xs, v = .ref a ∧ SqX K H a xs ∧ RDs K H ds xs := by
  cases d with
  | rol xs =>
    cases e
    obtain ⟨p, ys, rfl, sq, rs⟩ : ∃ p xs, v = V.ref p ∧ SqR K H p xs ∧ RDs K H ds xs := rd
    exact ⟨p, ys, rfl, .inr sq, rs⟩
  | ref a =>
    simp only [seqD_ref] at e
    split at e
    · rename_i xs ea
      cases e
      obtain ⟨ys, e0, rs⟩ : ∃ ys, H a = some (.lst ys) ∧ RDs K H ds ys := rep a _ ea
      exact ⟨a, ys, rd, .inl e0, rs⟩
    · cases e
  | _ => simp at e
theorem sqX_get {X : Cx} {pins : List (Addr × Obj)} {σ : L2.St} {H : Hp} {s : Shared} {a : Addr} {xs : List V} (I : Inv X pins σ H s) (h : SqX X.K H a xs) :
    ∃ (its : List Value) (n : Nat), Vals xs its ∧ xs.length ≤ sizeLine ∧ xs.length = its.length ∧ s.heap.get? a = some { cls := .type "list", data := .seq its.toArray n } := by
  rcases h with h | ⟨o, h⟩ | ⟨its, n, h, hz, r⟩
  · obtain ⟨z, its, n, r, e⟩ := I.hok a _ h
    exact ⟨its, n, r, z, r.length, e⟩
  · obtain ⟨_, z, its, n, r, e⟩ := I.hok a _ h
    exact ⟨its, n, r, z, r.length, e⟩
  · exact ⟨its.toList, n, r, by rw [r.length, Array.length_toList]; exact hz, r.length, by simpa using I.kIn a _ h⟩
def catD (S : DH) (d e : D) (k : List D → Prop) : Prop := opt (seqD S d) fun xs => opt (seqD S e) fun ys => xs.length + ys.length ≤ sizeLine ∧ k (xs ++ ys)
/-! ### slots -/
abbrev DSt := List (Option D)
abbrev DK := D → DH → Prop
/-- what is wanted of an exception: its class, its fields, the slots, the heap -/
abbrev DW := Addr → List (Str × D) → DSt → DH → Prop
abbrev DTE := DW → DSt → DH → DK → Prop
abbrev DTT := DW → DSt → DH → (Bool → DH → Prop) → Prop
abbrev DTA := DW → DSt → DH → (List D → DH → Prop) → Prop
structure RSt (K : PySem.W.Frag) (H : Hp) (τ : DSt) (σ : St) : Prop where
  len : τ.length = σ.length
  get : ∀ (i : Nat) d, τ[i]? = some (some d) → ∃ v, σ[i]? = some (some v) ∧ RD K H d v
structure Rel (w : World) (K : PySem.W.Frag) (τ : DSt) (S : DH) (σ : St) (H : Hp) : Prop where
  st : RSt K H τ σ
  rep : Rep w K S H
theorem RSt.le {K : PySem.W.Frag} {H H' : Hp} {τ : DSt} {σ : St} (le : LeH H H') (r : RSt K H τ σ) : RSt K H' τ σ := ⟨r.len, fun i d e => by
  obtain ⟨v, q, rv⟩ := r.get i d e
  exact ⟨v, q, rv.le le⟩⟩
theorem RSt.set {K : PySem.W.Frag} {H : Hp} {τ : DSt} {σ : St} (r : RSt K H τ σ) (i : Nat) {d : D} {v : V} (rv : RD K H d v) : RSt K H (τ.set i (some d)) (σ.set i (some v)) := by
  refine ⟨by simp [r.len], fun j e h => ?_⟩
  rw [List.getElem?_set] at h ⊢
  by_cases z : i = j
  · subst z
    rw [if_pos rfl] at h
    rw [if_pos rfl]
    by_cases l : i < τ.length
    · rw [if_pos l] at h
      cases h
      rw [if_pos (by rw [← r.len]; exact l)]
      exact ⟨v, rfl, rv⟩
    · rw [if_neg l] at h
      cases h
  · rw [if_neg z] at h
    rw [if_neg z]
    exact r.get j e h
theorem Rel.le {w : World} {K : PySem.W.Frag} {H H' : Hp} {τ : DSt} {S S' : DH} {σ : St} (r : Rel w K τ S σ H) (le : LeH H H') (h : Rep w K S' H') : Rel w K τ S' σ H' := ⟨r.st.le le, h⟩

/-! ### wishes, lifts -/
def upW (w : World) (K : PySem.W.Frag) (E : DW) (H0 : Hp) : WX := fun cls d σ H => ∃ (C : Addr) (fs : List (Str × D)) (τ : DSt) (S : DH) (dd : Addr) (ws : List (Str × V)),
  cls = .ref C ∧ d = some dd ∧ LeH H0 H ∧ Rel w K τ S σ H ∧ H dd = some (.xd ws) ∧ RKs K H fs ws ∧ S dd = none ∧ E C fs τ S
theorem upW.imp {w : World} {K : PySem.W.Frag} {E E' : DW} {H0 H1 : Hp} (le : LeH H0 H1) (k : ∀ C fs τ S, E C fs τ S → E' C fs τ S) {cls : Value} {d : Option Addr} {σ : St} {H : Hp} (h : upW w K E H1 cls d σ H) : upW w K E' H0 cls d σ H := by
  obtain ⟨C, fs, τ, S, dd, ws, e1, e2, l, r, x, y, z, q⟩ := h
  exact ⟨C, fs, τ, S, dd, ws, e1, e2, le.trans l, r, x, y, z, k _ _ _ _ q⟩
def Wish (X : Cx) (E : DW) (H0 : Hp) : Prop := Takes X (upW X.w X.K E H0)
theorem Wish.le {X : Cx} {E : DW} {H0 H1 : Hp} (w : Wish X E H0) (le : LeH H0 H1) : Wish X E H1 := Takes.imp w fun _ _ _ _ h => upW.imp le (fun _ _ _ _ q => q) h
abbrev DW0 : DW := fun _ _ _ _ => False
theorem wish0 {X : Cx} {H0 : Hp} : Wish X DW0 H0 := fun u s' ⟨a, B, sI, pins, σ, H, cls, d, e, I, nb, up, sky, na, os, ag, w⟩ => by
  obtain ⟨_, _, _, _, _, _, _, _, _, _, _, _, _, q⟩ := w
  exact q.elim

def upE (X : Cx) (t : DTE) : TE := fun σ H Q => ∃ E τ S, Wish X E H ∧ Rel X.w X.K τ S σ H ∧ t E τ S fun d S' => ∀ v H', LeH H H' → Rep X.w X.K S' H' → RD X.K H' d v → Q v H'
def upT (X : Cx) (t : DTT) : TT := fun σ H Q => ∃ E τ S, Wish X E H ∧ Rel X.w X.K τ S σ H ∧ t E τ S fun b S' => ∀ H', LeH H H' → Rep X.w X.K S' H' → Q b H'
def upA (X : Cx) (t : DTA) : TA := fun σ H Q => ∃ E τ S, Wish X E H ∧ Rel X.w X.K τ S σ H ∧ t E τ S fun ds S' => ∀ vs H', LeH H H' → Rep X.w X.K S' H' → RDs X.K H' ds vs → Q vs H'
structure DE (X : Cx) (e : Expr) (t : DTE) : Prop where
  mono : ∀ (E E' : DW) τ S (Q Q' : DK), (∀ C fs τ S, E C fs τ S → E' C fs τ S) → (∀ d S', Q d S' → Q' d S') → t E τ S Q → t E' τ S Q'
  run : PE X e (upE X t)
structure DT (X : Cx) (e : Expr) (t : DTT) : Prop where
  mono : ∀ (E E' : DW) τ S (Q Q' : Bool → DH → Prop), (∀ C fs τ S, E C fs τ S → E' C fs τ S) → (∀ d S', Q d S' → Q' d S') → t E τ S Q → t E' τ S Q'
  run : PT X e (upT X t)
structure DWt (X : Cx) (e : Expr) (t : DTT) : Prop where
  mono : ∀ (E E' : DW) τ S (Q Q' : Bool → DH → Prop), (∀ C fs τ S, E C fs τ S → E' C fs τ S) → (∀ d S', Q d S' → Q' d S') → t E τ S Q → t E' τ S Q'
  run : PW X e (upT X t)
structure DA (X : Cx) (es : List Expr) (t : DTA) : Prop where
  mono : ∀ (E E' : DW) τ S (Q Q' : List D → DH → Prop), (∀ C fs τ S, E C fs τ S → E' C fs τ S) → (∀ d S', Q d S' → Q' d S') → t E τ S Q → t E' τ S Q'
  run : PA X es (upA X t)
theorem pE_imp {X : Cx} {e : Expr} {t t' : TE} (h : PE X e t) (k : ∀ σ H Q, t' σ H Q → t σ H Q) : PE X e t' := ⟨fun pins s σ H Q I q => h.run pins s σ H Q I (k σ H Q q)⟩
theorem pT_imp {X : Cx} {e : Expr} {t t' : TT} (h : PT X e t) (k : ∀ σ H Q, t' σ H Q → t σ H Q) : PT X e t' := ⟨fun pins s σ H Q I q => h.run pins s σ H Q I (k σ H Q q)⟩
theorem pW_imp {X : Cx} {e : Expr} {t t' : TT} (h : PW X e t) (k : ∀ σ H Q, t' σ H Q → t σ H Q) : PW X e t' := ⟨fun wh pins s σ H Q I q => h.run wh pins s σ H Q I (k σ H Q q)⟩
theorem pA_imp {X : Cx} {e : List Expr} {t t' : TA} (h : PA X e t) (k : ∀ σ H Q, t' σ H Q → t σ H Q) : PA X e t' := ⟨fun pos pins s σ H Q I q => h.run pos pins s σ H Q I (k σ H Q q)⟩
theorem pS_imp {X : Cx} {e : Stmt} {t t' : TS} (h : PS X e t) (k : ∀ D σ H, t' D σ H → t D σ H) : PS X e t' := ⟨fun pins s σ H D I q => h.run pins s σ H D I (k D σ H q)⟩
theorem pSs_imp {X : Cx} {e : List Stmt} {t t' : TS} (h : PSs X e t) (k : ∀ D σ H, t' D σ H → t D σ H) : PSs X e t' := ⟨fun pins s σ H D I q => h.run pins s σ H D I (k D σ H q)⟩

section
variable {X : Cx} {e : Expr} {es : List Expr} {E : DW} {τ : DSt} {S : DH} {σ : St} {H : Hp}
/-- from a data reading to the layer's, the end weakened -/
theorem DE.to {t : DTE} (h : DE X e t) {Q0 : DK} {Q : VK} (w : Wish X E H) (r : Rel X.w X.K τ S σ H) (q : t E τ S Q0)
    (k : ∀ d S' v H', LeH H H' → Wish X E H' → Rel X.w X.K τ S' σ H' → RD X.K H' d v → Q0 d S' → Q v H') : upE X t σ H Q :=
  ⟨E, τ, S, w, r, h.mono _ _ _ _ _ _ (fun _ _ _ _ z => z) (fun d S' z v H' le rp rd => k d S' v H' le (w.le le) (r.le le rp) rd z) q⟩
theorem DT.to {t : DTT} (h : DT X e t) {Q0 : Bool → DH → Prop} {Q : Bool → Hp → Prop} (w : Wish X E H) (r : Rel X.w X.K τ S σ H) (q : t E τ S Q0)
    (k : ∀ b S' H', LeH H H' → Wish X E H' → Rel X.w X.K τ S' σ H' → Q0 b S' → Q b H') : upT X t σ H Q :=
  ⟨E, τ, S, w, r, h.mono _ _ _ _ _ _ (fun _ _ _ _ z => z) (fun d S' z H' le rp => k d S' H' le (w.le le) (r.le le rp) z) q⟩
theorem DWt.to {t : DTT} (h : DWt X e t) {Q0 : Bool → DH → Prop} {Q : Bool → Hp → Prop} (w : Wish X E H) (r : Rel X.w X.K τ S σ H) (q : t E τ S Q0)
    (k : ∀ b S' H', LeH H H' → Wish X E H' → Rel X.w X.K τ S' σ H' → Q0 b S' → Q b H') : upT X t σ H Q :=
  ⟨E, τ, S, w, r, h.mono _ _ _ _ _ _ (fun _ _ _ _ z => z) (fun d S' z H' le rp => k d S' H' le (w.le le) (r.le le rp) z) q⟩
theorem DA.to {t : DTA} (h : DA X es t) {Q0 : List D → DH → Prop} {Q : List V → Hp → Prop} (w : Wish X E H) (r : Rel X.w X.K τ S σ H) (q : t E τ S Q0)
    (k : ∀ ds S' vs H', LeH H H' → Wish X E H' → Rel X.w X.K τ S' σ H' → RDs X.K H' ds vs → Q0 ds S' → Q vs H') : upA X t σ H Q :=
  ⟨E, τ, S, w, r, h.mono _ _ _ _ _ _ (fun _ _ _ _ z => z) (fun d S' z vs H' le rp rd => k d S' vs H' le (w.le le) (r.le le rp) rd z) q⟩
end

/-! ### names, constants -/
@[simp] def dVar (i : Nat) : DTE := fun _ τ S Q => match τ[i]? with | some (some d) => Q d S | _ => False
@[simp] def dC (d : D) : DTE := fun _ _ S Q => Q d S
section
variable {X : Cx}
theorem de_var {e : Expr} {i : Nat} (h : PE X e (tVar i)) : DE X e (dVar i) := by
  refine ⟨fun E E' τ S Q Q' _ k q => ?_, pE_imp h fun σ H Q ⟨E, τ, S, w, r, q⟩ => ?_⟩
  · unfold dVar at q ⊢
    split at q
    · exact k _ _ q
    · exact q
  · unfold dVar at q
    split at q
    · rename_i d e'
      obtain ⟨v, e2, rv⟩ := r.st.get i d e'
      exact ⟨v, e2, q v H (LeH.refl H) r.rep rv⟩
    · exact q.elim
theorem de_c {e : Expr} {d : D} {v : V} (h : PE X e (tC v)) (hv : ∀ H, RD X.K H d v) : DE X e (dC d) :=
  ⟨fun E E' τ S Q Q' _ k q => k _ _ q, pE_imp h fun σ H Q ⟨E, τ, S, w, r, q⟩ => q v H (LeH.refl H) r.rep (hv H)⟩
theorem dv (i : Nat) {x : Str} {pos : Pos} (hN : X.N[i]? = some x := by rfl) (hv : Vis X.env.scope x := by first | exact Or.inl rfl | exact Or.inr (Or.inl rfl) | exact Or.inr (Or.inr rfl)) (hd : (x == ("__debug__" : Str)) = false := by decide)
    (hcd : (x == ("__classdict__" : Str)) = false := by decide) : DE X (.Name x pos) (dVar i) := de_var (pe_var hN hv hd hcd)
theorem de_int {i : Int} {j pos} : DE X (.Constant (.int i) j pos) (dC (.int i)) := de_c pe_int fun _ => rfl
theorem de_bl {b : Bool} {j pos} : DE X (.Constant (.bool b) j pos) (dC (.bl b)) := de_c pe_bl fun _ => rfl
theorem de_non {j pos} : DE X (.Constant .none j pos) (dC .non) := de_c pe_non fun _ => rfl
theorem de_str {x : Str} {j pos} : DE X (.Constant (.str x) j pos) (dC (.str x)) := de_c pe_str fun _ => rfl
end

/-! ### operators -/
abbrev R2D := D → D → DH → DK → Prop
def Mono2 (r : R2D) : Prop := ∀ x y S (Q Q' : DK), (∀ d S', Q d S' → Q' d S') → r x y S Q → r x y S Q'
def upO (w : World) (K : PySem.W.Frag) (r : R2D) : R2 := fun x y H Q => ∃ d e S, Rep w K S H ∧ RD K H d x ∧ RD K H e y ∧ r d e S fun z S' => ∀ v H', LeH H H' → Rep w K S' H' → RD K H' z v → Q v H'
structure OpD (X : Cx) (f : Value → Value → Sem Value) (r : R2D) : Prop where
  mono : Mono2 r
  run : OpR X f (upO X.w X.K r)
theorem opR_imp {X : Cx} {f : Value → Value → Sem Value} {r r' : R2} (h : OpR X f r) (k : ∀ x y H Q, r' x y H Q → r x y H Q) : OpR X f r' := fun pins s σ H x y v u Q I rx ry q => h pins s σ H x y v u Q I rx ry (k _ _ _ _ q)
@[simp] def dOp (r : R2D) (ta tb : DTE) : DTE := fun E τ S Q => ta E τ S fun d S1 => tb E τ S1 fun e S2 => r d e S2 Q
section
variable {X : Cx} {a b : Expr} {ta tb : DTE} {pos : Pos} {r : R2D}
theorem dOp_mono {E E' : DW} {τ : DSt} {S : DH} {Q Q' : DK} (ma : DE X a ta) (mb : DE X b tb) (mr : Mono2 r) (he : ∀ C fs τ S, E C fs τ S → E' C fs τ S) (k : ∀ d S', Q d S' → Q' d S') (q : dOp r ta tb E τ S Q) : dOp r ta tb E' τ S Q' :=
  ma.mono _ _ _ _ _ _ he (fun _ _ h => mb.mono _ _ _ _ _ _ he (fun _ _ h => mr _ _ _ _ _ k h) h) q
theorem dOp_up {σ : St} {H : Hp} {Q : VK} (ha : DE X a ta) (hb : DE X b tb) (mr : Mono2 r) (h : upE X (dOp r ta tb) σ H Q) : tOp (upO X.w X.K r) (upE X ta) (upE X tb) σ H Q := by
  obtain ⟨E, τ, S, w, rl, q⟩ := h
  refine ha.to w rl q fun d S1 x H1 le1 w1 r1 rd q1 => ?_
  refine hb.to w1 r1 q1 fun e S2 y H2 le2 w2 r2 re q2 => ?_
  exact ⟨d, e, S2, r2.rep, rd.le le2, re, mr _ _ _ _ _ (fun z S' k v H' le rp rz => k v H' (le1.trans (le2.trans le)) rp rz) q2⟩
theorem de_op {op : Operator} (ho : OpD X (binaryOp op) r) (ha : DE X a ta) (hb : DE X b tb) : DE X (.BinOp a op b pos) (dOp r ta tb) :=
  ⟨fun _ _ _ _ _ _ he k q => dOp_mono ha hb ho.mono he k q, pE_imp (pe_op ho.run ha.run hb.run) fun _ _ _ h => dOp_up ha hb ho.mono h⟩
theorem de_cmp {op : CmpOp} (ho : OpD X (compareOp op) r) (ha : DE X a ta) (hb : DE X b tb) (hm : behindInMarks op b = false) : DE X (.Compare a [op] [b] pos) (dOp r ta tb) :=
  ⟨fun _ _ _ _ _ _ he k q => dOp_mono ha hb ho.mono he k q, pE_imp (pe_cmpR ho.run ha.run hb.run hm) fun _ _ _ h => dOp_up ha hb ho.mono h⟩
/-- a test: a value that is a truth -/
@[simp] def dTest (t : DTE) : DTT := fun E τ S Q => t E τ S fun d S' => match d with | .bl b => Q b S' | _ => False
theorem dTest_mono {e : Expr} {t : DTE} (m : DE X e t) (E E' : DW) (τ : DSt) (S : DH) (Q Q' : Bool → DH → Prop) (he : ∀ C fs τ S, E C fs τ S → E' C fs τ S) (k : ∀ d S', Q d S' → Q' d S') (q : dTest t E τ S Q) : dTest t E' τ S Q' :=
  m.mono _ _ _ _ _ _ he (fun d S' h => by
    cases d with
    | bl b => exact k _ _ h
    | _ => exact h) q
theorem dt_cmp {op : CmpOp} (ho : OpD X (compareOp op) r) (ha : DE X a ta) (hb : DE X b tb) (hm : behindInMarks op b = false) : DT X (.Compare a [op] [b] pos) (dTest (dOp r ta tb)) := by
  refine ⟨dTest_mono (de_cmp ho ha hb hm (pos := pos)), pT_imp (pt_cmpR ho.run ha.run hb.run hm) fun σ H Q ⟨E, τ, S, w, rl, q⟩ => ?_⟩
  refine dOp_up ha hb ho.mono ⟨E, τ, S, w, rl, dOp_mono ha hb ho.mono (fun _ _ _ _ z => z) (fun d S' h v H' le rp rd => ?_) q⟩
  cases d with
  | bl b => exact ⟨b, rd, h H' le rp⟩
  | _ => exact h.elim
theorem dt_val {e : Expr} {t : DTE} (h : DE X e t) (he : ∀ whole, isTrue e X.env whole = (do let v ← whole; standAt e.pos; holding [v] (truthy v)) := by intro _; rfl) : DT X e (dTest t) := by
  refine ⟨dTest_mono h, pT_imp (pt_val h.run he) fun σ H Q ⟨E, τ, S, w, rl, q⟩ => ?_⟩
  refine h.to w rl q fun d S' v H' le w' r' rd q' => ?_
  cases d with
  | bl b => exact ⟨b, rd, q' H' le r'.rep⟩
  | _ => exact q'.elim
end
end Dt
set_option maxRecDepth 100000
set_option maxHeartbeats 4000000
/-! Dat2: tests, statements, loops, comprehensions. -/
namespace Dt
open PySem PySem.Spec L2

/-! ### arguments -/
@[simp] def dNil : DTA := fun _ _ S Q => Q [] S
@[simp] def dCons (ta : DTE) (tr : DTA) : DTA := fun E τ S Q => ta E τ S fun d S1 => tr E τ S1 fun ds S2 => Q (d :: ds) S2
section
variable {X : Cx} {e : Expr} {es : List Expr} {te : DTE} {t : DTA} {pos : Pos}
theorem da_nil : DA X [] dNil := ⟨fun _ _ _ _ _ _ _ k q => k _ _ q, pA_imp pa_nil fun σ H Q ⟨E, τ, S, w, r, q⟩ => q [] H (LeH.refl H) r.rep .nil⟩
theorem da_cons (ha : DE X e te) (hr : DA X es t) (hs : starEach (e :: es) X.env = (false, eval e X.env) :: starEach es X.env := by rfl) : DA X (e :: es) (dCons te t) := by
  refine ⟨fun _ _ _ _ _ _ he k q => ha.mono _ _ _ _ _ _ he (fun _ _ h => hr.mono _ _ _ _ _ _ he (fun _ _ h => k _ _ h) h) q, pA_imp (pa_cons ha.run hr.run hs) fun σ H Q ⟨E, τ, S, w, r, q⟩ => ?_⟩
  refine ha.to w r q fun d S1 v H1 le1 w1 r1 rd q1 => ?_
  exact hr.to w1 r1 q1 fun ds S2 vs H2 le2 w2 r2 rds q2 => q2 (v :: vs) H2 (le1.trans le2) r2.rep (.cons (rd.le le2) rds)
end

/-! ### tests -/
section
variable {X : Cx} {a b : Expr} {rest : List Expr} {ta tb : DTT} {te : DTE} {pos : Pos}
@[simp] def dAnd (t u : DTT) : DTT := fun E τ S Q => t E τ S fun c S1 => if c = true then u E τ S1 Q else Q false S1
@[simp] def dOr (t u : DTT) : DTT := fun E τ S Q => t E τ S fun c S1 => if c = true then Q true S1 else u E τ S1 Q
@[simp] def dNot (t : DTT) : DTT := fun E τ S Q => t E τ S fun c S1 => Q (!c) S1
theorem DWt.pt (h : DWt X a ta) : DT X a ta := ⟨h.mono, h.run.pt⟩
theorem dw_and1 (ha : DT X a ta) : DWt X (.BoolOp .And [a] pos) ta := ⟨ha.mono, pw_and1 ha.run⟩
theorem dw_or1 (ha : DT X a ta) : DWt X (.BoolOp .Or [a] pos) ta := ⟨ha.mono, pw_or1 ha.run⟩
theorem dw_and (ha : DT X a ta) (hb : DWt X (.BoolOp .And (b :: rest) pos) tb) : DWt X (.BoolOp .And (a :: b :: rest) pos) (dAnd ta tb) := by
  refine ⟨fun E E' τ S Q Q' he k q => ha.mono _ _ _ _ _ _ he (fun c S1 h => ?_) q, pW_imp (pw_and ha.run hb.run) fun σ H Q ⟨E, τ, S, w, r, q⟩ => ?_⟩
  · split at h
    · rename_i hc
      rw [if_pos hc]
      exact hb.mono _ _ _ _ _ _ he k h
    · rename_i hc
      rw [if_neg hc]
      exact k _ _ h
  · refine ha.to w r q fun c S1 H1 le w1 r1 h => ?_
    cases c with
    | true => exact hb.to w1 r1 h fun b S2 H2 le2 _ r2 q2 => q2 H2 (le.trans le2) r2.rep
    | false => exact h H1 le r1.rep
theorem dw_or (ha : DT X a ta) (hb : DWt X (.BoolOp .Or (b :: rest) pos) tb) : DWt X (.BoolOp .Or (a :: b :: rest) pos) (dOr ta tb) := by
  refine ⟨fun E E' τ S Q Q' he k q => ha.mono _ _ _ _ _ _ he (fun c S1 h => ?_) q, pW_imp (pw_or ha.run hb.run) fun σ H Q ⟨E, τ, S, w, r, q⟩ => ?_⟩
  · split at h
    · rename_i hc
      rw [if_pos hc]
      exact k _ _ h
    · rename_i hc
      rw [if_neg hc]
      exact hb.mono _ _ _ _ _ _ he k h
  · refine ha.to w r q fun c S1 H1 le w1 r1 h => ?_
    cases c with
    | true => exact h H1 le r1.rep
    | false => exact hb.to w1 r1 h fun b S2 H2 le2 _ r2 q2 => q2 H2 (le.trans le2) r2.rep
theorem dt_not (ha : DT X a ta) : DT X (.UnaryOp .Not a pos) (dNot ta) :=
  ⟨fun _ _ _ _ _ _ he k q => ha.mono _ _ _ _ _ _ he (fun _ _ h => k _ _ h) q, pT_imp (pt_not ha.run) fun σ H Q ⟨E, τ, S, w, r, q⟩ => ha.to w r q fun c S1 H1 le w1 r1 h => h H1 le r1.rep⟩
/-- and, or, not as values, of truths -/
def dBV (t : DTE) (k : Bool → DH → DK → Prop) : DTE := fun E τ S Q => t E τ S fun d S1 => match d with | .bl c => k c S1 Q | _ => False
@[simp] def dAndV (ta tb : DTE) : DTE := fun E τ S Q => ta E τ S fun d S1 => match d with | .bl c => (if c = true then tb E τ S1 Q else Q (.bl false) S1) | _ => False
@[simp] def dOrV (ta tb : DTE) : DTE := fun E τ S Q => ta E τ S fun d S1 => match d with | .bl c => (if c = true then Q (.bl true) S1 else tb E τ S1 Q) | _ => False
@[simp] def dNotV (ta : DTE) : DTE := fun E τ S Q => ta E τ S fun d S1 => match d with | .bl c => Q (.bl (!c)) S1 | _ => False
variable {va vb : DTE}
theorem de_one {op} (h : DE X a te) : DE X (.BoolOp op [a] pos) te := ⟨h.mono, pe_one h.run⟩
theorem de_and (ha : DE X a va) (hb : DE X (.BoolOp .And (b :: rest) pos) vb) : DE X (.BoolOp .And (a :: b :: rest) pos) (dAndV va vb) := by
  refine ⟨fun E E' τ S Q Q' he k q => ha.mono _ _ _ _ _ _ he (fun d S1 h => ?_) q, pE_imp (pe_and ha.run hb.run) fun σ H Q ⟨E, τ, S, w, r, q⟩ => ?_⟩
  · cases d with
    | bl c =>
      cases c with
      | true => exact hb.mono _ _ _ _ _ _ he k h
      | false => exact k _ _ h
    | _ => exact h
  · refine ha.to w r q fun d S1 v H1 le w1 r1 rd h => ?_
    cases d with
    | bl c =>
      refine ⟨c, rd, ?_⟩
      cases c with
      | true => exact hb.to w1 r1 h fun z S2 u H2 le2 _ r2 rz q2 => q2 u H2 (le.trans le2) r2.rep rz
      | false => exact h _ H1 le r1.rep rfl
    | _ => exact h.elim
theorem de_or (ha : DE X a va) (hb : DE X (.BoolOp .Or (b :: rest) pos) vb) : DE X (.BoolOp .Or (a :: b :: rest) pos) (dOrV va vb) := by
  refine ⟨fun E E' τ S Q Q' he k q => ha.mono _ _ _ _ _ _ he (fun d S1 h => ?_) q, pE_imp (pe_or ha.run hb.run) fun σ H Q ⟨E, τ, S, w, r, q⟩ => ?_⟩
  · cases d with
    | bl c =>
      cases c with
      | true => exact k _ _ h
      | false => exact hb.mono _ _ _ _ _ _ he k h
    | _ => exact h
  · refine ha.to w r q fun d S1 v H1 le w1 r1 rd h => ?_
    cases d with
    | bl c =>
      refine ⟨c, rd, ?_⟩
      cases c with
      | true => exact h _ H1 le r1.rep rfl
      | false => exact hb.to w1 r1 h fun z S2 u H2 le2 _ r2 rz q2 => q2 u H2 (le.trans le2) r2.rep rz
    | _ => exact h.elim
theorem de_not (ha : DE X a va) : DE X (.UnaryOp .Not a pos) (dNotV va) := by
  refine ⟨fun E E' τ S Q Q' he k q => ha.mono _ _ _ _ _ _ he (fun d S1 h => ?_) q, pE_imp (pe_not ha.run) fun σ H Q ⟨E, τ, S, w, r, q⟩ => ?_⟩
  · cases d with
    | bl c => exact k _ _ h
    | _ => exact h
  · refine ha.to w r q fun d S1 v H1 le w1 r1 rd h => ?_
    cases d with
    | bl c => exact ⟨c, rd, h _ H1 le r1.rep rfl⟩
    | _ => exact h.elim
@[simp] def dIfE (t : DTT) (ta tb : DTE) : DTE := fun E τ S Q => t E τ S fun c S1 => if c = true then ta E τ S1 Q else tb E τ S1 Q
end

/-! ### statements -/
structure DEnds where
  nx : DSt → DH → Prop
  rt : DK
  bk : DSt → DH → Prop := fun _ _ => False
  ct : DSt → DH → Prop := fun _ _ => False
  xe : DW := fun _ _ _ _ => False
abbrev DTS := DEnds → DSt → DH → Prop
structure DEnds.Le (A B : DEnds) : Prop where
  nx : ∀ τ S, A.nx τ S → B.nx τ S
  rt : ∀ d S, A.rt d S → B.rt d S
  bk : ∀ τ S, A.bk τ S → B.bk τ S
  ct : ∀ τ S, A.ct τ S → B.ct τ S
  xe : ∀ C fs τ S, A.xe C fs τ S → B.xe C fs τ S
def dnE (w : World) (K : PySem.W.Frag) (H : Hp) (D : Ends) (E : DW) : DEnds where
  nx := fun τ S => ∀ σ H', LeH H H' → Rel w K τ S σ H' → D.nx σ H'
  rt := fun d S => ∀ v H', LeH H H' → Rep w K S H' → RD K H' d v → D.rt v H'
  bk := fun τ S => ∀ σ H', LeH H H' → Rel w K τ S σ H' → D.bk σ H'
  ct := fun τ S => ∀ σ H', LeH H H' → Rel w K τ S σ H' → D.ct σ H'
  xe := E
def upS (X : Cx) (t : DTS) : TS := fun D σ H => ∃ E τ S, Wish X E H ∧ Rel X.w X.K τ S σ H ∧ t (dnE X.w X.K H D E) τ S
structure DS (X : Cx) (st : Stmt) (t : DTS) : Prop where
  mono : ∀ A B τ S, DEnds.Le A B → t A τ S → t B τ S
  run : PS X st (upS X t)
structure DSs (X : Cx) (st : List Stmt) (t : DTS) : Prop where
  mono : ∀ A B τ S, DEnds.Le A B → t A τ S → t B τ S
  run : PSs X st (upS X t)
section
variable {X : Cx} {st : Stmt} {sts : List Stmt} {t u : DTS} {E : DW} {τ : DSt} {S : DH} {σ : St} {H : Hp} {pos : Pos}
theorem dn_le {w : World} {K : PySem.W.Frag} {D : Ends} {H H' : Hp} (le : LeH H H') : DEnds.Le (dnE w K H D E) (dnE w K H' D E) :=
  ⟨fun τ S h σ H2 l => h σ H2 (le.trans l), fun d S h v H2 l => h v H2 (le.trans l), fun τ S h σ H2 l => h σ H2 (le.trans l), fun τ S h σ H2 l => h σ H2 (le.trans l), fun _ _ _ _ h => h⟩
theorem DS.to (h : DS X st t) {A : DEnds} {D : Ends} (w : Wish X E H) (r : Rel X.w X.K τ S σ H) (q : t A τ S) (k : DEnds.Le A (dnE X.w X.K H D E)) : upS X t D σ H := ⟨E, τ, S, w, r, h.mono _ _ _ _ k q⟩
theorem DSs.to (h : DSs X sts t) {A : DEnds} {D : Ends} (w : Wish X E H) (r : Rel X.w X.K τ S σ H) (q : t A τ S) (k : DEnds.Le A (dnE X.w X.K H D E)) : upS X t D σ H := ⟨E, τ, S, w, r, h.mono _ _ _ _ k q⟩
@[simp] def dNx : DTS := fun A τ S => A.nx τ S
@[simp] def dSeq (t u : DTS) : DTS := fun A τ S => t { A with nx := u A } τ S
theorem dss_nil : DSs X [] dNx := ⟨fun _ _ _ _ le q => le.nx _ _ q, pSs_imp pss_nil fun D σ H ⟨E, τ, S, w, r, q⟩ => q σ H (LeH.refl H) r⟩
theorem dss_one (h : DS X st t) : DSs X [st] t := ⟨h.mono, pss_one h.run⟩
theorem dss_cons (h1 : DS X st t) (h2 : DSs X sts u) : DSs X (st :: sts) (dSeq t u) := by
  refine ⟨fun A B τ S le q => h1.mono { A with nx := u A } { B with nx := u B } _ _ ⟨fun τ S z => h2.mono _ _ _ _ le z, le.rt, le.bk, le.ct, le.xe⟩ q, pSs_imp (pss_cons h1.run h2.run) fun D σ H ⟨E, τ, S, w, r, q⟩ => ?_⟩
  exact h1.to w r q ⟨fun τ' S' z σ' H' le r' => h2.to (w.le le) r' z (dn_le le), fun _ _ z => z, fun _ _ z => z, fun _ _ z => z, fun _ _ _ _ z => z⟩
@[simp] def dBk : DTS := fun A τ S => A.bk τ S
@[simp] def dCt : DTS := fun A τ S => A.ct τ S
def dNever : DTS := fun _ _ _ => False
variable {e c : Expr} {te : DTE} {tc : DTT} {as bs : List Stmt}
@[simp] def dDrop (te : DTE) : DTS := fun A τ S => te A.xe τ S fun _ S' => A.nx τ S'
theorem ds_expr (h : DE X e te) (hs : swapsWith e none pos.line X.env = pure false := by rfl) : DS X (.Expr e pos) (dDrop te) :=
  ⟨fun _ _ _ _ le q => h.mono _ _ _ _ _ _ le.xe (fun _ _ z => le.nx _ _ z) q, pS_imp (ps_expr h.run hs) fun D σ H ⟨E, τ, S, w, r, q⟩ => h.to w r q fun d S' v H' le w' r' rd z => z σ H' le r'⟩
@[simp] def dRet (te : DTE) : DTS := fun A τ S => te A.xe τ S A.rt
theorem ds_ret (h : DE X e te) : DS X (.Return (some e) pos) (dRet te) :=
  ⟨fun _ _ _ _ le q => h.mono _ _ _ _ _ _ le.xe le.rt q, pS_imp (ps_ret h.run) fun D σ H ⟨E, τ, S, w, r, q⟩ => h.to w r q fun d S' v H' le w' r' rd z => z v H' le r'.rep rd⟩
@[simp] def dRetN : DTS := fun A _ S => A.rt .non S
@[simp] def dIf (tc : DTT) (t u : DTS) : DTS := fun A τ S => tc A.xe τ S fun b S' => if b = true then t A τ S' else u A τ S'
theorem ds_if (hc : DT X c tc) (ha : DSs X as t) (hb : DSs X bs u) : DS X (.If c as bs pos) (dIf tc t u) := by
  refine ⟨fun A B τ S le q => hc.mono _ _ _ _ _ _ le.xe (fun b S' z => ?_) q, pS_imp (ps_if hc.run ha.run hb.run) fun D σ H ⟨E, τ, S, w, r, q⟩ => ?_⟩
  · cases b with
    | true => exact ha.mono _ _ _ _ le z
    | false => exact hb.mono _ _ _ _ le z
  · refine hc.to w r q fun b S' H' le w' r' z => ?_
    cases b with
    | true => exact ha.to w' r' z (dn_le le)
    | false => exact hb.to w' r' z (dn_le le)
end

/-! ### targets -/
abbrev DTG := D → DSt → DH → (DSt → DH → Prop) → Prop
abbrev DTGs := List D → DSt → DH → (DSt → DH → Prop) → Prop
def upG (X : Cx) (t : DTG) : TG := fun v σ H Q => ∃ d τ S, Rel X.w X.K τ S σ H ∧ RD X.K H d v ∧ t d τ S fun τ' S' => ∀ σ' H', LeH H H' → Rel X.w X.K τ' S' σ' H' → Q σ' H'
def upGs (X : Cx) (t : DTGs) : TGs := fun vs σ H Q => ∃ ds τ S, Rel X.w X.K τ S σ H ∧ RDs X.K H ds vs ∧ t ds τ S fun τ' S' => ∀ σ' H', LeH H H' → Rel X.w X.K τ' S' σ' H' → Q σ' H'
structure DG (X : Cx) (tg : Expr) (t : DTG) : Prop where
  mono : ∀ d τ S (Q Q' : DSt → DH → Prop), (∀ τ S, Q τ S → Q' τ S) → t d τ S Q → t d τ S Q'
  run : PG X tg (upG X t)
structure DGs (X : Cx) (tg : List Expr) (t : DTGs) : Prop where
  mono : ∀ d τ S (Q Q' : DSt → DH → Prop), (∀ τ S, Q τ S → Q' τ S) → t d τ S Q → t d τ S Q'
  run : PGs X tg (upGs X t)
theorem pG_imp {X : Cx} {e : Expr} {t t' : TG} (h : PG X e t) (k : ∀ v σ H Q, t' v σ H Q → t v σ H Q) : PG X e t' := ⟨fun pins s σ H v u Q I r q => h.run pins s σ H v u Q I r (k v σ H Q q)⟩
theorem pGs_imp {X : Cx} {e : List Expr} {t t' : TGs} (h : PGs X e t) (k : ∀ v σ H Q, t' v σ H Q → t v σ H Q) : PGs X e t' := ⟨fun pins s σ H v u Q I r q => h.run pins s σ H v u Q I r (k v σ H Q q)⟩
section
variable {X : Cx} {tg e : Expr} {tgs : List Expr} {t : DTG} {ts : DTGs} {te : DTE} {pos : Pos}
theorem DG.to (h : DG X tg t) {d : D} {v : V} {τ : DSt} {S : DH} {σ : St} {H : Hp} {Q0 : DSt → DH → Prop} {Q : St → Hp → Prop} (r : Rel X.w X.K τ S σ H) (rd : RD X.K H d v) (q : t d τ S Q0) (k : ∀ τ' S' σ' H', LeH H H' → Rel X.w X.K τ' S' σ' H' → Q0 τ' S' → Q σ' H') : upG X t v σ H Q :=
  ⟨d, τ, S, r, rd, h.mono _ _ _ _ _ (fun τ' S' z σ' H' le r' => k _ _ _ _ le r' z) q⟩
@[simp] def dGN (i : Nat) : DTG := fun d τ S Q => Q (τ.set i (some d)) S
theorem dg_name {i : Nat} {x : Str} (hN : X.N.Nodup) (hi : X.N[i]? = some x) (hx : Loc X.env.scope x) (hf : X.fn x = true ∨ X.env.scope.names.lookup x = some .local := by first | exact .inl rfl | exact .inr rfl | assumption) : DG X (.Name x pos) (dGN i) :=
  ⟨fun _ _ _ _ _ k q => k _ _ q, pG_imp (pg_name hN hi hx hf) fun v σ H Q ⟨d, τ, S, r, rd, q⟩ => q _ _ (LeH.refl H) ⟨r.st.set i rd, r.rep⟩⟩
@[simp] def dGNil : DTGs := fun ds τ S Q => match ds with | [] => Q τ S | _ => False
@[simp] def dGCons (t : DTG) (u : DTGs) : DTGs := fun ds τ S Q => match ds with | d :: r => t d τ S fun τ' S' => u r τ' S' Q | _ => False
theorem dgs_nil : DGs X [] dGNil := by
  refine ⟨fun ds _ _ _ _ k q => ?_, pGs_imp pgs_nil fun vs σ H Q ⟨ds, τ, S, r, rd, q⟩ => ?_⟩
  · cases ds with
    | nil => exact k _ _ q
    | cons _ _ => exact q
  · cases ds with
    | nil => exact ⟨rd, q σ H (LeH.refl H) r⟩
    | cons _ _ => exact q.elim
theorem dgs_cons (h1 : DG X tg t) (h2 : DGs X tgs ts) (hs : (assignEach (tg :: tgs) X.env).map (·.2) = assign tg X.env :: (assignEach tgs X.env).map (·.2) := by rfl) : DGs X (tg :: tgs) (dGCons t ts) := by
  refine ⟨fun ds _ _ _ _ k q => ?_, pGs_imp (pgs_cons h1.run h2.run hs) fun vs σ H Q ⟨ds, τ, S, r, rd, q⟩ => ?_⟩
  · cases ds with
    | nil => exact q
    | cons d r => exact h1.mono _ _ _ _ _ (fun _ _ z => h2.mono _ _ _ _ _ k z) q
  · cases ds with
    | nil => exact q.elim
    | cons d ds =>
      obtain ⟨v, s, rfl, rd1, rd2⟩ := rd
      refine ⟨v, s, rfl, h1.to r rd1 q fun τ' S' σ' H' le r' z => ?_⟩
      exact ⟨ds, τ', S', r', rd2.le le, h2.mono _ _ _ _ _ (fun τ2 S2 z2 σ2 H2 le2 r2 => z2 σ2 H2 (le.trans le2) r2) z⟩
@[simp] def dGTup (n : Nat) (t : DTGs) : DTG := fun d τ S Q => match d with | .tup ds => ds.length = n ∧ t ds τ S Q | _ => False
@[simp] def dAsg (te : DTE) (t : DTG) : DTS := fun A τ S => te A.xe τ S fun d S' => t d τ S' A.nx
theorem ds_asg (he : DE X e te) (hg : DG X tg t) (hs : swapsWithSole [tg] e pos.line X.env = pure false := by rfl) (hw : swappedStores [tg] e X.env = pure none := by rfl) (h1 : (assignEach [tg] X.env).map (·.2) = [assign tg X.env] := by rfl) : DS X (.Assign [tg] e pos) (dAsg te t) := by
  refine ⟨fun A B τ S le q => he.mono _ _ _ _ _ _ le.xe (fun _ _ z => hg.mono _ _ _ _ _ le.nx z) q, pS_imp (ps_asg he.run hg.run hs hw h1) fun D σ H ⟨E, τ, S, w, r, q⟩ => ?_⟩
  exact he.to w r q fun d S' v H' le w' r' rd z => hg.to r' rd z fun τ2 S2 σ2 H2 le2 r2 z2 => z2 σ2 H2 (le.trans le2) r2
theorem ds_set {i : Nat} {x : Str} {pos' : Pos} (hN : X.N.Nodup) (hi : X.N[i]? = some x) (hx : Loc X.env.scope x) (he : DE X e te) (hs : swapsWith e (some (.Name x pos')) pos.line X.env = pure false := by rfl)
    (hf : X.fn x = true ∨ X.env.scope.names.lookup x = some .local := by first | exact .inl rfl | exact .inr rfl | assumption) : DS X (.Assign [.Name x pos'] e pos) (dAsg te (dGN i)) := by
  refine ⟨fun A B τ S le q => he.mono _ _ _ _ _ _ le.xe (fun _ _ z => le.nx _ _ z) q, pS_imp (ps_set hN hi hx he.run hs hf) fun D σ H ⟨E, τ, S, w, r, q⟩ => ?_⟩
  exact he.to w r q fun d S' v H' le w' r' rd z => z _ H' le ⟨r'.st.set i rd, r'.rep⟩
end

/-! ### while -/
def dWh (c : DTT) (tb : DTS) (A : DEnds) : Nat → DSt → DH → Prop
  | 0, _, _ => False
  | n + 1, τ, S => c A.xe τ S fun b S' => if b = true then tb { A with nx := dWh c tb A n, ct := dWh c tb A n, bk := A.nx } τ S' else A.nx τ S'
def dWhile (c : DTT) (tb : DTS) : DTS := fun A τ S => ∃ n, dWh c tb A n τ S
section
variable {X : Cx} {c : Expr} {body : List Stmt} {tc : DTT} {tb : DTS} {pos : Pos}
theorem dWh_mono (hc : DT X c tc) (hb : DSs X body tb) {A B : DEnds} (le : DEnds.Le A B) : ∀ (n : Nat) (τ : DSt) (S : DH), dWh tc tb A n τ S → dWh tc tb B n τ S
  | 0, _, _, q => q
  | n + 1, τ, S, q => hc.mono _ _ _ _ _ _ le.xe (fun b S' z => by
      cases b with
      | true => exact hb.mono { A with nx := dWh tc tb A n, ct := dWh tc tb A n, bk := A.nx } { B with nx := dWh tc tb B n, ct := dWh tc tb B n, bk := B.nx } _ _ ⟨fun τ S w => dWh_mono hc hb le n τ S w, le.rt, le.nx, fun τ S w => dWh_mono hc hb le n τ S w, le.xe⟩ z
      | false => exact le.nx _ _ z) q
theorem ds_while (hp : PassesOwn (model X.prog X.w) X.A X.env X.xe) (hc : DT X c tc) (hb : DSs X body tb) : DS X (.While c body [] pos) (dWhile tc tb) := by
  refine ⟨fun A B τ S le ⟨n, q⟩ => ⟨n, dWh_mono hc hb le n τ S q⟩, pS_imp (ps_while hp hc.run hb.run) fun D σ H ⟨E, τ, S, w, r, n, q⟩ => ?_⟩
  refine ⟨fun m σ' H' => LeH H H' ∧ ∃ τ' S', Rel X.w X.K τ' S' σ' H' ∧ dWh tc tb (dnE X.w X.K H D E) m τ' S', ⟨n, LeH.refl H, τ, S, r, q⟩, ?_⟩
  rintro m σ1 H1 ⟨le1, τ1, S1, r1, q1⟩
  cases m with
  | zero => exact q1.elim
  | succ m =>
    refine hc.to (w.le le1) r1 q1 fun b S2 H2 le2 w2 r2 z => ?_
    cases b with
    | false => exact z σ1 H2 (le1.trans le2) r2
    | true =>
      rw [if_pos rfl]
      have again : ∀ τ3 S3, dWh tc tb (dnE X.w X.K H D E) m τ3 S3 → ∀ σ3 H3, LeH H2 H3 → Rel X.w X.K τ3 S3 σ3 H3 → LeH H H3 ∧ ∃ τ' S', Rel X.w X.K τ' S' σ3 H3 ∧ dWh tc tb (dnE X.w X.K H D E) m τ' S' :=
        fun τ3 S3 y σ3 H3 le3 r3 => ⟨le1.trans (le2.trans le3), τ3, S3, r3, y⟩
      refine ⟨fun σ3 H3 => LeH H H3 ∧ ∃ τ' S', Rel X.w X.K τ' S' σ3 H3 ∧ dWh tc tb (dnE X.w X.K H D E) m τ' S', fun σ3 H3 y => ⟨m, Nat.lt_succ_self m, y⟩, hb.to w2 r2 z ⟨again, ?_, ?_, again, fun _ _ _ _ y => y⟩⟩
      · exact fun d S3 y v H3 le3 r3 rd => y v H3 (le1.trans (le2.trans le3)) r3 rd
      · exact fun τ3 S3 y σ3 H3 le3 r3 => y σ3 H3 (le1.trans (le2.trans le3)) r3
end

/-! ### what is walked -/
structure Feeds (w : World) (K : PySem.W.Frag) (H0 : Hp) (J : It) (G : DH → Prop) (ds : List D) : Prop where
  go : ∀ i S H, LeH H0 H → Rep w K S H → G S → i < ds.length → J.go i H
  yld : ∀ i S H x H', LeH H0 H → Rep w K S H → G S → i < ds.length → J.yld i H x H' → LeH H H' ∧ Rep w K S H' ∧ ∃ d, ds[i]? = some d ∧ RD K H' d x
  stop : ∀ S H, LeH H0 H → Rep w K S H → G S → J.stop ds.length H
abbrev DTI := DW → DSt → DH → ((DH → Prop) → List D → DH → Prop) → Prop
def upI (X : Cx) (ti : DTI) : TI := fun σ H R => ∃ E τ S, Wish X E H ∧ Rel X.w X.K τ S σ H ∧ ti E τ S fun G ds S' => ∀ J H', LeH H H' → Rep X.w X.K S' H' → Feeds X.w X.K H' J G ds → R J H'
structure DI (X : Cx) (tg iter : Expr) (ti : DTI) : Prop where
  mono : ∀ (E E' : DW) τ S (Q Q' : (DH → Prop) → List D → DH → Prop), (∀ C fs τ S, E C fs τ S → E' C fs τ S) → (∀ G d S', Q G d S' → Q' G d S') → ti E τ S Q → ti E' τ S Q'
  run : PI X tg iter (upI X ti)
theorem pI_imp {X : Cx} {tg e : Expr} {t t' : TI} (h : PI X tg e t) (k : ∀ σ H R, t' σ H R → t σ H R) : PI X tg e t' := ⟨fun pins s σ H R I q => h.run pins s σ H R I (k σ H R q)⟩
@[simp] def dLoop (g : DTG) (tb : DTS) (A : DEnds) (G : DH → Prop) : List D → DSt → DH → Prop
  | [], τ, S => G S ∧ A.nx τ S
  | d :: ds, τ, S => G S ∧ g d τ S fun τ1 S1 => tb { A with nx := dLoop g tb A G ds, ct := dLoop g tb A G ds, bk := A.nx } τ1 S1
@[simp] def dFor (ti : DTI) (g : DTG) (tb : DTS) : DTS := fun A τ S => ti A.xe τ S fun G ds S' => dLoop g tb A G ds τ S'
section
variable {X : Cx} {tg iter : Expr} {body : List Stmt} {ti : DTI} {g : DTG} {tb : DTS} {pos : Pos}
theorem DI.to (h : DI X tg iter ti) {E : DW} {τ : DSt} {S : DH} {σ : St} {H : Hp} {Q0 : (DH → Prop) → List D → DH → Prop} {R : It → Hp → Prop} (w : Wish X E H) (r : Rel X.w X.K τ S σ H) (q : ti E τ S Q0)
    (k : ∀ G ds S' J H', LeH H H' → Wish X E H' → Rel X.w X.K τ S' σ H' → Feeds X.w X.K H' J G ds → Q0 G ds S' → R J H') : upI X ti σ H R :=
  ⟨E, τ, S, w, r, h.mono _ _ _ _ _ _ (fun _ _ _ _ z => z) (fun G ds S' z J H' le rp f => k G ds S' J H' le (w.le le) (r.le le rp) f z) q⟩
theorem dLoop_mono (hg : DG X tg g) (hb : DSs X body tb) {A B : DEnds} (le : DEnds.Le A B) {G : DH → Prop} : ∀ (ds : List D) (τ : DSt) (S : DH), dLoop g tb A G ds τ S → dLoop g tb B G ds τ S
  | [], _, _, q => ⟨q.1, le.nx _ _ q.2⟩
  | d :: ds, τ, S, q => ⟨q.1, hg.mono _ _ _ _ _ (fun τ1 S1 z => hb.mono { A with nx := dLoop g tb A G ds, ct := dLoop g tb A G ds, bk := A.nx } { B with nx := dLoop g tb B G ds, ct := dLoop g tb B G ds, bk := B.nx } _ _ ⟨fun τ S w => dLoop_mono hg hb le ds τ S w, le.rt, le.nx, fun τ S w => dLoop_mono hg hb le ds τ S w, le.xe⟩ z) q.2⟩
theorem drop_at {α : Type} {ds : List α} {i : Nat} {d : α} (h : ds[i]? = some d) : ds.drop i = d :: ds.drop (i + 1) := by
  obtain ⟨hi, e⟩ := List.getElem?_eq_some_iff.mp h
  rw [List.drop_eq_getElem_cons hi, e]
theorem ds_for (hp : PassesOwn (model X.prog X.w) X.A X.env X.xe) (hc : X.calm = true) (hi : DI X tg iter ti) (hg : DG X tg g) (hb : DSs X body tb) (hs : ∀ x, foldedSetIterable iter X.env x = pure x := by intro _; rfl) :
    DS X (.For tg iter body [] pos) (dFor ti g tb) := by
  refine ⟨fun A B τ S le q => hi.mono _ _ _ _ _ _ le.xe (fun G ds S' z => dLoop_mono hg hb le ds τ S' z) q, pS_imp (ps_for hp hc hi.run hg.run hb.run hs) fun D σ H ⟨E, τ, S, w, r, q⟩ => ?_⟩
  refine hi.to w r q fun G ds S0 J H0 le0 w0 r0 f z => ?_
  refine ⟨fun i m σ' H' => m = ds.length - i ∧ i ≤ ds.length ∧ LeH H0 H' ∧ ∃ τ' S', Rel X.w X.K τ' S' σ' H' ∧ dLoop g tb (dnE X.w X.K H D E) G (ds.drop i) τ' S', ⟨ds.length, by omega, Nat.zero_le _, LeH.refl H0, τ, S0, r0, z⟩, ?_⟩
  rintro i m σ1 H1 ⟨rfl, hle, le1, τ1, S1, r1, q1⟩
  by_cases hlt : i < ds.length
  · have e0 : ds[i]? = some ds[i] := List.getElem?_eq_getElem hlt
    rw [drop_at e0] at q1
    obtain ⟨hG, q1⟩ := q1
    refine .inr ⟨f.go i S1 H1 le1 r1.rep hG hlt, fun σ2 H2 => LeH H0 H2 ∧ ∃ τ' S', Rel X.w X.K τ' S' σ2 H2 ∧ dLoop g tb (dnE X.w X.K H D E) G (ds.drop (i + 1)) τ' S', fun σ2 H2 ⟨l, y⟩ => ⟨ds.length - (i + 1), by omega, rfl, hlt, l, y⟩, fun x H2 hy => ?_⟩
    obtain ⟨le2, rp2, d, ed, rd⟩ := f.yld i S1 H1 x H2 le1 r1.rep hG hlt hy
    rw [e0] at ed
    cases ed
    refine hg.to (r1.le le2 rp2) rd q1 fun τ3 S3 σ3 H3 le3 r3 q3 => ?_
    have l03 := le1.trans (le2.trans le3)
    refine hb.to (w0.le l03) r3 q3 ⟨?_, ?_, ?_, ?_, fun _ _ _ _ y => y⟩
    · exact fun τ4 S4 y σ4 H4 le4 r4 => ⟨l03.trans le4, τ4, S4, r4, y⟩
    · exact fun d S4 y v H4 le4 r4 rd => y v H4 (le0.trans (l03.trans le4)) r4 rd
    · exact fun τ4 S4 y σ4 H4 le4 r4 => y σ4 H4 (le0.trans (l03.trans le4)) r4
    · exact fun τ4 S4 y σ4 H4 le4 r4 => ⟨l03.trans le4, τ4, S4, r4, y⟩
  · have e : i = ds.length := by omega
    subst e
    rw [List.drop_length] at q1
    exact .inl ⟨f.stop S1 H1 le1 r1.rep q1.1, q1.2 σ1 H1 (le0.trans le1) r1⟩
end
/-! ### comprehensions -/
@[simp] def wipeD (τ : DSt) : List Nat → DSt
  | [] => τ
  | v :: vs => (wipeD τ vs).set v none
theorem RSt.wipe {K : PySem.W.Frag} {H : Hp} {τ : DSt} {σ : St} (r : RSt K H τ σ) : ∀ vs : List Nat, RSt K H (wipeD τ vs) (L2.wipe σ vs)
  | [] => r
  | v :: vs => by
    have q := RSt.wipe r vs
    refine ⟨by simp only [wipeD, L2.wipe, List.length_set]; exact q.len, fun i d e => ?_⟩
    simp only [wipeD, L2.wipe, List.getElem?_set] at e ⊢
    by_cases z : v = i
    · rw [if_pos z] at e
      split at e <;> cases e
    · rw [if_neg z] at e
      rw [if_neg z]
      exact q.get i d e
@[simp] def dLcL (g : DTG) (tt : DTT) (te : DTE) (E : DW) (τ : DSt) (G : DH → Prop) (p : Addr) (Q : DH → Prop) : List D → DH → Prop
  | [], S => G S ∧ Q S
  | d :: ds, S => G S ∧ g d τ S fun τ1 S1 => tt E τ1 S1 fun b S2 => if b = true then te E τ1 S2 fun y S3 => (match S3 p with | some (.lst acc) => acc.length < sizeLine ∧ dLcL g tt te E τ G p Q ds (upo S3 p (.lst (acc ++ [y]))) | _ => False) else dLcL g tt te E τ G p Q ds S2
@[simp] def dLc (ti : DTI) (g : DTG) (tt : DTT) (te : DTE) (vs : List Nat) : DTE := fun E τ S Q => ti E τ S fun G ds S' => newO S' (.lst []) fun p S1 => dLcL g tt te DW0 (wipeD τ vs) G p (Q (.ref p)) ds S1
structure DTs (X : Cx) (ifs : List Expr) (t : DTT) : Prop where
  mono : ∀ (E E' : DW) τ S (Q Q' : Bool → DH → Prop), (∀ C fs τ S, E C fs τ S → E' C fs τ S) → (∀ d S', Q d S' → Q' d S') → t E τ S Q → t E' τ S Q'
  run : PTs X ifs (upT X t)
@[simp] def dYes : DTT := fun _ _ S Q => Q true S
section
variable {X : Cx} {c : Expr} {t : DTT}
theorem pTs_imp {ifs : List Expr} {t t' : TT} (h : PTs X ifs t) (k : ∀ σ H Q, t' σ H Q → t σ H Q) : PTs X ifs t' := ⟨fun pins s σ H Q I q => h.run pins s σ H Q I (k σ H Q q)⟩
theorem dts_nil : DTs X [] dYes := ⟨fun _ _ _ _ _ _ _ k q => k _ _ q, pTs_imp pts_nil fun σ H Q ⟨E, τ, S, w, r, q⟩ => q H (LeH.refl H) r.rep⟩
theorem dts_one (h : DT X c t) : DTs X [c] t := ⟨h.mono, pts_one h.run⟩
end
def upT0 (w : World) (K : PySem.W.Frag) (t : DTT) : TT := fun σ H Q => ∃ τ S, Rel w K τ S σ H ∧ t DW0 τ S fun b S' => ∀ H', LeH H H' → Rep w K S' H' → Q b H'
def upE0 (w : World) (K : PySem.W.Frag) (t : DTE) : TE := fun σ H Q => ∃ τ S, Rel w K τ S σ H ∧ t DW0 τ S fun d S' => ∀ v H', LeH H H' → Rep w K S' H' → RD K H' d v → Q v H'
theorem DTs.zero {X : Cx} {ifs : List Expr} {t : DTT} (h : DTs X ifs t) : PTs X ifs (upT0 X.w X.K t) := pTs_imp h.run fun σ H Q ⟨τ, S, r, q⟩ => ⟨DW0, τ, S, wish0, r, q⟩
theorem DE.zero {X : Cx} {e : Expr} {t : DTE} (h : DE X e t) : PE X e (upE0 X.w X.K t) := pE_imp h.run fun σ H Q ⟨τ, S, r, q⟩ => ⟨DW0, τ, S, wish0, r, q⟩
theorem wipe_get (σ : L2.St) (j : Nat) : ∀ vs : List Nat, (L2.wipe σ vs)[j]? = if j ∈ vs then σ[j]?.map (fun _ => none) else σ[j]?
  | [] => by simp [L2.wipe]
  | v :: vs => by
    rw [L2.wipe, List.getElem?_set, L2.wipe_length, wipe_get σ j vs]
    by_cases e : v = j
    · subst e
      by_cases l : v < σ.length
      · simp [l]
      · simp [l]
    · have e' : ¬ j = v := fun z => e z.symm
      rw [if_neg e]
      by_cases m : j ∈ vs
      · simp [m]
      · simp [m, e']
theorem wipe_set {σ : L2.St} {i : Nat} {x : Option V} {vs : List Nat} (h : i ∈ vs) : L2.wipe (σ.set i x) vs = L2.wipe σ vs := by
  refine List.ext_getElem? fun j => ?_
  rw [wipe_get, wipe_get, List.getElem?_set]
  by_cases e : i = j
  · subst e
    rw [if_pos h, if_pos h, if_pos rfl]
    by_cases l : i < σ.length
    · simp [l]
    · simp [l]
  · rw [if_neg e]
theorem wipe_wipe (σ : L2.St) (vs : List Nat) : L2.wipe (L2.wipe σ vs) vs = L2.wipe σ vs := by
  refine List.ext_getElem? fun j => ?_
  rw [wipe_get, wipe_get]
  by_cases m : j ∈ vs
  · rw [if_pos m, if_pos m]
    cases σ[j]? <;> rfl
  · rw [if_neg m]
/-- a target that stores in vs alone -/
def upGw (w : World) (K : PySem.W.Frag) (vs : List Nat) (t : DTG) : TG := fun v σ H Q => ∃ d τ S, Rel w K τ S σ H ∧ RD K H d v ∧ t d τ S fun τ' S' => ∀ σ' H', LeH H H' → Rel w K τ' S' σ' H' → L2.wipe σ' vs = L2.wipe σ vs → Q σ' H'
def upGsw (w : World) (K : PySem.W.Frag) (vs : List Nat) (t : DTGs) : TGs := fun us σ H Q => ∃ ds τ S, Rel w K τ S σ H ∧ RDs K H ds us ∧ t ds τ S fun τ' S' => ∀ σ' H', LeH H H' → Rel w K τ' S' σ' H' → L2.wipe σ' vs = L2.wipe σ vs → Q σ' H'
structure DGw (X : Cx) (vs : List Nat) (tg : Expr) (t : DTG) : Prop where
  mono : ∀ d τ S (Q Q' : DSt → DH → Prop), (∀ τ S, Q τ S → Q' τ S) → t d τ S Q → t d τ S Q'
  run : PG X tg (upGw X.w X.K vs t)
structure DGsw (X : Cx) (vs : List Nat) (tg : List Expr) (t : DTGs) : Prop where
  mono : ∀ d τ S (Q Q' : DSt → DH → Prop), (∀ τ S, Q τ S → Q' τ S) → t d τ S Q → t d τ S Q'
  run : PGs X tg (upGsw X.w X.K vs t)
section
variable {X : Cx} {tg e : Expr} {tgs : List Expr} {t : DTG} {ts : DTGs} {te : DTE} {pos : Pos} {vs : List Nat}
theorem dw_name {i : Nat} {x : Str} (hN : X.N.Nodup) (hi : X.N[i]? = some x) (hx : Loc X.env.scope x) (hv : i ∈ vs) (hf : X.fn x = true ∨ X.env.scope.names.lookup x = some .local := by first | exact .inl rfl | exact .inr rfl | assumption) : DGw X vs (.Name x pos) (dGN i) :=
  ⟨fun _ _ _ _ _ k q => k _ _ q, pG_imp (pg_name hN hi hx hf) fun v σ H Q ⟨d, τ, S, r, rd, q⟩ => q _ _ (LeH.refl H) ⟨r.st.set i rd, r.rep⟩ (wipe_set hv)⟩
end
/-- the block's parts, at any block -/
structure Blk (X : Cx) (scope : Scope) (vs : List Nat) (elt tg : Expr) (ifs : List Expr) (g : DTG) (tt : DTT) (te : DTE) : Prop where
  hg : ∀ (s : Shared) (H : Hp) (C : Addr) (cl : List (Str × Addr)) (fp : List Addr), DGw (X.blk s H scope (compEnvC scope cl C X.env) fp) vs tg g
  ht : ∀ (s : Shared) (H : Hp) (C : Addr) (cl : List (Str × Addr)) (fp : List Addr), DTs (X.blk s H scope (compEnvC scope cl C X.env) fp) ifs tt
  he : ∀ (s : Shared) (H : Hp) (C : Addr) (cl : List (Str × Addr)) (fp : List Addr), DE (X.blk s H scope (compEnvC scope cl C X.env) fp) elt te
section
variable {X : Cx} {elt tg iter : Expr} {ifs : List Expr} {scope : Scope} {own : List (Str × Nat)} {pos spos py : Pos} {ti : DTI} {g : DTG} {tt : DTT} {te : DTE}
theorem dLcL_mono {X' : Cx} {vs : List Nat} (hg : DGw X' vs tg g) (ht : DTs X' ifs tt) (he : DE X' elt te) {E : DW} {τ : DSt} {G : DH → Prop} {p : Addr} {Q Q' : DH → Prop} (k : ∀ S, Q S → Q' S) : ∀ (ds : List D) (S : DH), dLcL g tt te E τ G p Q ds S → dLcL g tt te E τ G p Q' ds S
  | [], _, q => ⟨q.1, k _ q.2⟩
  | d :: ds, S, q => ⟨q.1, hg.mono _ _ _ _ _ (fun τ1 S1 z => ht.mono _ _ _ _ _ _ (fun _ _ _ _ y => y) (fun b S2 z => by
      cases b with
      | true =>
        refine he.mono _ _ _ _ _ _ (fun _ _ _ _ y => y) (fun y S3 z => ?_) z
        split at z
        · exact ⟨z.1, dLcL_mono hg ht he k ds _ z.2⟩
        · exact z
      | false => exact dLcL_mono hg ht he k ds _ z) z) q.2⟩
theorem dLc_mono {vs : List Nat} (hi : DI X tg iter ti) (B : Blk X scope vs elt tg ifs g tt te) (E E' : DW) (τ : DSt) (S : DH) (Q Q' : DK) (he : ∀ C fs τ S, E C fs τ S → E' C fs τ S) (k : ∀ d S', Q d S' → Q' d S') (q : dLc ti g tt te vs E τ S Q) : dLc ti g tt te vs E' τ S Q' :=
  hi.mono _ _ _ _ _ _ he (fun G ds S' z p hp => dLcL_mono (B.hg X.s_0 (fun _ => none) 0 [] []) (B.ht X.s_0 (fun _ => none) 0 [] []) (B.he X.s_0 (fun _ => none) 0 [] []) (fun S h => k _ _ h) ds _ (z p hp)) q
theorem dLc_up {vs : List Nat} (hi : DI X tg iter ti) (B : Blk X scope vs elt tg ifs g tt te) {σ : L2.St} {H : Hp} {Q : VK} (h : upE X (dLc ti g tt te vs) σ H Q) : tLc (upI X ti) (upGw X.w X.K vs g) (upT0 X.w X.K tt) (upE0 X.w X.K te) vs σ H Q := by
  obtain ⟨E, τ, S, w, r, q⟩ := h
  refine hi.to w r q fun G ds S0 J H0 le0 w0 r0 f z => fun p hp => ?_
  have z1 := z p (r0.rep.free hp)
  refine ⟨fun i m H' => m = ds.length - i ∧ i ≤ ds.length ∧ LeH H0 H' ∧ ∃ S', Rep X.w X.K S' H' ∧ dLcL g tt te DW0 (wipeD τ vs) G p (fun S => ∀ v H', LeH H H' → Rep X.w X.K S H' → RD X.K H' (.ref p) v → Q v H') (ds.drop i) S', ⟨ds.length, by omega, Nat.zero_le _, LeH.new hp, _, r0.rep.new hp (o := .lst []) ⟨[], upd_same, rfl⟩, z1⟩, ?_⟩
  rintro i m H1 ⟨rfl, hle, le1, S1, r1, q1⟩
  have st1 : RSt X.K H1 (wipeD τ vs) (L2.wipe σ vs) := (r0.st.wipe vs).le le1
  by_cases hlt : i < ds.length
  · have e0 : ds[i]? = some ds[i] := List.getElem?_eq_getElem hlt
    rw [drop_at e0] at q1
    obtain ⟨hG, q1⟩ := q1
    have again : ∀ S' H', LeH H1 H' → Rep X.w X.K S' H' → dLcL g tt te DW0 (wipeD τ vs) G p (fun S => ∀ v H', LeH H H' → Rep X.w X.K S H' → RD X.K H' (.ref p) v → Q v H') (ds.drop (i + 1)) S' →
        LeH H0 H' ∧ ∃ S', Rep X.w X.K S' H' ∧ dLcL g tt te DW0 (wipeD τ vs) G p (fun S => ∀ v H', LeH H H' → Rep X.w X.K S H' → RD X.K H' (.ref p) v → Q v H') (ds.drop (i + 1)) S' := fun S' H' le r' y => ⟨le1.trans le, S', r', y⟩
    refine .inr ⟨f.go i S1 H1 le1 r1 hG hlt, _, fun H2 y => ⟨ds.length - (i + 1), by omega, rfl, hlt, y⟩, fun x H2 hy => ?_⟩
    obtain ⟨le2, rp2, d, ed, rd⟩ := f.yld i S1 H1 x H2 le1 r1 hG hlt hy
    rw [e0] at ed
    cases ed
    refine ⟨ds[i], wipeD τ vs, S1, ⟨st1.le le2, rp2⟩, rd, (B.hg X.s_0 (fun _ => none) 0 [] []).mono _ _ _ _ _ (fun τ3 S3 q3 σ3 H3 le3 r3 hw => ?_) q1⟩
    refine ⟨hw.trans (wipe_wipe σ vs), τ3, S3, r3, (B.ht X.s_0 (fun _ => none) 0 [] []).mono _ _ _ _ _ _ (fun _ _ _ _ y => y) (fun b S4 q4 H4 le4 r4 => ?_) q3⟩
    cases b with
    | false => exact again S4 H4 (le2.trans (le3.trans le4)) r4 q4
    | true =>
      refine ⟨τ3, S4, ⟨r3.st.le le4, r4⟩, (B.he X.s_0 (fun _ => none) 0 [] []).mono _ _ _ _ _ _ (fun _ _ _ _ y => y) (fun y S5 q5 v H5 le5 r5 rv => ?_) q4⟩
      split at q5
      · rename_i acc ea
        obtain ⟨xs, hx, rxs⟩ : ∃ xs, H5 p = some (.lst xs) ∧ RDs X.K H5 acc xs := r5 p _ ea
        have le6 : LeH H5 (upd H5 p (.lst (xs ++ [v]))) := LeH.put hx trivial
        exact ⟨xs, hx, by rw [← rxs.length]; exact q5.1, again _ _ (le2.trans (le3.trans (le4.trans (le5.trans le6)))) (r5.put hx trivial (o := .lst (acc ++ [y])) ⟨_, upd_same, (rxs.snoc rv).le le6⟩) q5.2⟩
      · exact q5.elim
  · have e : i = ds.length := by omega
    subst e
    rw [List.drop_length] at q1
    exact .inl ⟨f.stop S1 H1 le1 r1 q1.1, q1.2 _ H1 (le0.trans le1) r1 rfl⟩
theorem de_lc (hc : X.calm = true) (hN : X.N.Nodup) (hi : DI X tg iter ti) (ok : BlkOk X.N X.env.scope scope own) (B : Blk X scope (own.map (·.2)) elt tg ifs g tt te) (hs : ∀ x, foldedSetIterable iter X.env x = pure x := by intro _; rfl) :
    DE X (.ListComp elt [⟨tg, iter, ifs, 0⟩] scope pos) (dLc ti g tt te (own.map (·.2))) :=
  ⟨dLc_mono hi B, pE_imp (pe_lc (g := upGw X.w X.K (own.map (·.2)) g) (tt := upT0 X.w X.K tt) (te := upE0 X.w X.K te) hc hN hi.run ok (fun s H C cl fp => (B.hg s H C cl fp).run) (fun s H C cl fp => (B.ht s H C cl fp).zero) (fun s H C cl fp => (B.he s H C cl fp).zero) hs) fun σ H Q h => dLc_up hi B h⟩
theorem ds_setLc {i : Nat} {y : Str} (hc : X.calm = true) (hN : X.N.Nodup) (hy : X.N[i]? = some y) (hyl : X.env.scope.names.lookup y = some .local)
    (hsw : swapsWith (.ListComp elt [⟨tg, iter, ifs, 0⟩] scope pos) (some (.Name y py)) spos.line X.env = pure true) (hi : DI X tg iter ti) (ok : BlkOk X.N X.env.scope scope own) (B : Blk X scope (own.map (·.2)) elt tg ifs g tt te)
    (hs : ∀ x, foldedSetIterable iter X.env x = pure x := by intro _; rfl) : DS X (.Assign [.Name y py] (.ListComp elt [⟨tg, iter, ifs, 0⟩] scope pos) spos) (dAsg (dLc ti g tt te (own.map (·.2))) (dGN i)) := by
  refine ⟨fun A B' τ S le q => dLc_mono hi B _ _ _ _ _ _ le.xe (fun _ _ z => le.nx _ _ z) q, pS_imp (ps_setLc (g := upGw X.w X.K (own.map (·.2)) g) (tt := upT0 X.w X.K tt) (te := upE0 X.w X.K te) hc hN hy hyl hsw hi.run ok (fun s H C cl fp => (B.hg s H C cl fp).run) (fun s H C cl fp => (B.ht s H C cl fp).zero) (fun s H C cl fp => (B.he s H C cl fp).zero) hs) fun D σ H ⟨E, τ, S, w, r, q⟩ => ?_⟩
  refine dLc_up hi B ⟨E, τ, S, w, r, dLc_mono hi B _ _ _ _ _ _ (fun _ _ _ _ z => z) (fun d S' z v H' le rp rd => ?_) q⟩
  exact z _ H' le ⟨(r.st.le le).set i rd, rp⟩
end
end Dt
set_option maxRecDepth 100000
set_option maxHeartbeats 4000000
/-! Dat3: defs and their promises, calls, instances. -/
namespace Dt
open PySem PySem.Spec L2

abbrev DXK := Addr → List (Str × D) → DH → Prop
abbrev DSp := List D → DH → DK → DXK → Prop
def lQ (w : World) (K : PySem.W.Frag) (H : Hp) (Q : VK) : DK := fun d S' => ∀ v H', LeH H H' → Rep w K S' H' → RD K H' d v → Q v H'
def lX (w : World) (K : PySem.W.Frag) (H : Hp) (E : XK) : DXK := fun C fs S' => ∀ dd ws H', LeH H H' → Rep w K S' H' → H' dd = some (.xd ws) → RKs K H' fs ws → S' dd = none → E (.ref C) (some dd) H'
def upSp (w : World) (K : PySem.W.Frag) (sp : DSp) : Sp := fun vs H Q E => ∃ ds S, Rep w K S H ∧ RDs K H ds vs ∧ sp ds S (lQ w K H Q) (lX w K H E)
structure DFn (P : Program) (w : World) (K : PySem.W.Frag) (mg : Str → Option Value) (base : Heap) (k : Nat) (f : Addr) (fd : FuncData) (ps : List Str) (sp : DSp) : Prop where
  mono : ∀ ds S (Q Q' : DK) (E E' : DXK), (∀ d S', Q d S' → Q' d S') → (∀ C fs S', E C fs S' → E' C fs S') → sp ds S Q E → sp ds S Q' E'
  len : ∀ ds S Q E, sp ds S Q E → ds.length = ps.length
  run : ∀ (A : Around) (outer : List Env) (s : Shared) (H : Hp) (args : Args) (us : List Value) (vs : List V) (Q : VK) (E : XK), Room k A → A.guards = some [] → Env0 P w K mg base A outer s H → BindsTo s fd args (ps.zip us) → Vals vs us →
    upSp w K sp vs H Q E → codeAny (model P w) A (.call (.ref f) args) (CR (L2.CX P w) outer P w H s Q E) s
theorem DFn.more {P : Program} {w : World} {K : PySem.W.Frag} {mg : Str → Option Value} {base : Heap} {j k : Nat} {f : Addr} {fd : FuncData} {ps : List Str} {sp : DSp} (F : DFn P w K mg base j f fd ps sp) (h : j ≤ k) : DFn P w K mg base k f fd ps sp :=
  ⟨F.mono, F.len, fun A outer s H args us vs Q E hr => F.run A outer s H args us vs Q E (hr.mono h)⟩

section
variable {X : Cx} {k : Nat} {f C : Addr} {fd : FuncData} {ps : List Str} {sp : DSp} {x m : Str} {p pos apos : Pos} {e o : Expr} {es : List Expr} {ta : DTE} {t : DTA}
theorem run_dfn {pins : List (Addr × Obj)} {s : Shared} {us : List Value} {vs : List V} {ds : List D} {E : DW} {τ : DSt} {S : DH} {σ : L2.St} {H : Hp} {Q0 : DK} {Q : VK} (F : DFn X.prog X.w X.K X.mg X.base k f fd ps sp) (hr : Room k X.A) (gu : X.A.guards = some []) (hb : Binds X.K fd ps [])
    (I : Inv X pins σ H s) (w : Wish X E H) (rl : Rel X.w X.K τ S σ H) (r : Vals vs us) (rd : RDs X.K H ds vs) (h : sp ds S Q0 (fun C fs S' => E C fs τ S')) (kq : ∀ d S' v H', LeH H H' → Rep X.w X.K S' H' → RD X.K H' d v → Q0 d S' → Q v H') :
    wpAny (model X.prog X.w) X.A (call (.ref f) us) (EP X pins σ Q) X.xe s := by
  have hl : (us ++ []).length = ps.length := by rw [List.append_nil, ← r.length, ← rd.length]; exact F.len _ _ _ _ h
  have hbd := hb s us I.kIn hl
  rw [List.append_nil] at hbd
  refine wpAny_call (codeAny_mono (F.run X.A X.stack s H ⟨us, []⟩ us vs Q (fun cls d H' => upW X.w X.K E H cls d σ H') hr gu I.env0 hbd r ⟨ds, S, rl.rep, rd, F.mono _ _ _ _ _ _ (fun d S' q v H' le rp rv => kq d S' v H' le rp rv q)
    (fun C fs S' q dd ws H' le rp hx rk hn => ⟨C, fs, τ, S', dd, ws, rfl, rfl, le, rl.le le rp, hx, rk, hn, q⟩) h⟩) fun r s' hq => ?_)
  cases r with
  | error e => exact w e s' (XE.of_call I (fun _ _ _ h => h) hq)
  | ok fl =>
    cases fl with
    | ret u => exact I.after hq
    | next => exact False.elim hq
    | brk => exact False.elim hq
    | cont => exact False.elim hq
@[simp] def dCall (sp : DSp) (t : DTA) : DTE := fun E τ S Q => t E τ S fun ds S1 => sp ds S1 Q fun C fs S' => E C fs τ S'
theorem de_call (F : DFn X.prog X.w X.K X.mg X.base k f fd ps sp) (hr : Room k X.A) (gu : X.A.guards = some []) (hg : Gl X x) (hm : X.mg x = some (.ref f)) (hk : PySem.W.keepIn X.K (.ref f) = true) (hb : Binds X.K fd ps []) (ha : DA X (e :: es) t)
    (hdb : (x == ("__debug__" : Str)) = false := by decide) (he : starEach (e :: es) X.env = (false, eval e X.env) :: starEach es X.env := by rfl) (hpl : (backTo pos (starEach es X.env)).any (·.1) = false := by rfl) :
    DE X (.Call (.Name x p) (e :: es) [] pos) (dCall sp t) := by
  refine ⟨fun E E' τ S Q Q' hE kq q => ha.mono _ _ _ _ _ _ hE (fun ds S1 z => F.mono _ _ _ _ _ _ kq (fun C fs S' y => hE _ _ _ _ y) z) q, ⟨fun pins s σ H Q I ⟨E, τ, S, w, r, q⟩ => ?_⟩⟩
  refine PySem.wpAny_Call_Name_kw (ld_glob I hg hm ?_ hdb)
  refine PySem.W.callWith_K (h₀ := X.base) I.ok.mod.kin hk (thn (ha.run.run pos pins s σ H _ I (ha.to w r q fun ds S1 vs H1 le1 w1 r1 rd1 z => (⟨LeH.refl H1, le1, w1, r1, rd1, z⟩ : LeH H1 H1 ∧ LeH H H1 ∧ Wish X E H1 ∧ Rel X.w X.K τ S1 σ H1 ∧ RDs X.K H1 ds vs ∧ _) |> fun a => (⟨ds, S1, a⟩ : ∃ ds S1, LeH H1 H1 ∧ LeH H H1 ∧ Wish X E H1 ∧ Rel X.w X.K τ S1 σ H1 ∧ RDs X.K H1 ds vs ∧ sp ds S1 (fun d S' => ∀ v H', LeH H H' → Rep X.w X.K S' H' → RD X.K H' d v → Q v H') fun C fs S' => E C fs τ S'))) fun us s1 ⟨vs, H1, I1, rv, ds, S1, _, le1, w1, r1, rd1, z⟩ => ⟨I1.kIn, ?_⟩) he hpl
  exact run_dfn F hr gu hb I1 w1 r1 rv rd1 z fun d S' v H' le rp rd q2 => q2 v H' (le1.trans le) rp rd
theorem de_call0 (F : DFn X.prog X.w X.K X.mg X.base k f fd ps sp) (hr : Room k X.A) (gu : X.A.guards = some []) (hg : Gl X x) (hm : X.mg x = some (.ref f)) (hk : PySem.W.keepIn X.K (.ref f) = true) (hb : Binds X.K fd ps [])
    (hdb : (x == ("__debug__" : Str)) = false := by decide) : DE X (.Call (.Name x p) [] [] pos) (dCall sp dNil) := by
  refine ⟨fun E E' τ S Q Q' hE kq q => F.mono _ _ _ _ _ _ kq (fun C fs S' y => hE _ _ _ _ y) q, ⟨fun pins s σ H Q I ⟨E, τ, S, w, r, q⟩ => ?_⟩⟩
  refine PySem.wpAny_Call_Name_kw (ld_glob I hg hm ?_ hdb)
  exact PySem.W.callWith_K0 I.kIn hk (run_dfn (us := []) F hr gu hb I w r .nil .nil q fun d S' v H' le rp rd q2 => q2 v H' le rp rd)

/-! ### fields of instances -/
theorem RKs.lookup {K : PySem.W.Frag} {H : Hp} : ∀ {fs : List (Str × D)} {ws : List (Str × V)} (f : Str), RKs K H fs ws → match fs.lookup f, ws.lookup f with | some d, some v => RD K H d v | none, none => True | _, _ => False
  | [], _, f, h => by cases h; trivial
  | (j, d) :: r, _, f, h => by
    obtain ⟨v, s, rfl, h1, h2⟩ := h
    simp only [List.lookup_cons]
    cases e : f == j with
    | true => exact h1
    | false => exact RKs.lookup f h2
/-- o.m(..) -/
@[simp] def dMeth (C : Addr) (m : Str) (sp : DSp) (ta : DTE) (t : DTA) : DTE := fun E τ S Q => ta E τ S fun d S1 => match d with
  | .ref a => (match S1 a with | some (.ins C' fs) => C' = C ∧ fs.lookup m = none ∧ t E τ S1 fun ds S2 => sp (.ref a :: ds) S2 Q fun C fs S' => E C fs τ S' | _ => False)
  | _ => False
end

/-! ### a def by its body -/
def dstart (N : List Str) (ds : List D) : DSt := ds.map some ++ List.replicate (N.length - ds.length) none
theorem dstart_rel {K : PySem.W.Frag} {H : Hp} {N : List Str} {ds : List D} {vs : List V} (r : RDs K H ds vs) : RSt K H (dstart N ds) (L2.start N vs) := by
  refine ⟨by simp [dstart, L2.start, r.length], fun i d e => ?_⟩
  unfold dstart at e
  unfold L2.start
  by_cases l : i < ds.length
  · rw [List.getElem?_append_left (by simpa using l), List.getElem?_map] at e
    rw [List.getElem?_append_left (by simpa [← r.length] using l), List.getElem?_map]
    cases q : ds[i]? with
    | none => rw [q] at e; cases e
    | some d' =>
      rw [q] at e
      cases e
      obtain ⟨v, h1, h2⟩ := r.get q
      exact ⟨v, by rw [h1]; rfl, h2⟩
  · rw [List.getElem?_append_right (by simpa using l), List.getElem?_replicate] at e
    split at e <;> cases e
theorem guards_deeper {A : Around} {env : Env} (h : A.guards = some []) : (A.deeper env).guards = some [] := by
  first | exact h | (simp [Around.deeper, h])
end Dt
set_option maxRecDepth 100000
set_option maxHeartbeats 4000000
/-! DatU: lists that are written no more are values; what is no more needed is let go. -/
namespace Dt
open PySem PySem.Spec L2

def delo (S : DH) (a : Addr) : DH := fun b => if b = a then none else S b
@[simp] theorem delo_upo {S : DH} {p : Addr} {o : Ob} : delo (upo S p o) p = delo S p := by
  funext b
  unfold delo upo
  split <;> rfl
theorem delo_none {S : DH} {p : Addr} (h : S p = none) : delo S p = S := by
  funext b
  unfold delo
  split
  · rename_i e
    rw [e, h]
  · rfl
/-- a data heap that tells less -/
def Sub (S' S : DH) : Prop := ∀ b o, S' b = some o → S b = some o
theorem Sub.refl (S : DH) : Sub S S := fun _ _ h => h
theorem Sub.trans {S1 S2 S3 : DH} (a : Sub S1 S2) (b : Sub S2 S3) : Sub S1 S3 := fun x o h => b x o (a x o h)
theorem Sub.delo (S : DH) (a : Addr) : Sub (delo S a) S := fun b o h => by
  unfold Dt.delo at h
  split at h
  · cases h
  · exact h
theorem Sub.new {S : DH} {p : Addr} {o : Ob} (h : S p = none) : Sub S (upo S p o) := fun b u e => by
  rw [upo_ne (fun z => by subst z; rw [h] at e; cases e)]
  exact e
section
variable {w : World} {K : PySem.W.Frag} {S S' : DH} {H H' : Hp}
theorem Rep.sub (r : Rep w K S H) (h : Sub S' S) : Rep w K S' H := fun a o e => r a o (h a o e)
end
section
variable {X : Cx} {pins : List (Addr × Obj)} {σ : L2.St} {H : Hp} {s : Shared}
/-- the list at a is written no more -/
theorem inv_frz {a : Addr} {xs : List V} (I : Inv X pins σ H s) (e : H a = some (.lst xs)) : ∃ o, Inv X pins σ (upd H a (.frz o (.lst xs))) s := by
  obtain ⟨hz, its, n, r, eo⟩ := I.hok a _ e
  refine ⟨{ cls := .type "list", data := .seq its.toArray n }, ?_⟩
  have := I.write (t' := s.toks) (h' := s.heap) (x := a) (e := a) (o := .frz { cls := .type "list", data := .seq its.toArray n } (.lst xs)) (by rw [e]; trivial) (.inl rfl) (fun _ _ _ q => q) ⟨_, eo⟩ ⟨eo, hz, its, n, r, eo⟩
  exact this
/-! lists that are written no more, and how a value is seen then -/
mutual
inductive Vw (S : DH) (F : List Addr) : D → D → Prop
  | same (d : D) : Vw S F d d
  | lst {a : Addr} {ds es : List D} : S a = some (.lst ds) → a ∈ F → Vws S F ds es → Vw S F (.ref a) (.rol es)
  | tup {ds es : List D} : Vws S F ds es → Vw S F (.tup ds) (.tup es)
  | rol {ds es : List D} : Vws S F ds es → Vw S F (.rol ds) (.rol es)
inductive Vws (S : DH) (F : List Addr) : List D → List D → Prop
  | nil : Vws S F [] []
  | cons {d e : D} {ds es : List D} : Vw S F d e → Vws S F ds es → Vws S F (d :: ds) (e :: es)
end
theorem Vws.same {S : DH} {F : List Addr} : ∀ ds : List D, Vws S F ds ds
  | [] => .nil
  | d :: ds => .cons (.same d) (Vws.same ds)
/-- what stands behind: F's lists are told as values alone -/
def Bhd (S : DH) (F : List Addr) (S' : DH) : Prop := ∀ b o, S' b = some o → S b = some o ∧ b ∉ F
structure Frzn (w : World) (K : PySem.W.Frag) (S : DH) (F : List Addr) (H : Hp) : Prop where
  get : ∀ a ∈ F, ∀ ds, S a = some (.lst ds) → ∃ xs o, H a = some (.frz o (.lst xs)) ∧ RDs K H ds xs
end
section
variable {w : World} {K : PySem.W.Frag} {S : DH} {F : List Addr} {H : Hp}
mutual
theorem Vw.rd (f : Frzn w K S F H) : ∀ {d e : D} {v : V}, Vw S F d e → RD K H d v → RD K H e v
  | _, _, _, .same _, r => r
  | _, _, v, .lst (a := a) (ds := ds) h1 h2 h3, r => by
    obtain rfl : v = .ref a := r
    obtain ⟨xs, o, e, rs⟩ := f.get _ h2 _ h1
    exact ⟨a, xs, rfl, .inl ⟨o, e⟩, Vws.rd f h3 rs⟩
  | _, _, v, .tup h, r => by
    obtain ⟨p, xs, rfl, sq, rs⟩ : ∃ p xs, v = V.ref p ∧ SqT K H p xs ∧ RDs K H _ xs := r
    exact ⟨p, xs, rfl, sq, Vws.rd f h rs⟩
  | _, _, v, .rol h, r => by
    obtain ⟨p, xs, rfl, sq, rs⟩ : ∃ p xs, v = V.ref p ∧ SqR K H p xs ∧ RDs K H _ xs := r
    exact ⟨p, xs, rfl, sq, Vws.rd f h rs⟩
theorem Vws.rd (f : Frzn w K S F H) : ∀ {ds es : List D} {vs : List V}, Vws S F ds es → RDs K H ds vs → RDs K H es vs
  | _, _, _, .nil, r => r
  | _, _, vs, .cons h1 h2, r => by
    obtain ⟨v, r', rfl, r1, r2⟩ := r
    exact ⟨v, r', rfl, Vw.rd f h1 r1, Vws.rd f h2 r2⟩
end
end
theorem LeH.frz {H : Hp} {a : Addr} {xs : List V} {o : Obj} (e : H a = some (.lst xs)) : LeH H (upd H a (.frz o (.lst xs))) := LeH.put e trivial
section
variable {X : Cx} {pins : List (Addr × Obj)} {σ : L2.St} {s : Shared}
theorem rep_frz {w : World} {K : PySem.W.Frag} {S : DH} {H : Hp} {a : Addr} {xs : List V} {o : Obj} (r : Rep w K S H) (e : H a = some (.lst xs)) : Rep w K (delo S a) (upd H a (.frz o (.lst xs))) := fun b ob h => by
  unfold delo at h
  split at h
  · cases h
  · rename_i hb
    exact (r b ob h).at (LeH.frz e) (upd_ne hb)
/-- all of F, one by one -/
theorem frz_all {S : DH} : ∀ (F : List Addr) {H : Hp}, Inv X pins σ H s → Rep X.w X.K S H → (∀ a ∈ F, ∃ ds, S a = some (.lst ds)) → F.Nodup →
    ∃ H', Inv X pins σ H' s ∧ LeH H H' ∧ Frzn X.w X.K S F H' ∧ Rep X.w X.K (fun b => if b ∈ F then none else S b) H'
  | [], H, I, r, _, _ => ⟨H, I, LeH.refl H, ⟨fun _ h => nomatch h⟩, by simpa using r⟩
  | a :: F, H, I, r, h, nd => by
    obtain ⟨nd1, nd2⟩ := List.nodup_cons.mp nd
    obtain ⟨ds, ea⟩ := h a (List.mem_cons_self ..)
    obtain ⟨xs, eh, rs⟩ : ∃ xs, H a = some (.lst xs) ∧ RDs X.K H ds xs := r a _ ea
    obtain ⟨o, I1⟩ := inv_frz I eh
    have r1 := rep_frz (o := o) r eh
    obtain ⟨H2, I2, le2, f2, r2⟩ := frz_all (S := delo S a) F I1 r1 (fun b hb => by
      obtain ⟨ds', e'⟩ := h b (List.mem_cons_of_mem _ hb)
      refine ⟨ds', ?_⟩
      unfold delo
      rw [if_neg (fun z : b = a => nd1 (by rw [← z]; exact hb))]
      exact e') nd2
    have le1 : LeH H (upd H a (.frz o (.lst xs))) := LeH.frz eh
    refine ⟨H2, I2, le1.trans le2, ⟨fun b hb ds' e' => ?_⟩, fun b ob hb => ?_⟩
    · rcases List.mem_cons.mp hb with rfl | hb
      · rw [ea] at e'
        cases e'
        exact ⟨xs, o, le2.fl _ _ _ upd_same, rs.le (le1.trans le2)⟩
      · refine f2.get b hb ds' ?_
        unfold delo
        rw [if_neg (fun z : b = a => nd1 (by rw [← z]; exact hb))]
        exact e'
    · refine r2 b ob ?_
      have hb : (if b ∈ a :: F then none else S b) = some ob := hb
      show (if b ∈ F then none else delo S a b) = some ob
      simp only [List.mem_cons] at hb
      by_cases z : b = a
      · rw [if_pos (.inl z)] at hb
        cases hb
      · by_cases z2 : b ∈ F
        · rw [if_pos (.inr z2)] at hb
          cases hb
        · rw [if_neg (fun y => y.elim z z2)] at hb
          rw [if_neg z2]
          unfold delo
          rw [if_neg z]
          exact hb
/-- what a def gives: lists may become values, other things may be let go -/
def Rt (Q : DK) : DK := fun d S => ∃ F d' S', Vw S F d d' ∧ (∀ a ∈ F, ∃ ds, S a = some (.lst ds)) ∧ F.Nodup ∧ Bhd S F S' ∧ Q d' S'
theorem Rt.mono {Q Q' : DK} (k : ∀ d S, Q d S → Q' d S) (d : D) (S : DH) (h : Rt Q d S) : Rt Q' d S := by
  obtain ⟨F, d', S', h1, h2, h3, h4, h5⟩ := h
  exact ⟨F, d', S', h1, h2, h3, h4, k _ _ h5⟩
theorem Rt.same {Q : DK} {d : D} {S : DH} (h : Q d S) : Rt Q d S := ⟨[], d, S, .same d, (fun _ z => nomatch z), .nil, fun b o e => ⟨e, List.not_mem_nil⟩, h⟩
theorem Rt.keep {Q : DK} {d : D} {S S' : DH} (x : Sub S S') (h : Q d S) : Rt Q d S' := ⟨[], d, S, .same d, (fun _ z => nomatch z), .nil, fun b o e => ⟨x b o e, List.not_mem_nil⟩, h⟩
/-- a list of its own is given -/
theorem Rt.rol {Q : DK} {p : Addr} {S S' : DH} {ds : List D} (e : S' p = some (.lst ds)) (n : S p = none) (x : Sub S S') (h : Q (.rol ds) S) : Rt Q (.ref p) S' :=
  ⟨[p], .rol ds, S, .lst e (List.mem_singleton.mpr rfl) (Vws.same ds), fun a ha => ⟨ds, by rw [List.mem_singleton.mp ha]; exact e⟩, List.nodup_cons.mpr ⟨List.not_mem_nil, .nil⟩,
    fun b o eb => ⟨x b o eb, fun z => by rw [List.mem_singleton.mp z, n] at eb; cases eb⟩, h⟩
theorem Rt.to {S : DH} {H : Hp} {d : D} {v : V} {u : Value} {Q : DK} {Q' : VK} (I : Inv X pins σ H s) (r : Rep X.w X.K S H) (rd : RD X.K H d v) (ru : RelV v u) (h : Rt Q d S)
    (k : ∀ d S' v H', LeH H H' → Rep X.w X.K S' H' → RD X.K H' d v → Q d S' → Q' v H') : ∃ v H', Inv X pins σ H' s ∧ RelV v u ∧ LeH H H' ∧ Q' v H' := by
  obtain ⟨F, d', S', h1, h2, h3, h4, h5⟩ := h
  obtain ⟨H', I', le, f, r'⟩ := frz_all F I r h2 h3
  refine ⟨v, H', I', ru, le, k d' S' v H' le (r'.sub fun b o e => ?_) (Vw.rd f h1 (rd.le le)) h5⟩
  obtain ⟨e1, e2⟩ := h4 b o e
  show (if b ∈ F then none else S b) = some o
  rw [if_neg e2]
  exact e1
end
/-- a def by its body -/
theorem dfn_of2 {P : Program} {w : World} {K : PySem.W.Frag} {mg : Str → Option Value} {base : Heap} {x qual : Str} {st : Stmt} {f : Addr} {fd : FuncData} {N ps : List Str} {k : Nat} {sp : DSp} {t : DTS} (F : Fun K x qual st f fd) (Sc : FnScope N ps (defScope st))
    (mono : ∀ ds S (Q Q' : DK) (E E' : DXK), (∀ d S', Q d S' → Q' d S') → (∀ C fs S', E C fs S' → E' C fs S') → sp ds S Q E → sp ds S Q' E') (len : ∀ ds S Q E, sp ds S Q E → ds.length = ps.length)
    (hbody : ∀ (cdv : Value) (A : Around) (outer : List Env) (s : Shared) (H : Hp) (E : XK), Room k (A.deeper (PyProof.Rows.envOfC qual (defScope st) s.heap.objs.size f cdv)) → (A.deeper (PyProof.Rows.envOfC qual (defScope st) s.heap.objs.size f cdv)).guards = some [] →
      DSs (cxOf (L2.CX P w) P w K mg base N qual (defScope st) f cdv A outer s H E) (defBody st) t)
    (hsp : ∀ ds S Q E, sp ds S Q E → t { nx := fun _ S' => Rt Q .non S', rt := Rt Q, xe := fun C fs _ S' => ∃ S'', Sub S'' S' ∧ E C fs S'' } (dstart N ds) S) : DFn P w K mg base (k + 1) f fd ps sp := by
  obtain ⟨oc, od, kV, doc, pm, an, cdv, ct, osl, rfl, lk, hcd⟩ := F.ex
  refine ⟨mono, len, fun A outer s H args us vs Q E hr gu e0 hb r ⟨ds, S, rep, rds, q⟩ => ?_⟩
  have hl : vs.length = ps.length := by rw [← rds.length]; exact len _ _ _ _ q
  have KX : K.In s.heap := e0.mod.kin.keeps fun b o z => (e0.bs b o z).1
  have lim : s.heap.NoLimit := e0.mod.nolimit.keeps fun b o z => (e0.bs b o z).1
  refine codeAny_call_function hr.depth (KX _ _ lk) rfl Sc.co Sc.gen rfl (PySem.W.codeRec_of KX hcd) (hb _ _ _ _ ?_)
  refine wpAny_newFunctionEnv_cells Sc.kind (fun ⟨n, v⟩ hy => ?_) fun env he s1 x => ?_
  · rcases Sc.par n (List.of_mem_zip hy).1 with z | z
    · exact .inl z
    · exact .inr ⟨z, PySem.W.cellsFrom_some _ _ _ (.inl z)⟩
  subst he
  have B := hbody cdv A outer s H E (hr.deeper _) (guards_deeper gu)
  have I : Inv (cxOf (L2.CX P w) P w K mg base N qual (defScope st) f cdv A outer s H E) [] (L2.start N vs) H s1 := inv_start Sc hr.hd e0 hl r x
  have wi : Wish (cxOf (L2.CX P w) P w K mg base N qual (defScope st) f cdv A outer s H E) (fun C fs _ S' => ∃ S'', Sub S'' S' ∧ lX w K H E C fs S'') H := by
    refine Takes.imp (takes_of (E := E) rfl rfl rfl rfl) fun cls d σ H' h => ?_
    obtain ⟨C, fs, τ, S', dd, ws, rfl, rfl, le, rl, hx, rk, hn, S'', sb, h⟩ := h
    refine h dd ws H' le (rl.rep.sub sb) hx rk ?_
    cases e : S'' dd with
    | none => rfl
    | some o => rw [sb dd o e] at hn; cases hn
  have fin : ∀ {σ' : L2.St} {H' : Hp} {v : V} {u : Value} {s' : Shared}, Inv (cxOf (L2.CX P w) P w K mg base N qual (defScope st) f cdv A outer s H E) [] σ' H' s' → RelV v u → (∃ d S', LeH H H' ∧ Rep w K S' H' ∧ RD K H' d v ∧ Rt (lQ w K H Q) d S') → CE outer P w H s Q u s' :=
    fun {σ' H' v u s'} J rv ⟨d, S', le, rp, rd, y⟩ => by
      obtain ⟨v, H', J, rv, le', y⟩ := Rt.to (X := cxOf (L2.CX P w) P w K mg base N qual (defScope st) f cdv A outer s H E) J rp rd rv y fun d S' v H2 le2 rp2 rd2 z => (z v H2 (le.trans le2) rp2 rd2 : Q v H2)
      exact ⟨v, H', J.os, J.bare, J.base, J.hok, rv, y⟩
  refine ⟨lim.keeps x.toInCall.keep, codeAny_func (PySem.wpAny_mono (B.run.run [] s1 (L2.start N vs) H { nx := fun _ H' => ∃ S', LeH H H' ∧ Rep w K S' H' ∧ Rt (lQ w K H Q) .non S', rt := fun v H' => ∃ d S', LeH H H' ∧ Rep w K S' H' ∧ RD K H' d v ∧ Rt (lQ w K H Q) d S' } I ⟨_, dstart N ds, S, wi, ⟨dstart_rel rds, rep⟩, B.mono { nx := fun _ S' => Rt (lQ w K H Q) .non S', rt := Rt (lQ w K H Q), xe := fun C fs _ S' => ∃ S'', Sub S'' S' ∧ lX w K H E C fs S'' } _ _ _ ⟨fun τ S' h σ H' le r' => ?_, fun d S' h v H' le r' rv => ?_, fun _ _ h => h.elim, fun _ _ h => h.elim, fun _ _ _ _ h => h⟩ (hsp _ _ _ _ q)⟩) (fun fl s' hs => ?_) fun e s' hs => hs)⟩
  · exact ⟨S', le, r'.rep, h⟩
  · exact ⟨d, S', le, r', rv, h⟩
  · cases fl with
    | ret u =>
      obtain ⟨v, σ', H', J, rv, y⟩ := hs
      exact fin J rv y
    | next =>
      obtain ⟨σ', H', J, S', le, rp, y⟩ := hs
      exact fin (v := V.non) (u := Value.none) J rfl ⟨.non, S', le, rp, rfl, y⟩
    | brk =>
      obtain ⟨_, _, _, y⟩ := hs
      exact y.elim
    | cont =>
      obtain ⟨_, _, _, y⟩ := hs
      exact y.elim

/-! ### expressions whose list is written no more -/
theorem DE.sub {X : Cx} {e : Expr} {t t' : DTE} (h : DE X e t) (m : ∀ (E E' : DW) τ S (Q Q' : DK), (∀ C fs τ S, E C fs τ S → E' C fs τ S) → (∀ d S', Q d S' → Q' d S') → t' E τ S Q → t' E' τ S Q') (k : ∀ E τ S Q, t' E τ S Q → t E τ S Q) : DE X e t' :=
  ⟨m, pE_imp h.run fun σ H Q ⟨E, τ, S, w, r, q⟩ => ⟨E, τ, S, w, r, k _ _ _ _ q⟩⟩
/-- a list becomes a value -/
@[simp] def fzK (Q : DK) : DK := fun d S => match d with
  | .ref a => (match S a with | some (.lst ds) => Q (.rol ds) (delo S a) | _ => False)
  | d => Q d S
theorem fzK_mono {Q Q' : DK} (k : ∀ d S', Q d S' → Q' d S') (d : D) (S : DH) (h : fzK Q d S) : fzK Q' d S := by
  cases d with
  | ref a =>
    revert h
    show (match S a with | some (.lst ds) => _ | _ => False) → (match S a with | some (.lst ds) => _ | _ => False)
    split
    · exact k _ _
    · exact fun h => h
  | _ => exact k _ _ h
theorem fzK_new {Q : DK} {S : DH} {p : Addr} {ds : List D} (hp : S p = none) (h : Q (.rol ds) S) : fzK Q (.ref p) (upo S p (.lst ds)) := by
  simp only [fzK, upo_same, delo_upo, delo_none hp]
  exact h
def fzK_to {X : Cx} {pins : List (Addr × Obj)} {σ : L2.St} {s : Shared} {S : DH} {H : Hp} {d : D} {v : V} {u : Value} {Q : DK} {Q' : VK} (I : Inv X pins σ H s) (r : Rep X.w X.K S H) (rd : RD X.K H d v) (ru : RelV v u) (h : fzK Q d S)
    (k : ∀ d S' v H', LeH H H' → Rep X.w X.K S' H' → RD X.K H' d v → Q d S' → Q' v H') : EP X pins σ Q' u s := by
  cases d with
  | ref a =>
    obtain rfl : v = .ref a := rd
    revert h
    show (match S a with | some (.lst ds) => _ | _ => False) → _
    split
    · rename_i ds ea
      intro h
      obtain ⟨xs, eh, rs⟩ : ∃ xs, H a = some (.lst xs) ∧ RDs X.K H ds xs := r a _ ea
      obtain ⟨o, I1⟩ := inv_frz I eh
      exact ⟨_, _, I1, ru, k (.rol ds) (delo S a) (.ref a) _ (LeH.frz eh) (rep_frz r eh) ⟨a, xs, rfl, .inl ⟨o, upd_same⟩, rs.le (LeH.frz eh)⟩ h⟩
    · exact fun h => h.elim
  | _ => exact ⟨v, H, I, ru, k _ _ _ _ (LeH.refl H) r rd h⟩
@[simp] def dFz (t : DTE) : DTE := fun E τ S Q => t E τ S (fzK Q)
section
variable {X : Cx} {e : Expr} {t : DTE}
theorem de_fz (h : DE X e t) : DE X e (dFz t) := by
  refine ⟨fun E E' τ S Q Q' he k q => h.mono _ _ _ _ _ _ he (fzK_mono k) q, ⟨fun pins s σ H Q I ⟨E, τ, S, w, r, q⟩ => ?_⟩⟩
  refine thn (h.run.run pins s σ H (fun v H1 => ∃ d S1, LeH H H1 ∧ Rep X.w X.K S1 H1 ∧ RD X.K H1 d v ∧ fzK (fun d S' => ∀ v H', LeH H H' → Rep X.w X.K S' H' → RD X.K H' d v → Q v H') d S1) I (h.to w r q fun d S1 v H1 le w1 r1 rd z => ⟨d, S1, le, r1.rep, rd, z⟩)) fun u s' ⟨v, H1, I1, ru, d, S1, le, rp, rd, z⟩ => ?_
  exact fzK_to I1 rp rd ru z fun d S' v H' le' rp' rd' y => y v H' (le.trans le') rp' rd'
end
@[simp] def rFz (r : R2D) : R2D := fun x y S Q => r x y S (fzK Q)
theorem od_fz {X : Cx} {f : Value → Value → Sem Value} {r : R2D} (h : OpD X f r) : OpD X f (rFz r) := by
  refine ⟨fun x y S Q Q' k q => h.mono _ _ _ _ _ (fzK_mono k) q, fun pins s σ H x y v u Q I rx ry ⟨d, e, S, rep, rd, re, q⟩ => ?_⟩
  refine thn (h.run pins s σ H x y v u (fun v H1 => ∃ d S1, LeH H H1 ∧ Rep X.w X.K S1 H1 ∧ RD X.K H1 d v ∧ fzK (fun d S' => ∀ v H', LeH H H' → Rep X.w X.K S' H' → RD X.K H' d v → Q v H') d S1) I rx ry ⟨d, e, S, rep, rd, re, h.mono _ _ _ _ _ (fun z S' y v H' le rp rz => ⟨z, S', le, rp, rz, y⟩) q⟩) fun u s' ⟨v, H1, I1, ru, d, S1, le, rp, rd, z⟩ => ?_
  exact fzK_to I1 rp rd ru z fun d S' v H' le' rp' rd' y => y v H' (le.trans le') rp' rd'
end Dt
set_option maxRecDepth 100000
set_option maxHeartbeats 4000000
/-! DatN: dicts whose keys are tuples, by the library's nested keys. -/
namespace Dt
open PySem PySem.Spec L2 PySem.W

mutual
theorem rd_nested {X : Cx} {pins : List (Addr × Obj)} {σ : L2.St} {H : Hp} {s : Shared} (I : Inv X pins σ H s) : ∀ (d : D) (nk : NestedKey) (v : V) (u : Value), nkey d = some nk → RD X.K H d v → RelV v u → NestedIs s.heap nk u
  | .non, nk, v, u, e, r, q => by
    simp only [nkey, Option.some.injEq] at e
    subst e
    cases r
    cases (show u = .none from q)
    exact .none
  | .int i, nk, v, u, e, r, q => by
    simp only [nkey, Option.some.injEq] at e
    subst e
    cases r
    obtain ⟨t, rfl⟩ := q
    exact .int i t
  | .str i, nk, v, u, e, r, q => by
    simp only [nkey, Option.some.injEq] at e
    subst e
    cases r
    obtain ⟨t, rfl⟩ := q
    exact .text i t
  | .tup ds, nk, v, u, e, r, q => by
    simp only [nkey] at e
    split at e
    · rename_i ks ek
      cases e
      obtain ⟨p, xs, rfl, sq, rs⟩ : ∃ p xs, v = V.ref p ∧ SqT X.K H p xs ∧ RDs X.K H ds xs := r
      cases (show u = .ref p from q)
      obtain ⟨its, rv, ⟨o, e1, e2, n, e3⟩, hz⟩ := I.tuple sq
      exact .tup e1 e2 e3 (by simpa using rds_nested I ds ks xs its ek rs rv)
    · cases e
  | .bl _, _, _, _, e, _, _ => by simp [nkey] at e
  | .rol _, _, _, _, e, _, _ => by simp [nkey] at e
  | .ref _, _, _, _, e, _, _ => by simp [nkey] at e
theorem rds_nested {X : Cx} {pins : List (Addr × Obj)} {σ : L2.St} {H : Hp} {s : Shared} (I : Inv X pins σ H s) : ∀ (ds : List D) (ks : List NestedKey) (vs : List V) (us : List Value), nkeys ds = some ks → RDs X.K H ds vs → Vals vs us → NestedAll s.heap ks us
  | [], ks, vs, us, e, r, q => by
    simp only [nkeys, Option.some.injEq] at e
    subst e
    cases r
    cases q
    exact .nil
  | d :: ds, ks, vs, us, e, r, q => by
    simp only [nkeys] at e
    split at e
    · rename_i k1 ks1 e1 e2
      cases e
      obtain ⟨v, r', rfl, r1, r2⟩ := r
      cases q with
      | cons q1 q2 => exact .cons (rd_nested I d _ v _ e1 r1 q1) (rds_nested I ds _ r' _ e2 r2 q2)
    · cases e
end
/-- may be a key: a tuple of ints, texts, None, tuples of such -/
def okT (d : D) : Bool := match d, nkey d with | .tup _, some k => decide (k.depth ≤ 8) | _, _ => false
theorem okT_ex {d : D} (h : okT d = true) : ∃ nk, nkey d = some nk ∧ nk.depth ≤ 8 ∧ ∃ ds, d = .tup ds := by
  unfold okT at h
  split at h
  · rename_i ds k e
    exact ⟨k, e, of_decide_eq_true h, ds, rfl⟩
  · cases h
/-- entries beside keys and values -/
def RX (K : PySem.W.Frag) (H : Hp) : List (D × D) → List (NestedKey × Addr × Value) → Prop
  | [], xs => xs = []
  | (k, d) :: r, xs => ∃ nk b u s, xs = (nk, b, u) :: s ∧ (nkey k = some nk ∧ nk.depth ≤ 8 ∧ RD K H k (.ref b) ∧ ∃ v, RelV v u ∧ RD K H d v) ∧ RX K H r s
section
variable {K : PySem.W.Frag} {H H' : Hp}
theorem RX.le (le : LeH H H') : ∀ {kvs : List (D × D)} {xs : List (NestedKey × Addr × Value)}, RX K H kvs xs → RX K H' kvs xs
  | [], _, h => h
  | (_, _) :: _, _, ⟨nk, b, u, s, e, ⟨e1, e2, r1, v, r2, r3⟩, h⟩ => ⟨nk, b, u, s, e, ⟨e1, e2, r1.le le, v, r2, r3.le le⟩, RX.le le h⟩
theorem RX.length : ∀ {kvs : List (D × D)} {xs : List (NestedKey × Addr × Value)}, RX K H kvs xs → kvs.length = xs.length
  | [], _, h => by cases h; rfl
  | (_, _) :: _, _, ⟨nk, b, u, s, e, _, h⟩ => by subst e; simp [RX.length h]
theorem RX.append : ∀ {kvs ls : List (D × D)} {xs ys : List (NestedKey × Addr × Value)}, RX K H kvs xs → RX K H ls ys → RX K H (kvs ++ ls) (xs ++ ys)
  | [], _, _, _, h, k => by cases h; exact k
  | (_, _) :: _, _, _, _, ⟨nk, b, u, s, e, e1, h⟩, k => by subst e; exact ⟨nk, b, u, s ++ _, rfl, e1, RX.append h k⟩
theorem key_iff {k k' : D} {nk nk' : NestedKey} (e : nkey k = some nk) (e' : nkey k' = some nk') : nk = nk' ↔ k = k' :=
  ⟨fun h => nkey_inj k k' nk e (by rw [h]; exact e'), fun h => by rw [h, e'] at e; exact (Option.some.inj e).symm⟩
theorem RX.lk {k : D} {nk : NestedKey} (ek : nkey k = some nk) : ∀ {kvs : List (D × D)} {xs : List (NestedKey × Addr × Value)}, RX K H kvs xs →
    match Dt.lk kvs k, atKey xs nk with | some d, some p => ∃ v, RelV v p.2 ∧ RD K H d v | none, none => True | _, _ => False
  | [], _, h => by cases h; simp [Dt.lk, atKey]
  | (j, d) :: r, _, ⟨nk', b, u, s, e, ⟨e1, e2, r1, r2⟩, h⟩ => by
    subst e
    have ih := RX.lk ek h
    by_cases z : j = k
    · have z' : nk' = nk := (key_iff e1 ek).mpr z
      simp only [Dt.lk, atKey, List.find?_cons, z, z', if_true, decide_true, Option.map_some]
      exact r2
    · have z' : ¬ nk' = nk := fun y => z ((key_iff e1 ek).mp y)
      simp only [Dt.lk, atKey, List.find?_cons, z, z', if_false, decide_false]
      exact ih
theorem RX.ss {kvs : List (D × D)} {xs : List (NestedKey × Addr × Value)} {k d : D} {nk : NestedKey} (h : RX K H kvs xs) (ek : nkey k = some nk) (e : Dt.lk kvs k = some d) : ∃ p, atKey xs nk = some p ∧ ∃ v, RelV v p.2 ∧ RD K H d v := by
  have q := h.lk ek
  rw [e] at q
  split at q
  · rename_i e1 e2
    cases e1
    exact ⟨_, e2, q⟩
  · rename_i e1 _
    cases e1
  · exact q.elim
theorem RX.isSome {kvs : List (D × D)} {xs : List (NestedKey × Addr × Value)} {k : D} {nk : NestedKey} (h : RX K H kvs xs) (ek : nkey k = some nk) : (atKey xs nk).isSome = (Dt.lk kvs k).isSome := by
  have q := h.lk ek
  split at q
  · rename_i e1 e2
    rw [e1, e2]
    rfl
  · rename_i e1 e2
    rw [e1, e2]
    rfl
  · exact q.elim
theorem RX.mapv {k d : D} {nk : NestedKey} {u : Value} {v : V} (ek : nkey k = some nk) (rv : RelV v u) (rd : RD K H d v) : ∀ {kvs : List (D × D)} {xs : List (NestedKey × Addr × Value)}, RX K H kvs xs →
    RX K H (kvs.map fun q => if q.1 = k then (q.1, d) else q) (xs.map (putAt nk u))
  | [], _, h => by cases h; rfl
  | (j, _) :: _, _, ⟨nk', b, u', s, e, ⟨e1, e2, r1, r2⟩, h⟩ => by
    subst e
    by_cases z : j = k
    · have z' : nk' = nk := (key_iff e1 ek).mpr z
      simp only [List.map_cons, putAt, z, z', if_true]
      exact ⟨nk, b, u, _, rfl, ⟨ek, z' ▸ e2, z ▸ r1, v, rv, rd⟩, RX.mapv ek rv rd h⟩
    · have z' : ¬ nk' = nk := fun y => z ((key_iff e1 ek).mp y)
      simp only [List.map_cons, putAt, z, z', if_false]
      exact ⟨nk', b, u', _, rfl, ⟨e1, e2, r1, r2⟩, RX.mapv ek rv rd h⟩
theorem RX.pt {kvs : List (D × D)} {xs : List (NestedKey × Addr × Value)} {k d : D} {nk : NestedKey} {b : Addr} {u : Value} {v : V} (h : RX K H kvs xs) (ek : nkey k = some nk) (hd : nk.depth ≤ 8) (rk : RD K H k (.ref b)) (rv : RelV v u) (rd : RD K H d v) :
    RX K H (Dt.pt kvs k d) (storedH xs nk b u) := by
  unfold Dt.pt storedH
  rw [h.isSome ek]
  split
  · exact RX.mapv ek rv rd h
  · exact h.append ⟨nk, b, u, [], rfl, ⟨ek, hd, rk, v, rv, rd⟩, rfl⟩
theorem RX.dr {k : D} {nk : NestedKey} (ek : nkey k = some nk) : ∀ {kvs : List (D × D)} {xs : List (NestedKey × Addr × Value)}, RX K H kvs xs → RX K H (Dt.dr kvs k) (withoutH xs nk)
  | [], _, h => by cases h; rfl
  | (j, _) :: _, _, ⟨nk', b, u', s, e, ⟨e1, e2, r1, r2⟩, h⟩ => by
    subst e
    have ih := RX.dr ek h
    unfold Dt.dr withoutH at ih ⊢
    by_cases z : j = k
    · have z' : nk' = nk := (key_iff e1 ek).mpr z
      simp only [List.filter_cons, z, z', ne_eq, not_true, decide_false, Bool.false_eq_true, if_false]
      exact ih
    · have z' : ¬ nk' = nk := fun y => z ((key_iff e1 ek).mp y)
      simp only [List.filter_cons, z, z', ne_eq, not_false_eq_true, decide_true, if_true]
      exact ⟨nk', b, u', _, rfl, ⟨e1, e2, r1, r2⟩, ih⟩
theorem RX.get {k d : D} {i : Nat} : ∀ {kvs : List (D × D)} {xs : List (NestedKey × Addr × Value)} {i : Nat} {x : NestedKey × Addr × Value}, RX K H kvs xs → xs[i]? = some x → ∃ k d, kvs[i]? = some (k, d) ∧ nkey k = some x.1 ∧ x.1.depth ≤ 8 ∧ RD K H k (.ref x.2.1) ∧ ∃ v, RelV v x.2.2 ∧ RD K H d v
  | [], _, _, _, h, e => by cases h; simp at e
  | (j, d) :: _, _, 0, _, ⟨nk', b, u', s, e0, ⟨e1, e2, r1, r2⟩, h⟩, e => by
    subst e0
    simp at e
    subst e
    exact ⟨j, d, rfl, e1, e2, r1, r2⟩
  | (_, _) :: _, _, i + 1, _, ⟨nk', b, u', s, e0, _, h⟩, e => by
    subst e0
    obtain ⟨k, d, q⟩ := RX.get (k := .non) (d := .non) (i := 0) h (by simpa using e)
    exact ⟨k, d, by simpa using q⟩
theorem RX.nodup : ∀ {kvs : List (D × D)} {xs : List (NestedKey × Addr × Value)}, RX K H kvs xs → (kvs.map (·.1)).Nodup → (xs.map (·.1)).Nodup
  | [], _, h, _ => by cases h; exact .nil
  | (j, d) :: r, _, ⟨nk', b, u', s, e0, ⟨e1, e2, r1, r2⟩, h⟩, nd => by
    subst e0
    obtain ⟨n1, n2⟩ := List.nodup_cons.mp nd
    refine List.nodup_cons.mpr ⟨fun z => n1 ?_, RX.nodup h n2⟩
    obtain ⟨y, hy, ey⟩ := List.mem_map.mp z
    obtain ⟨i, hi⟩ := List.getElem?_of_mem hy
    obtain ⟨k, d', q1, q2, _⟩ := RX.get (k := .non) (d := .non) (i := 0) h hi
    have : k = j := nkey_inj k j nk' (by rw [q2]; exact congrArg _ ey) e1
    exact List.mem_map.mpr ⟨(k, d'), List.mem_of_getElem? q1, this⟩
end
theorem pt_nodup {kvs : List (D × D)} (k d : D) (h : (kvs.map (·.1)).Nodup) : ((pt kvs k d).map (·.1)).Nodup := by
  unfold pt
  have lkm : ∀ l : List (D × D), (lk l k).isSome = true ∨ k ∉ l.map (·.1) := fun l => by
    induction l with
    | nil => exact .inr (by simp)
    | cons q l ih =>
      obtain ⟨j, v⟩ := q
      by_cases z : j = k
      · exact .inl (by simp [lk, z])
      · rcases ih with ih | ih
        · exact .inl (by simpa [lk, z] using ih)
        · exact .inr (by simp [fun y => z (Eq.symm y)]; exact ⟨fun y => z y.symm, by simpa using ih⟩)
  split
  · have : (kvs.map fun q => if q.1 = k then (q.1, d) else q).map (·.1) = kvs.map (·.1) := by
      rw [List.map_map]
      refine List.map_congr_left fun q _ => ?_
      show (if q.1 = k then (q.1, d) else q).1 = q.1
      split <;> rfl
    rw [this]
    exact h
  · rename_i hn
    rw [List.map_append]
    refine List.nodup_append.mpr ⟨h, by simp, fun a ha b hb => ?_⟩
    simp at hb
    subst hb
    rcases lkm kvs with z | z
    · exact absurd z hn
    · exact fun y => z (y ▸ ha)
theorem pt_len {κ α : Type} [DecidableEq κ] (kvs : List (κ × α)) (k : κ) (d : α) : (pt kvs k d).length ≤ kvs.length + 1 := by
  unfold pt
  split <;> simp
section
variable {X : Cx} {pins : List (Addr × Obj)} {σ : L2.St} {H : Hp} {s : Shared} {a : Addr} {kvs : List (D × D)}
/-- a dict is looked at -/
theorem dn_open (I : Inv X pins σ H s) (r : ROb X.w X.K H a (.dN kvs)) : ∃ xs, s.heap.DictOfH (nestedKind X.prog X.w) a xs ∧ RX X.K H kvs xs ∧ (a == sysModules) = false ∧ kvs.length ≤ sizeLine ∧ (kvs.map (·.1)).Nodup ∧ Mut (H a) := by
  obtain ⟨rows, e, hl, nd, rr⟩ := r
  have x : ObjOk X.prog X.w H s.heap a (.ext (RawRows X.w rows a)) := I.hok a _ e
  obtain ⟨⟨hs, o, es, ep, ho, hx, hd, pr⟩, _⟩ := x
  have go : ∀ {kvs : List (D × D)} {rows : List (NestedKey × Addr × V)} {es : List DictEntry}, RRows X.K H kvs rows → Paired (fun (r : NestedKey × Addr × V) (e : DictEntry) => e.hash = r.1.hash X.w ∧ e.key = .ref r.2.1 ∧ RelV r.2.2 e.val) rows es →
      ∃ xs, RX X.K H kvs xs ∧ es = xs.map (entryOfKey (nestedKind X.prog X.w)) ∧ ∀ x ∈ xs, (nestedKind X.prog X.w).is s.heap x.1 x.2.1 := by
    intro kvs
    induction kvs with
    | nil =>
      intro rows es h p
      cases h
      cases p
      exact ⟨[], rfl, rfl, fun _ z => nomatch z⟩
    | cons q kvs ih =>
      obtain ⟨k, d⟩ := q
      rintro rows es ⟨nk, b, v, s', e, e1, e2, r1, r2, h⟩ p
      subst e
      cases p with
      | @cons _ en _ es' p1 p2 =>
        obtain ⟨xs, h1, h2, h3⟩ := ih h p2
        obtain ⟨hsh, ky, vl⟩ := en
        obtain ⟨q1, q2, q3⟩ := p1
        refine ⟨(nk, b, vl) :: xs, ⟨nk, b, vl, xs, rfl, ⟨e1, e2, r1, v, q3, r2⟩, h1⟩, ?_, fun x hx => ?_⟩
        · rw [List.map_cons, ← h2]
          simp only at q1 q2
          rw [q1, q2]
          rfl
        · rcases List.mem_cons.mp hx with rfl | hx
          · exact ⟨rd_nested I k nk (.ref b) (.ref b) e1 r1 rfl, e2⟩
          · exact h3 x hx
  obtain ⟨xs, h1, h2, h3⟩ := go rr pr
  exact ⟨xs, ⟨o, es, ep, ho, hx, hd, h2, h3, h1.nodup nd⟩, h1, hs, hl, nd, by rw [e]; trivial⟩
theorem rows_of {K : PySem.W.Frag} {w : World} {P : Program} {H : Hp} : ∀ {kvs : List (D × D)} {xs : List (NestedKey × Addr × Value)}, RX K H kvs xs →
    ∃ rows, RRows K H kvs rows ∧ Paired (fun (r : NestedKey × Addr × V) (e : DictEntry) => e.hash = r.1.hash w ∧ e.key = .ref r.2.1 ∧ RelV r.2.2 e.val) rows (xs.map (entryOfKey (nestedKind P w)))
  | [], _, h => by cases h; exact ⟨[], rfl, .nil⟩
  | (k, d) :: r, _, ⟨nk, b, u, s, e, ⟨e1, e2, r1, v, r2, r3⟩, h⟩ => by
    subst e
    obtain ⟨rows, h1, h2⟩ := rows_of (P := P) h
    exact ⟨(nk, b, v) :: rows, ⟨nk, b, v, rows, rfl, e1, e2, r1, r3, h1⟩, .cons ⟨rfl, rfl, r2⟩ h2⟩
/-- a dict was written -/
theorem dn_close {h' : Heap} {t : Nat} {xs : List (NestedKey × Addr × Value)} (I : Inv X pins σ H s) (mu : Mut (H a)) (hs : (a == sysModules) = false) (r : RX X.K H kvs xs) (hl : kvs.length ≤ sizeLine) (nd : (kvs.map (·.1)).Nodup) (hd : h'.DictOfH (nestedKind X.prog X.w) a xs) (sb : Heap.SameBut a s.heap h') :
    ∃ rows, Inv X pins σ (upd H a (dnHO X.w rows a)) { s with heap := h', toks := t } ∧ LeH H (upd H a (dnHO X.w rows a)) ∧ ROb X.w X.K (upd H a (dnHO X.w rows a)) a (.dN kvs) := by
  obtain ⟨rows, r1, r2⟩ := rows_of (P := X.prog) (w := X.w) r
  obtain ⟨o, es, ep, ho, hx, hdd, he, _, _⟩ := hd
  obtain ⟨u, eu⟩ : ∃ u, H a = some u := by
    cases q : H a with
    | none => rw [q] at mu; exact mu.elim
    | some u => exact ⟨u, rfl⟩
  have le : LeH H (upd H a (dnHO X.w rows a)) := LeH.put eu (by rw [← eu]; exact mu)
  refine ⟨rows, I.write (x := a) (e := a) mu (.inl rfl) (fun b u hb q => (sb.2 b hb).trans q) ⟨o, ho⟩ ⟨⟨hs, o, es, ep, ho, hx, hdd, by rw [he]; exact r2⟩, ⟨o, ho⟩, fun h1 h2 z k => ?_⟩, le, ⟨rows, upd_same, hl, nd, r1.le le⟩⟩
  obtain ⟨z1, o', es', ep', q1, q2⟩ := z
  exact ⟨z1, o', es', ep', k _ q1, q2⟩
/-- the key of a dict -/
theorem okT_key (I : Inv X pins σ H s) {k : D} {v : V} {u : Value} (h : okT k = true) (rd : RD X.K H k v) (ru : RelV v u) : ∃ nk b, nkey k = some nk ∧ nk.depth ≤ 8 ∧ v = .ref b ∧ u = .ref b ∧ (nestedKind X.prog X.w).is s.heap nk b := by
  obtain ⟨nk, e, hd, ds, rfl⟩ := okT_ex h
  obtain ⟨p, xs, rfl, _⟩ : ∃ p xs, v = V.ref p ∧ SqT X.K H p xs ∧ RDs X.K H ds xs := id rd
  cases (show u = .ref p from ru)
  exact ⟨nk, p, e, hd, rfl, rfl, rd_nested I _ nk _ _ e rd rfl, hd⟩
end
section
variable {X : Cx} {pos : Pos}
/-- {} whose keys will be tuples -/
@[simp] def dDnN : DTE := fun _ _ S Q => newO S (.dN []) fun p S' => Q (.ref p) S'
theorem de_dnN : DE X (.Dict [] [] pos) dDnN := by
  refine ⟨fun _ _ _ _ _ _ _ k q p hp => k _ _ (q p hp), ⟨fun pins s σ H Q I ⟨E, τ, S, w, r, q⟩ => ?_⟩⟩
  have hp : H s.heap.objs.size = none := I.hok.fresh (Nat.le_refl _)
  have ok : RawRows X.w [] s.heap.objs.size (s.heap.push { cls := .type "dict", data := .dict #[] }) := by
    obtain ⟨z1, z2, _⟩ := dt_empty (P := X.prog) (w := X.w) (H := H) s.heap I.big
    exact ⟨z2, _, #[], 0, Heap.get?_push_size _ rfl, ⟨rfl, rfl, rfl⟩, rfl, .nil⟩
  refine wpAny_Dict_empty ⟨.ref s.heap.objs.size, _, I.laid (a := s.heap.objs.size) (o := dnHO X.w [] s.heap.objs.size) (t' := s.toks) (fun _ _ q => Heap.get?_push_of_some _ q) (Nat.le_refl _) ⟨ok, ⟨_, Heap.get?_push_size _ rfl⟩, fun h1 h2 z k => ?_⟩, rfl, q _ (r.rep.free hp) _ _ (LeH.new hp) (r.rep.new hp (o := .dN []) ⟨[], upd_same, Nat.zero_le _, .nil, rfl⟩) rfl⟩
  obtain ⟨z1, o', es', ep', q1, q2⟩ := z
  exact ⟨z1, o', es', ep', k _ q1, q2⟩
end
end Dt
set_option maxRecDepth 100000
set_option maxHeartbeats 4000000
/-! Dat4: operators, comparisons, repr. -/
namespace Dt
open PySem PySem.Spec L2

/-! ### the library's trees -/
mutual
inductive Pd (S : DH) : D → PyData → Prop
  | non : Pd S .non .none
  | bl (b : Bool) : Pd S (.bl b) (.bool b)
  | int (i : Int) : Pd S (.int i) (.int i)
  | str (x : Str) : Pd S (.str x) (.str x)
  | tup {ds : List D} {ps : List PyData} : PdA S ds ps → Pd S (.tup ds) (.tuple ps)
  | rol {ds : List D} {ps : List PyData} : PdA S ds ps → Pd S (.rol ds) (.list ps)
  | lst {a : Addr} {ds : List D} {ps : List PyData} : S a = some (.lst ds) → PdA S ds ps → Pd S (.ref a) (.list ps)
inductive PdA (S : DH) : List D → List PyData → Prop
  | nil : PdA S [] []
  | cons {d : D} {ds : List D} {p : PyData} {ps : List PyData} : Pd S d p → PdA S ds ps → PdA S (d :: ds) (p :: ps)
end
section
variable {w : World} {K : PySem.W.Frag} {S : DH} {H : Hp}
mutual
theorem Pd.dp (rep : Rep w K S H) : ∀ (p : PyData) (d : D) (v : V), Pd S d p → RD K H d v → Dp K H v p
  | .none, _, _, h, r => by cases h; cases r; exact .non
  | .bool b, _, _, h, r => by cases h; cases r; exact .bl b
  | .int i, _, _, h, r => by cases h; cases r; exact .int i
  | .str x, _, _, h, r => by cases h; cases r; exact .str x
  | .tuple ps, _, v, h, r => by
    cases h with
    | tup hs =>
      obtain ⟨p, xs, rfl, sq, rs⟩ : ∃ p xs, v = V.ref p ∧ SqT K H p xs ∧ RDs K H _ xs := r
      exact .tup sq (PdA.dp rep ps _ _ hs rs)
  | .list ps, _, v, h, r => by
    cases h with
    | rol hs =>
      obtain ⟨p, xs, rfl, sq, rs⟩ : ∃ p xs, v = V.ref p ∧ SqR K H p xs ∧ RDs K H _ xs := r
      exact .lst sq.l (PdA.dp rep ps _ _ hs rs)
    | lst e hs =>
      cases r
      obtain ⟨xs, q, rs⟩ := rep _ _ e
      exact .lst (.of q) (PdA.dp rep ps _ _ hs rs)
  | .dict _, _, _, h, _ => by cases h
theorem PdA.dp (rep : Rep w K S H) : ∀ (ps : List PyData) (ds : List D) (vs : List V), PdA S ds ps → RDs K H ds vs → DpAll K H vs ps
  | [], _, _, h, r => by
    cases h
    cases r
    exact .nil
  | p :: ps, _, _, h, r => by
    cases h with
    | cons h1 h2 =>
      obtain ⟨v, vs, rfl, r1, r2⟩ := r
      exact .cons (Pd.dp rep p _ v h1 r1) (PdA.dp rep ps _ vs h2 r2)
end
end
/-! without addresses -/
mutual
def toP : D → PyData
  | .non => .none
  | .bl b => .bool b
  | .int i => .int i
  | .str x => .str x
  | .tup ds => .tuple (toPs ds)
  | .rol ds => .list (toPs ds)
  | .ref _ => .none
def toPs : List D → List PyData
  | [] => []
  | d :: ds => toP d :: toPs ds
end
mutual
def imm : D → Bool
  | .tup ds => imms ds
  | .rol ds => imms ds
  | .ref _ => false
  | _ => true
def imms : List D → Bool
  | [] => true
  | d :: ds => imm d && imms ds
end
mutual
theorem imm_pd (S : DH) : ∀ d : D, imm d = true → Pd S d (toP d)
  | .non, _ => .non
  | .bl b, _ => .bl b
  | .int i, _ => .int i
  | .str x, _ => .str x
  | .tup ds, h => .tup (imms_pd S ds h)
  | .rol ds, h => .rol (imms_pd S ds h)
theorem imms_pd (S : DH) : ∀ ds : List D, imms ds = true → PdA S ds (toPs ds)
  | [], _ => .nil
  | d :: ds, h => by
    have h' : (imm d && imms ds) = true := h
    rw [Bool.and_eq_true] at h'
    exact .cons (imm_pd S d h'.1) (imms_pd S ds h'.2)
end

/-! ### + - * // % ** -/
@[simp] def dAdd : R2D := fun d e S Q => match d, e with
  | .int i, .int j => Q (.int (i + j)) S
  | .str x, .str y => x.length + y.length ≤ sizeLine ∧ Q (.str (x ++ y)) S
  | .tup xs, .tup ys => xs.length + ys.length ≤ sizeLine ∧ Q (.tup (xs ++ ys)) S
  | d, e => catD S d e fun zs => newO S (.lst zs) fun p S' => Q (.ref p) S'
/-- the same, a list is written no more -/
@[simp] def dAddF : R2D := fun d e S Q => match d, e with
  | .int i, .int j => Q (.int (i + j)) S
  | .str x, .str y => x.length + y.length ≤ sizeLine ∧ Q (.str (x ++ y)) S
  | .tup xs, .tup ys => xs.length + ys.length ≤ sizeLine ∧ Q (.tup (xs ++ ys)) S
  | d, e => catD S d e fun zs => Q (.rol zs) S
theorem OpD.sub {X : Cx} {f : Value → Value → Sem Value} {r r' : R2D} (h : OpD X f r) (m : Mono2 r') (k : ∀ x y S Q, r' x y S Q → r x y S Q) : OpD X f r' :=
  ⟨m, opR_imp h.run fun x y H Q ⟨d, e, S, rep, rd, re, q⟩ => ⟨d, e, S, rep, rd, re, k _ _ _ _ q⟩⟩
section
variable {X : Cx}
theorem rep_new {w : World} {K : PySem.W.Frag} {S : DH} {H : Hp} {Q0 : DK} {Q : VK} {ds : List D} {xs : List V} {q : Addr} (rep : Rep w K S H) (hq : H q = none) (rs : RDs K H ds xs) (h : lQ w K H Q (.ref q) (upo S q (.lst ds))) : Q (.ref q) (upd H q (.lst xs)) :=
  h (.ref q) _ (LeH.new hq) (rep.new hq (o := .lst ds) ⟨xs, upd_same, rs.le (LeH.new hq)⟩) rfl
theorem rep_tup {w : World} {K : PySem.W.Frag} {S : DH} {H : Hp} {Q : VK} {ds : List D} {xs : List V} {q : Addr} (rep : Rep w K S H) (hq : H q = none) (rs : RDs K H ds xs) (h : lQ w K H Q (.tup ds) S) : Q (.ref q) (upd H q (.tup xs)) :=
  h (.ref q) _ (LeH.new hq) (rep.garb hq) ⟨q, xs, rfl, .of upd_same, rs.le (LeH.new hq)⟩
/-- lists, one behind the other -/
def rCatX (K : PySem.W.Frag) : R2 := fun x y H Q => ∃ l b xs zs, x = .ref l ∧ y = .ref b ∧ SqX K H l xs ∧ SqX K H b zs ∧ xs.length + zs.length ≤ sizeLine ∧ ∀ p, H p = none → Q (.ref p) (upd H p (.lst (xs ++ zs)))
theorem op_catX : OpR X (binaryOp .Add) (rCatX X.K) := by
  intro pins s σ H x y v u Q I rx ry h
  obtain ⟨l, b, xs, zs, rfl, rfl, hH, hB, hz, q⟩ := h
  cases rx
  cases ry
  obtain ⟨its, n, r, z, hl, e⟩ := sqX_get I hH
  obtain ⟨its2, n2, r2, z2, hl2, e2⟩ := sqX_get I hB
  refine PySem.P.add_list e e2 ?_ (by rw [List.size_toArray, List.size_toArray]; omega)
  have ea : its.toArray ++ its2.toArray = (its ++ its2).toArray := by simp
  rw [ea]
  exact ⟨.ref _, _, I.lnew (t' := s.toks) (r.append r2) (by rw [List.length_append]; omega), rfl, q _ I.fresh⟩
theorem catD_mono {S : DH} {d e : D} {k k' : List D → Prop} (h : ∀ z, k z → k' z) (q : catD S d e k) : catD S d e k' := opt_mono (fun _ q => opt_mono (fun _ q => ⟨q.1, h _ q.2⟩) q) q
theorem od_add : OpD X (binaryOp .Add) dAdd := by
  refine ⟨fun x y S Q Q' k h => ?_, fun pins s σ H x y v u Q I rx ry ⟨d, e, S, rep, rd, re, h⟩ => ?_⟩
  · unfold dAdd at h ⊢
    split at h
    · exact k _ _ h
    · exact ⟨h.1, k _ _ h.2⟩
    · exact ⟨h.1, k _ _ h.2⟩
    · exact catD_mono (fun z q p hp => k _ _ (q p hp)) h
  · unfold dAdd at h
    split at h
    · cases rd; cases re
      exact op_add pins s σ H _ _ v u Q I rx ry ⟨_, _, rfl, rfl, h _ H (LeH.refl H) rep rfl⟩
    · cases rd; cases re
      exact op_add_str pins s σ H _ _ v u Q I rx ry ⟨_, _, rfl, rfl, h.1, h.2 _ H (LeH.refl H) rep rfl⟩
    · rename_i ds es
      obtain ⟨p, xs, rfl, sq, rs⟩ : ∃ p xs, x = V.ref p ∧ SqT X.K H p xs ∧ RDs X.K H ds xs := rd
      obtain ⟨q, ys, rfl, sq2, rs2⟩ : ∃ p xs, y = V.ref p ∧ SqT X.K H p xs ∧ RDs X.K H es xs := re
      refine op_catA pins s σ H _ _ v u Q I rx ry ⟨p, q, xs, ys, rfl, rfl, sq, sq2, by rw [← rs.length, ← rs2.length]; exact h.1, fun e => ?_, fun _ e => ?_, fun _ _ p2 hp => rep_tup rep hp (rs.append rs2) h.2⟩
      · subst e
        have := rs.length
        have e2 : ds = [] := List.length_eq_zero_iff.mp (by simpa using this)
        subst e2
        exact h.2 _ H (LeH.refl H) rep ⟨q, ys, rfl, sq2, rs2⟩
      · subst e
        have := rs2.length
        have e2 : es = [] := List.length_eq_zero_iff.mp (by simpa using this)
        subst e2
        exact h.2 _ H (LeH.refl H) rep ⟨p, xs, rfl, sq, by rw [List.append_nil]; exact rs⟩
    · obtain ⟨xs, ea, h⟩ := opt_ex h
      obtain ⟨ys, eb, hz, h⟩ := opt_ex h
      obtain ⟨a, us, rfl, sa, r1⟩ := seqD_rd rep rd ea
      obtain ⟨b, ws, rfl, sb, r2⟩ := seqD_rd rep re eb
      exact op_catX pins s σ H _ _ v u Q I rx ry ⟨a, b, us, ws, rfl, rfl, sa, sb, by rw [← r1.length, ← r2.length]; exact hz, fun p hp => rep_new (Q0 := fun _ _ => True) rep hp (r1.append r2) (h p (rep.free hp))⟩
theorem od_addF : OpD X (binaryOp .Add) dAddF := (od_fz od_add).sub (fun x y S Q Q' k h => by
    unfold dAddF at h ⊢
    split at h
    · exact k _ _ h
    · exact ⟨h.1, k _ _ h.2⟩
    · exact ⟨h.1, k _ _ h.2⟩
    · exact catD_mono (fun z q => k _ _ q) h) fun x y S Q h => by
    unfold dAddF at h
    unfold rFz dAdd
    split at h
    · exact h
    · exact h
    · exact h
    · exact catD_mono (fun z q p hp => fzK_new hp q) h
/-- two ints -/
@[simp] def dII (C : Int → Int → Prop) (g : Int → Int → D) : R2D := fun d e S Q => match d, e with | .int i, .int j => C i j ∧ Q (g i j) S | _, _ => False
theorem dII_mono {C : Int → Int → Prop} {g : Int → Int → D} : Mono2 (dII C g) := fun x y S Q Q' k h => by
  cases x <;> cases y <;> first | exact h.elim | exact ⟨h.1, k _ _ h.2⟩
theorem od_II {f : Value → Value → Sem Value} {C : Int → Int → Prop} {g : Int → Int → D} {g' : Int → Int → V} (h : OpR X f (rI C g')) (hg : ∀ H i j, RD X.K H (g i j) (g' i j)) : OpD X f (dII C g) := by
  refine ⟨dII_mono, fun pins s σ H x y v u Q I rx ry ⟨d, e, S, rep, rd, re, q⟩ => ?_⟩
  cases d <;> cases e <;> first | exact q.elim | skip
  cases rd; cases re
  exact h pins s σ H _ _ v u Q I rx ry ⟨_, _, rfl, rfl, q.1, q.2 _ H (LeH.refl H) rep (hg _ _ _)⟩
theorem od_II0 {f : Value → Value → Sem Value} {g : Int → Int → D} {g' : Int → Int → V} (h : OpR X f (rI0 g')) (hg : ∀ H i j, RD X.K H (g i j) (g' i j)) : OpD X f (dII (fun _ _ => True) g) := by
  refine ⟨dII_mono, fun pins s σ H x y v u Q I rx ry ⟨d, e, S, rep, rd, re, q⟩ => ?_⟩
  cases d <;> cases e <;> first | exact q.elim | skip
  cases rd; cases re
  exact h pins s σ H _ _ v u Q I rx ry ⟨_, _, rfl, rfl, q.2 _ H (LeH.refl H) rep (hg _ _ _)⟩
theorem od_sub : OpD X (binaryOp .Sub) (dII (fun _ _ => True) fun i j => .int (i - j)) := od_II0 op_sub fun _ _ _ => rfl
theorem od_mod : OpD X (binaryOp .Mod) (dII (fun _ j => 0 < j) fun i j => .int (i % j)) := od_II op_mod fun _ _ _ => rfl
theorem od_fdiv : OpD X (binaryOp .FloorDiv) (dII CDivW fun i j => .int (i / j)) := od_II op_fdivW fun _ _ _ => rfl
theorem od_pow : OpD X (binaryOp .Pow) (dII CPow fun i j => .int (i ^ j.toNat)) := od_II op_pow fun _ _ _ => rfl
theorem od_lt : OpD X (compareOp .Lt) (dII (fun _ _ => True) fun i j => .bl (decide (i < j))) := od_II0 op_lt fun _ _ _ => rfl
theorem od_le : OpD X (compareOp .LtE) (dII (fun _ _ => True) fun i j => .bl (decide (i ≤ j))) := od_II0 op_le fun _ _ _ => rfl
theorem od_gt : OpD X (compareOp .Gt) (dII (fun _ _ => True) fun i j => .bl (decide (j < i))) := od_II0 op_gt fun _ _ _ => rfl
theorem od_ge : OpD X (compareOp .GtE) (dII (fun _ _ => True) fun i j => .bl (decide (j ≤ i))) := od_II0 op_ge fun _ _ _ => rfl

/-! ### == -/
def dEqG (neg : Bool) : R2D := fun d e S Q => ∃ p q, Pd S d p ∧ Pd S e q ∧ SeqAt.shaped p = true ∧ SeqAt.shaped q = true ∧ Q (.bl (if neg then !PyData.eqv p q else PyData.eqv p q)) S
def dEq (neg : Bool) : R2D := fun d e S Q => match d, e with
  | .int i, .int j => Q (.bl (if neg then !(i == j) else i == j)) S
  | .str i, .str j => Q (.bl (if neg then !(i == j) else i == j)) S
  | .bl i, .bl j => Q (.bl (if neg then !(i == j) else i == j)) S
  | .non, .str j => Q (.bl neg) S
  | .str j, .non => Q (.bl neg) S
  | .int _, .str j => Q (.bl neg) S
  | .str j, .int _ => Q (.bl neg) S
  | d, e => dEqG neg d e S Q
theorem dEq_mono (neg : Bool) : Mono2 (dEq neg) := fun x y S Q Q' k h => by
  unfold dEq at h ⊢
  split at h <;> first | exact k _ _ h | exact (fun ⟨p, q, h1, h2, h3, h4, h⟩ => ⟨p, q, h1, h2, h3, h4, k _ _ h⟩ : dEqG neg _ _ S Q → dEqG neg _ _ S Q') h
theorem od_eq (hu : X.A.units + 64 < cLine) : OpD X (compareOp .Eq) (dEq false) := by
  refine ⟨dEq_mono false, fun pins s σ H x y v u Q I rx ry ⟨d, e, S, rep, rd, re, h⟩ => ?_⟩
  unfold dEq at h
  split at h
  · cases rd; cases re
    exact op_eq pins s σ H _ _ v u Q I rx ry ⟨rfl, by rw [dec_int]; exact h _ H (LeH.refl H) rep rfl⟩
  · cases rd; cases re
    exact op_eq pins s σ H _ _ v u Q I rx ry ⟨rfl, by rw [dec_str]; exact h _ H (LeH.refl H) rep rfl⟩
  · cases rd; cases re
    exact op_eq pins s σ H _ _ v u Q I rx ry ⟨rfl, by rw [dec_bl]; exact h _ H (LeH.refl H) rep rfl⟩
  · cases rd; cases re
    exact op_eq pins s σ H _ _ v u Q I rx ry ⟨rfl, h _ H (LeH.refl H) rep rfl⟩
  · cases rd; cases re
    exact op_eq pins s σ H _ _ v u Q I rx ry ⟨rfl, h _ H (LeH.refl H) rep rfl⟩
  · cases rd; cases re
    exact op_eq pins s σ H _ _ v u Q I rx ry ⟨rfl, h _ H (LeH.refl H) rep rfl⟩
  · cases rd; cases re
    exact op_eq pins s σ H _ _ v u Q I rx ry ⟨rfl, h _ H (LeH.refl H) rep rfl⟩
  · obtain ⟨p, q, h1, h2, h3, h4, h⟩ := h
    exact op_eqD hu pins s σ H _ _ v u Q I rx ry ⟨p, q, h1.dp rep p _ x rd, h2.dp rep q _ y re, h3, h4, h _ H (LeH.refl H) rep rfl⟩
theorem od_ne (hu : X.A.units + 64 < cLine) : OpD X (compareOp .NotEq) (dEq true) := by
  refine ⟨dEq_mono true, fun pins s σ H x y v u Q I rx ry ⟨d, e, S, rep, rd, re, h⟩ => ?_⟩
  unfold dEq at h
  split at h
  · cases rd; cases re
    exact op_ne pins s σ H _ _ v u Q I rx ry ⟨rfl, by rw [dec_int]; exact h _ H (LeH.refl H) rep rfl⟩
  · cases rd; cases re
    exact op_ne pins s σ H _ _ v u Q I rx ry ⟨rfl, by rw [dec_str]; exact h _ H (LeH.refl H) rep rfl⟩
  · cases rd; cases re
    exact op_ne pins s σ H _ _ v u Q I rx ry ⟨rfl, by rw [dec_bl]; exact h _ H (LeH.refl H) rep rfl⟩
  · cases rd; cases re
    exact op_ne pins s σ H _ _ v u Q I rx ry ⟨rfl, h _ H (LeH.refl H) rep rfl⟩
  · cases rd; cases re
    exact op_ne pins s σ H _ _ v u Q I rx ry ⟨rfl, h _ H (LeH.refl H) rep rfl⟩
  · cases rd; cases re
    exact op_ne pins s σ H _ _ v u Q I rx ry ⟨rfl, h _ H (LeH.refl H) rep rfl⟩
  · cases rd; cases re
    exact op_ne pins s σ H _ _ v u Q I rx ry ⟨rfl, h _ H (LeH.refl H) rep rfl⟩
  · obtain ⟨p, q, h1, h2, h3, h4, h⟩ := h
    exact op_neD hu pins s σ H _ _ v u Q I rx ry ⟨p, q, h1.dp rep p _ x rd, h2.dp rep q _ y re, h3, h4, h _ H (LeH.refl H) rep rfl⟩
/-- is None, is not None -/
@[simp] def isNon : D → Bool
  | .non => true
  | _ => false
@[simp] def dIsN (neg : Bool) : R2D := fun d e S Q => match e with | .non => Q (.bl (if neg then !isNon d else isNon d)) S | _ => False
theorem rd_non {K : PySem.W.Frag} {H : Hp} {d : D} {v : V} (r : RD K H d v) : decide (v = .non) = isNon d := by
  cases d with
  | non => cases r; rfl
  | tup ds => obtain ⟨p, xs, rfl, _⟩ : ∃ p xs, v = V.ref p ∧ SqT K H p xs ∧ RDs K H ds xs := r; rfl
  | rol ds => obtain ⟨p, xs, rfl, _⟩ : ∃ p xs, v = V.ref p ∧ SqR K H p xs ∧ RDs K H ds xs := r; rfl
  | _ => cases r; rfl
theorem od_is : OpD X (compareOp .Is) (dIsN false) := by
  refine ⟨fun x y S Q Q' k h => ?_, fun pins s σ H x y v u Q I rx ry ⟨d, e, S, rep, rd, re, h⟩ => ?_⟩
  · cases y <;> first | exact h.elim | exact k _ _ h
  · cases e <;> first | exact h.elim | skip
    cases re
    exact op_isN pins s σ H _ _ v u Q I rx ry ⟨rfl, by rw [rd_non rd]; exact h _ H (LeH.refl H) rep rfl⟩
/-- in, not in: signs in a text; data in a list or tuple of data -/
def inP (p : PyData) (ps : List PyData) : Bool := ps.any fun z => PyData.eqv z p
@[simp] def dInS (neg : Bool) : R2D := fun d e S Q => match d, e with | .str x, .str y => Q (.bl (if neg then !(!(Builtin.Str.occurrences y x 0 y.length 1).isEmpty) else !(Builtin.Str.occurrences y x 0 y.length 1).isEmpty)) S | _, _ => False
theorem od_inS : OpD X (compareOp .In) (dInS false) := by
  refine ⟨fun x y S Q Q' k h => ?_, fun pins s σ H x y v u Q I rx ry ⟨d, e, S, rep, rd, re, h⟩ => ?_⟩
  · cases x <;> cases y <;> first | exact h.elim | exact k _ _ h
  · cases d <;> cases e <;> first | exact h.elim | skip
    cases rd; cases re
    exact op_in_str pins s σ H _ _ v u Q I rx ry ⟨_, _, rfl, rfl, h _ H (LeH.refl H) rep rfl⟩
theorem od_ninS : OpD X (compareOp .NotIn) (dInS true) := by
  refine ⟨fun x y S Q Q' k h => ?_, fun pins s σ H x y v u Q I rx ry ⟨d, e, S, rep, rd, re, h⟩ => ?_⟩
  · cases x <;> cases y <;> first | exact h.elim | exact k _ _ h
  · cases d <;> cases e <;> first | exact h.elim | skip
    cases rd; cases re
    exact op_notin_str pins s σ H _ _ v u Q I rx ry ⟨_, _, rfl, rfl, h _ H (LeH.refl H) rep rfl⟩
def dInL (neg : Bool) : R2D := fun d e S Q => ∃ p ps, Pd S d p ∧ Pd S e (.list ps) ∧ SeqAt.shaped p = true ∧ SeqAt.shaped (.list ps) = true ∧ Q (.bl (if neg then !inP p ps else inP p ps)) S
theorem od_inL (hu : X.A.units + 65 < cLine) : OpD X (compareOp .In) (dInL false) := by
  refine ⟨fun x y S Q Q' k ⟨p, q, h1, h2, h3, h4, h⟩ => ⟨p, q, h1, h2, h3, h4, k _ _ h⟩, fun pins s σ H x y v u Q I rx ry ⟨d, e, S, rep, rd, re, p, q, h1, h2, h3, h4, h⟩ => ?_⟩
  exact op_inD hu pins s σ H _ _ v u Q I rx ry ⟨p, q, h1.dp rep p d x rd, h2.dp rep _ e y re, h3, h4, h _ H (LeH.refl H) rep rfl⟩
theorem od_ninL (hu : X.A.units + 65 < cLine) : OpD X (compareOp .NotIn) (dInL true) := by
  refine ⟨fun x y S Q Q' k ⟨p, q, h1, h2, h3, h4, h⟩ => ⟨p, q, h1, h2, h3, h4, k _ _ h⟩, fun pins s σ H x y v u Q I rx ry ⟨d, e, S, rep, rd, re, p, q, h1, h2, h3, h4, h⟩ => ?_⟩
  exact op_notInD hu pins s σ H _ _ v u Q I rx ry ⟨p, q, h1.dp rep p d x rd, h2.dp rep _ e y re, h3, h4, h _ H (LeH.refl H) rep rfl⟩

/-! ### calls of built-ins -/
abbrev RCD := List D → DH → DK → Prop
def MonoC (r : RCD) : Prop := ∀ ds S (Q Q' : DK), (∀ d S', Q d S' → Q' d S') → r ds S Q → r ds S Q'
def upC (w : World) (K : PySem.W.Frag) (r : RCD) : List V → Hp → VK → Prop := fun vs H Q => ∃ ds S, Rep w K S H ∧ RDs K H ds vs ∧ r ds S (lQ w K H Q)
structure CallD (X : Cx) (f : Value) (r : RCD) : Prop where
  mono : MonoC r
  run : CallR X f (upC X.w X.K r)
@[simp] def dCB (r : RCD) (t : DTA) : DTE := fun E τ S Q => t E τ S fun ds S1 => r ds S1 Q
variable {x : Str} {p pos : Pos} {e : Expr} {es : List Expr} {t : DTA} {id T : String} {r : RCD}
theorem dCB_up (hr : MonoC r) (ha : DA X es t) {σ : L2.St} {H : Hp} {Q : VK} (h : upE X (dCB r t) σ H Q) : tCB (upC X.w X.K r) (upA X t) σ H Q := by
  obtain ⟨E, τ, S, w, rl, q⟩ := h
  exact ha.to w rl q fun ds S1 vs H1 le w1 r1 rd h => ⟨ds, S1, r1.rep, rd, hr _ _ _ _ (fun d S' z v H' le2 rp rv => z v H' (le.trans le2) rp rv) h⟩
theorem de_callB (hc : CallD X (.builtin id) r) (hg : Gl X x) (hm : X.mg x = none) (hv : bootBuiltins x = some (.builtin id)) (ha : DA X (e :: es) t) (hn : x ≠ "__name__" := by decide) (hdb : (x == ("__debug__" : Str)) = false := by decide)
    (he : starEach (e :: es) X.env = (false, eval e X.env) :: starEach es X.env := by rfl) (hpl : (backTo pos (starEach es X.env)).any (·.1) = false := by rfl) : DE X (.Call (.Name x p) (e :: es) [] pos) (dCB r t) :=
  ⟨fun _ _ _ _ _ _ hE k q => ha.mono _ _ _ _ _ _ hE (fun _ _ z => hc.mono _ _ _ _ k z) q, pE_imp (pe_callB hc.run hg hm hv ha.run hn hdb he hpl) fun _ _ _ h => dCB_up hc.mono ha h⟩
theorem de_callTy (hc : CallD X (.type T) r) (hg : Gl X x) (hm : X.mg x = none) (hv : bootBuiltins x = some (.type T)) (ha : DA X (e :: es) t) (hn : x ≠ "__name__" := by decide) (hdb : (x == ("__debug__" : Str)) = false := by decide)
    (he : starEach (e :: es) X.env = (false, eval e X.env) :: starEach es X.env := by rfl) (hpl : (backTo pos (starEach es X.env)).any (·.1) = false := by rfl) : DE X (.Call (.Name x p) (e :: es) [] pos) (dCB r t) :=
  ⟨fun _ _ _ _ _ _ hE k q => ha.mono _ _ _ _ _ _ hE (fun _ _ z => hc.mono _ _ _ _ k z) q, pE_imp (pe_callTy hc.run hg hm hv ha.run hn hdb he hpl) fun _ _ _ h => dCB_up hc.mono ha h⟩
theorem rds1 {K : PySem.W.Frag} {H : Hp} {d : D} {vs : List V} (r : RDs K H [d] vs) : ∃ v, vs = [v] ∧ RD K H d v := by
  obtain ⟨v, _, rfl, h, rfl⟩ := r
  exact ⟨v, rfl, h⟩
/-- repr -/
def cRepr : RCD := fun ds S Q => match ds with | [d] => ∃ p, Pd S d p ∧ p.showable = true ∧ p.depth ≤ 100 ∧ p.shown.length ≤ sizeLine ∧ Q (.str p.shown) S | _ => False
end
end Dt
set_option maxRecDepth 100000
set_option maxHeartbeats 4000000
/-! Dat5: subscripts, slices, dicts, built-ins, methods, what is walked. -/
namespace Dt
open PySem PySem.Spec L2

/-! ### keys -/
@[simp] def dkey : D → Option Key
  | .int i => some (.inl i)
  | .str x => some (.inr x)
  | _ => none
def dkeys : List D → Option (List Key)
  | [] => some []
  | d :: ds => match dkey d, dkeys ds with | some k, some ks => some (k :: ks) | _, _ => none
def tkey : D → Option (List Key)
  | .tup ds => dkeys ds
  | _ => none
section
variable {w : World} {K : PySem.W.Frag} {S : DH} {H : Hp}
theorem dkey_rd {d : D} {k : Key} {v : V} (e : dkey d = some k) (r : RD K H d v) : v = kV k := by
  cases d <;> cases e <;> exact r
/-- a key tuple of the heap: not one of the written part -/
def TrkT (K : PySem.W.Frag) (H : Hp) (d : D) (v : V) : Prop := ∃ p ks, v = .ref p ∧ tkey d = some ks ∧ H p = some (.tup (ks.map kV))
end
/-- the tuple that a value stands for is tracked itself -/
theorem sqT_split {K : PySem.W.Frag} {H : Hp} {p : Addr} {xs : List V} (h : SqT K H p xs) : H p = some (.tup xs) ∨ (∃ o, H p = some (.frz o (.tup xs))) ∨ ∃ (o : Obj) (its : Array Value) (n : Nat), K.lookup p = some o ∧ o.cls = .type "tuple" ∧ o.data = .seq its n ∧ its.size ≤ sizeLine ∧ Vals xs its.toList := by
  rcases h with (h | h) | h
  · exact .inl h
  · exact .inr (.inl h)
  · exact .inr (.inr h)

/-! ### o[i] -/
@[simp] def dIxS : R2D := fun d e S Q => match d, e with
  | .tup ds, .int i => opt (atI ds i) fun x => Q x S
  | .rol ds, .int i => opt (atI ds i) fun x => Q x S
  | .str z, .int i => z.length ≤ sizeLine ∧ opt (atI z.cps.toList i) fun c => Q (.str ⟨#[c]⟩) S
  | .ref a, e => (match S a with
    | some (.lst ds) => (match e with | .int i => opt (atI ds i) fun x => Q x S | _ => False)
    | some (.dK kvs) => opt (dkey e) fun k => opt (lk kvs k) fun x => Q x S
    | some (.dN kvs) => okT e = true ∧ opt (lk kvs e) fun x => Q x S
    | _ => False)
  | _, _ => False
def IxD (X : Cx) (r : R2D) : Prop := Mono2 r ∧ IxR X (upO X.w X.K r)
theorem atI_of {K : PySem.W.Frag} {H : Hp} {ds : List D} {xs : List V} {i : Int} {d : D} (r : RDs K H ds xs) (e : atI ds i = some d) : ∃ v, atI xs i = some v ∧ RD K H d v := by
  unfold atI at e ⊢
  rw [← r.length]
  cases q : ixN ds.length i with
  | none => rw [q] at e; cases e
  | some j =>
    rw [q] at e
    exact r.get e
section
variable {X : Cx} {a b : Expr} {ta tb : DTE} {pos : Pos}
theorem ixD_any (hu : X.A.units + 120 < cLine) : IxD X dIxS := by
  refine ⟨fun x y S Q Q' k h => ?_, fun value slice pins s σ H x y v u Q I rx ry ⟨d, e, S, rep, rd, re, h⟩ hs => ?_⟩
  · cases x with
    | tup ds => cases y <;> first | exact h.elim | exact opt_mono (fun _ z => k _ _ z) h
    | rol ds => cases y <;> first | exact h.elim | exact opt_mono (fun _ z => k _ _ z) h
    | str z => cases y <;> first | exact h.elim | exact ⟨h.1, opt_mono (fun _ z => k _ _ z) h.2⟩
    | ref a =>
      revert h
      show (match S a with | some (.lst ds) => _ | some (.dK kvs) => _ | some (.dN kvs) => _ | _ => False) → (match S a with | some (.lst ds) => _ | some (.dK kvs) => _ | some (.dN kvs) => _ | _ => False)
      split
      · intro h
        cases y <;> first | exact h.elim | exact opt_mono (fun _ z => k _ _ z) h
      · exact fun h => opt_mono (fun _ z => opt_mono (fun _ z => k _ _ z) z) h
      · exact fun h => ⟨h.1, opt_mono (fun _ z => k _ _ z) h.2⟩
      · exact fun h => h
    | _ => exact h.elim
  · cases d with
    | tup ds =>
      cases e <;> first | exact h.elim | skip
      rename_i i
      cases re
      obtain ⟨p, xs, rfl, sq, rs⟩ : ∃ p xs, x = V.ref p ∧ SqT X.K H p xs ∧ RDs X.K H ds xs := rd
      obtain ⟨z, e1, q⟩ := opt_ex h
      obtain ⟨w, e2, rw2⟩ := atI_of rs e1
      exact ix_tup value slice pins s σ H _ _ v u Q I rx ry ⟨p, xs, i, w, rfl, rfl, sq, e2, q w H (LeH.refl H) rep rw2⟩ hs
    | rol ds =>
      cases e <;> first | exact h.elim | skip
      rename_i i
      cases re
      obtain ⟨p, xs, rfl, sq, rs⟩ : ∃ p xs, x = V.ref p ∧ SqR X.K H p xs ∧ RDs X.K H ds xs := rd
      obtain ⟨z, e1, q⟩ := opt_ex h
      obtain ⟨w, e2, rw2⟩ := atI_of rs e1
      exact ix_list value slice pins s σ H _ _ v u Q I rx ry ⟨p, xs, i, w, rfl, rfl, sq.l, e2, q w H (LeH.refl H) rep rw2⟩ hs
    | str z =>
      cases e <;> first | exact h.elim | skip
      rename_i i
      cases re
      cases rd
      obtain ⟨c, e1, q⟩ := opt_ex h.2
      exact ix_str value slice pins s σ H _ _ v u Q I rx ry ⟨z, i, c, rfl, rfl, h.1, e1, q _ H (LeH.refl H) rep rfl⟩ hs
    | ref a =>
      cases rd
      revert h
      show (match S a with | some (.lst ds) => _ | some (.dK kvs) => _ | some (.dN kvs) => _ | _ => False) → _
      split
      · rename_i ds ea
        intro h
        cases e <;> first | exact h.elim | skip
        rename_i i
        cases re
        obtain ⟨xs, e0, rs⟩ : ∃ xs, H a = some (.lst xs) ∧ RDs X.K H ds xs := rep a _ ea
        obtain ⟨z, e1, q⟩ := opt_ex h
        obtain ⟨w, e2, rw2⟩ := atI_of rs e1
        exact ix_list value slice pins s σ H _ _ v u Q I rx ry ⟨a, xs, i, w, rfl, rfl, .of e0, e2, q w H (LeH.refl H) rep rw2⟩ hs
      · rename_i kvs ea
        intro h
        obtain ⟨ws, e0, rk⟩ : ∃ ws, H a = some (.dK ws) ∧ RKs X.K H kvs ws := rep a _ ea
        obtain ⟨k, ek, h⟩ := opt_ex h
        obtain ⟨z, el, q⟩ := opt_ex h
        obtain ⟨w, ew, rw2⟩ := rk.ss el
        have ey := dkey_rd ek re
        subst ey
        cases rx
        have g : DGet H a (kV k) (some w) := ew ▸ DGet.k e0
        exact PyProof.Rows.tail_any (dict_typeIs I g) PySem.F.slot_dict_getitem.lookup (d_getItem (by omega) I g ry fun w' s3 I3 r3 => ⟨w, H, I3, r3, q w H (LeH.refl H) rep rw2⟩) hs
      · rename_i kvs ea
        rintro ⟨hk, h⟩
        obtain ⟨z, el, q⟩ := opt_ex h
        obtain ⟨xs, dd, rx', hsys, hl, nd, mu⟩ := dn_open I (rep a _ ea)
        obtain ⟨nk, b, ek, _, rfl, rfl, his⟩ := okT_key I hk re ry
        obtain ⟨p, hp, w, rw1, rw2⟩ := rx'.ss ek el
        cases rx
        exact PyProof.Rows.tail_any dd.typeIs PySem.F.slot_dict_getitem.lookup (wpAny_getItem_heap (show X.A.units + 1 + 8 < cLine by omega) his dd hp ⟨w, H, I.tok _, rw1, q w H (LeH.refl H) rep rw2⟩) hs
      · exact fun h => h.elim
    | _ => exact h.elim
theorem de_ix {r : R2D} (hr : IxD X r) (ha : DE X a ta) (hb : DE X b tb) (hs : PlainIx b := by exact fun _ _ => rfl) : DE X (.Subscript a b pos) (dOp r ta tb) :=
  ⟨fun _ _ _ _ _ _ he k q => dOp_mono ha hb hr.1 he k q, pE_imp (pe_ix hr.2 ha.run hb.run hs) fun _ _ _ h => dOp_up ha hb hr.1 h⟩
end

/-! ### o[i:j] -/
abbrev DTO := DW → DSt → DH → (Option Int → DH → Prop) → Prop
def upP (X : Cx) (t : DTO) : TO := fun σ H Q => ∃ E τ S, Wish X E H ∧ Rel X.w X.K τ S σ H ∧ t E τ S fun o S' => ∀ H', LeH H H' → Rep X.w X.K S' H' → Q o H'
structure DO (X : Cx) (e : Option Expr) (t : DTO) : Prop where
  mono : ∀ (E E' : DW) τ S (Q Q' : Option Int → DH → Prop), (∀ C fs τ S, E C fs τ S → E' C fs τ S) → (∀ d S', Q d S' → Q' d S') → t E τ S Q → t E' τ S Q'
  run : PO X e (upP X t)
@[simp] def dNoP : DTO := fun _ _ S Q => Q none S
@[simp] def dSoP (te : DTE) : DTO := fun E τ S Q => te E τ S fun d S' => match d with | .int i => Q (some i) S' | _ => False
section
variable {X : Cx} {e o : Expr} {lo hi : Option Expr} {te to : DTE} {tl th : DTO} {pos p2 : Pos}
theorem pP_imp {e : Option Expr} {t t' : TO} (h : PO X e t) (k : ∀ σ H Q, t' σ H Q → t σ H Q) : PO X e t' := ⟨fun pins s σ H Q I q => h.run pins s σ H Q I (k σ H Q q)⟩
theorem do_none : DO X none dNoP := ⟨fun _ _ _ _ _ _ _ k q => k _ _ q, pP_imp po_none fun σ H Q ⟨E, τ, S, w, r, q⟩ => q H (LeH.refl H) r.rep⟩
theorem do_some (h : DE X e te) : DO X (some e) (dSoP te) := by
  refine ⟨fun E E' τ S Q Q' he k q => h.mono _ _ _ _ _ _ he (fun d S' z => ?_) q, pP_imp (po_some h.run) fun σ H Q ⟨E, τ, S, w, r, q⟩ => ?_⟩
  · cases d <;> first | exact z.elim | exact k _ _ z
  · refine h.to w r q fun d S' v H' le w' r' rd z => ?_
    cases d <;> first | exact z.elim | skip
    exact ⟨_, rd, z H' le r'.rep⟩
theorem DO.lead {t : DTO} (h : DO X lo t) {E : DW} {τ : DSt} {S : DH} {σ : L2.St} {H : Hp} {Q0 : Option Int → DH → Prop} {Q : Option Int → Hp → Prop} (w : Wish X E H) (r : Rel X.w X.K τ S σ H) (q : t E τ S Q0)
    (k : ∀ b S' H', LeH H H' → Wish X E H' → Rel X.w X.K τ S' σ H' → Q0 b S' → Q b H') : upP X t σ H Q :=
  ⟨E, τ, S, w, r, h.mono _ _ _ _ _ _ (fun _ _ _ _ z => z) (fun d S' z H' le rp => k d S' H' le (w.le le) (r.le le rp) z) q⟩
def cutD (ds : List D) (lo hi : Option Int) : List D := (ds.drop (HT.sIx ds.length 0 lo)).take (HT.sIx ds.length ds.length hi - HT.sIx ds.length 0 lo)
theorem cut_rd {K : PySem.W.Frag} {H : Hp} {ds : List D} {xs : List V} (r : RDs K H ds xs) (lo hi : Option Int) : RDs K H (cutD ds lo hi) (cutV xs lo hi) := by
  unfold cutD cutV
  rw [r.length]
  exact (r.drop _).take _
@[simp] def dSl (to : DTE) (tl th : DTO) : DTE := fun E τ S Q => to E τ S fun d S1 => tl E τ S1 fun l S2 => th E τ S2 fun h S3 => match d with
  | .str z => z.length ≤ sizeLine ∧ Q (.str (cutS z l h)) S3
  | .tup ds => Q (.tup (cutD ds l h)) S3
  | .ref a => (match S3 a with | some (.lst ds) => newO S3 (.lst (cutD ds l h)) fun p S' => Q (.ref p) S' | _ => False)
  | .rol ds => newO S3 (.lst (cutD ds l h)) fun p S' => Q (.ref p) S'
  | _ => False
theorem de_sl (ho : DE X o to) (hl : DO X lo tl) (hh : DO X hi th) : DE X (.Subscript o (.Slice lo hi none p2) pos) (dSl to tl th) := by
  refine ⟨fun E E' τ S Q Q' he k q => ho.mono _ _ _ _ _ _ he (fun d S1 z => hl.mono _ _ _ _ _ _ he (fun l S2 z => hh.mono _ _ _ _ _ _ he (fun h S3 z => ?_) z) z) q,
    pE_imp (pe_slice (sl_list.or (sl_tupA.or sl_str)) ho.run hl.run hh.run) fun σ H Q ⟨E, τ, S, w, r, q⟩ => ?_⟩
  · cases d with
    | str x => exact ⟨z.1, k _ _ z.2⟩
    | tup ds => exact k _ _ z
    | rol ds => exact fun p hp => k _ _ (z p hp)
    | ref a =>
      revert z
      show (match S3 a with | some (.lst ds) => _ | _ => False) → (match S3 a with | some (.lst ds) => _ | _ => False)
      split
      · exact fun z p hp => k _ _ (z p hp)
      · exact fun z => z
    | _ => exact z
  · refine ho.to w r q fun d S1 x H1 le1 w1 r1 rd z => hl.lead w1 r1 z fun l S2 H2 le2 w2 r2 z => hh.lead w2 r2 z fun h S3 H3 le3 w3 r3 z => ?_
    have rd3 := rd.le (le2.trans le3)
    have le := le1.trans (le2.trans le3)
    cases d with
    | str x =>
      cases rd
      exact .inr (.inr ⟨_, rfl, z.1, z.2 _ H3 le r3.rep rfl⟩)
    | tup ds =>
      obtain ⟨p, xs, rfl, sq, rs⟩ : ∃ p xs, x = V.ref p ∧ SqT X.K H3 p xs ∧ RDs X.K H3 ds xs := rd3
      refine .inr (.inl ⟨p, xs, rfl, sq, fun ⟨h1, h2⟩ => z _ H3 le r3.rep ⟨p, xs, rfl, sq, ?_⟩, fun _ q hq => ?_⟩)
      · have : cutD ds l h = ds := by
          unfold cutD
          rw [rs.length, h1, h2, List.drop_zero, Nat.sub_zero, ← rs.length, List.take_length]
        rw [this]
        exact rs
      · exact z _ _ (le.trans (LeH.new hq)) (r3.rep.garb hq) ⟨q, _, rfl, .of upd_same, (cut_rd rs l h).le (LeH.new hq)⟩
    | rol ds =>
      obtain ⟨p, xs, rfl, sq, rs⟩ : ∃ p xs, x = V.ref p ∧ SqR X.K H3 p xs ∧ RDs X.K H3 ds xs := rd3
      refine .inl ⟨p, xs, rfl, sq.l, fun q hq => ?_⟩
      exact z q (r3.rep.free hq) _ _ (le.trans (LeH.new hq)) (r3.rep.new hq (o := .lst (cutD ds l h)) ⟨_, upd_same, (cut_rd rs l h).le (LeH.new hq)⟩) rfl
    | ref a =>
      cases rd
      revert z
      show (match S3 a with | some (.lst ds) => _ | _ => False) → _
      split
      · rename_i ds ea
        intro z
        obtain ⟨xs, e0, rs⟩ : ∃ xs, H3 a = some (.lst xs) ∧ RDs X.K H3 ds xs := r3.rep a _ ea
        refine .inl ⟨a, xs, rfl, .of e0, fun q hq => ?_⟩
        exact z q (r3.rep.free hq) _ _ (le.trans (LeH.new hq)) (r3.rep.new hq (o := .lst (cutD ds l h)) ⟨_, upd_same, (cut_rd rs l h).le (LeH.new hq)⟩) rfl
      · exact fun z => z.elim
    | _ => exact z.elim
@[simp] def dSlF (to : DTE) (tl th : DTO) : DTE := fun E τ S Q => to E τ S fun d S1 => tl E τ S1 fun l S2 => th E τ S2 fun h S3 => match d with
  | .str z => z.length ≤ sizeLine ∧ Q (.str (cutS z l h)) S3
  | .tup ds => Q (.tup (cutD ds l h)) S3
  | d => opt (seqD S3 d) fun ds => Q (.rol (cutD ds l h)) S3
theorem de_slF (ho : DE X o to) (hl : DO X lo tl) (hh : DO X hi th) : DE X (.Subscript o (.Slice lo hi none p2) pos) (dSlF to tl th) :=
  (de_fz (de_sl ho hl hh)).sub (fun E E' τ S Q Q' he k q => ho.mono _ _ _ _ _ _ he (fun d S1 z => hl.mono _ _ _ _ _ _ he (fun l S2 z => hh.mono _ _ _ _ _ _ he (fun h S3 z => by
      cases d with
      | str x => exact ⟨z.1, k _ _ z.2⟩
      | tup ds => exact k _ _ z
      | _ => exact opt_mono (fun _ q => k _ _ q) z) z) z) q)
    fun E τ S Q q => ho.mono _ _ _ _ _ _ (fun _ _ _ _ z => z) (fun d S1 z => hl.mono _ _ _ _ _ _ (fun _ _ _ _ z => z) (fun l S2 z => hh.mono _ _ _ _ _ _ (fun _ _ _ _ z => z) (fun h S3 z => by
      cases d with
      | str x => exact ⟨z.1, z.2⟩
      | tup ds => exact z
      | rol ds => exact fun p hp => fzK_new hp z
      | ref a =>
        obtain ⟨ds, e, z⟩ := opt_ex z
        simp only [seqD_ref] at e
        split at e
        · rename_i xs ea
          cases e
          simp only [ea]
          exact fun p hp => fzK_new hp z
        · cases e
      | _ => cases z) z) z) q
end

/-! ### displays -/
section
variable {X : Cx} {es : List Expr} {t : DTA} {pos : Pos}
@[simp] def dTup (t : DTA) : DTE := fun E τ S Q => t E τ S fun ds S1 => ds.length ≤ sizeLine ∧ Q (.tup ds) S1
@[simp] def dLst (t : DTA) : DTE := fun E τ S Q => t E τ S fun ds S1 => ds.length ≤ sizeLine ∧ newO S1 (.lst ds) fun p S' => Q (.ref p) S'
theorem de_tup {x1} (h : DA X es t) : DE X (.Tuple es x1 pos) (dTup t) := by
  refine ⟨fun E E' τ S Q Q' he k q => h.mono _ _ _ _ _ _ he (fun ds S1 z => ⟨z.1, k _ _ z.2⟩) q, pE_imp (pe_tup h.run) fun σ H Q ⟨E, τ, S, w, r, q⟩ => ?_⟩
  refine h.to w r q fun ds S1 vs H1 le w1 r1 rd z => ⟨by rw [← rd.length]; exact z.1, fun p hp => ?_⟩
  exact z.2 _ _ (le.trans (LeH.new hp)) (r1.rep.garb hp) ⟨p, vs, rfl, .of upd_same, rd.le (LeH.new hp)⟩
theorem de_lst (h : DA X es t) : DE X (.List es pos) (dLst t) := by
  refine ⟨fun E E' τ S Q Q' he k q => h.mono _ _ _ _ _ _ he (fun ds S1 z => ⟨z.1, fun p hp => k _ _ (z.2 p hp)⟩) q, pE_imp (pe_lst h.run) fun σ H Q ⟨E, τ, S, w, r, q⟩ => ?_⟩
  refine h.to w r q fun ds S1 vs H1 le w1 r1 rd z => ⟨by rw [← rd.length]; exact z.1, fun p hp => ?_⟩
  exact z.2 p (r1.rep.free hp) _ _ (le.trans (LeH.new hp)) (r1.rep.new hp (o := .lst ds) ⟨vs, upd_same, rd.le (LeH.new hp)⟩) rfl
@[simp] def dLstF (t : DTA) : DTE := fun E τ S Q => t E τ S fun ds S1 => ds.length ≤ sizeLine ∧ Q (.rol ds) S1
theorem de_lstF (h : DA X es t) : DE X (.List es pos) (dLstF t) := (de_fz (de_lst h)).sub (fun E E' τ S Q Q' he k q => h.mono _ _ _ _ _ _ he (fun ds S1 z => ⟨z.1, k _ _ z.2⟩) q) fun E τ S Q q => h.mono _ _ _ _ _ _ (fun _ _ _ _ z => z) (fun ds S1 z => ⟨z.1, fun p hp => fzK_new hp z.2⟩) q
/-- {} with int and text keys; with keys that are tuples of such -/
@[simp] def dDnK : DTE := fun _ _ S Q => newO S (.dK []) fun p S' => Q (.ref p) S'
/-- {k: v, ..}, the keys written texts -/
@[simp] def dPairs : List (Str × DTE) → DW → DSt → DH → (List (Key × D) → DH → Prop) → Prop
  | [], _, _, S, Q => Q [] S
  | (k, tv) :: r, E, τ, S, Q => tv E τ S fun d S1 => dPairs r E τ S1 fun kvs S2 => Q ((Sum.inr k, d) :: kvs) S2
def mergeD (kvs more : List (Key × D)) : List (Key × D) := more.foldl (fun acc kv => pt acc kv.1 kv.2) kvs
@[simp] def dDisp (prs : List (Str × DTE)) : DTE := fun E τ S Q => newO S (.dK []) fun p S1 => dPairs prs E τ S1 fun kvs S2 => S2 p = some (.dK []) ∧ Q (.ref p) (upo S2 p (.dK (mergeD [] kvs)))
inductive DPs (X : Cx) (pos : Pos) : List (Option Expr) → List Expr → List (Str × DTE) → Prop where
  | nil : DPs X pos [] [] []
  | cons {k : Str} {j : Nat} {kp : Pos} {v : Expr} {ks : List (Option Expr)} {vs : List Expr} {tv : DTE} {prs : List (Str × DTE)} : DE X v tv → DPs X pos ks vs prs → DPs X pos (some (.Constant (.str k) j kp) :: ks) (v :: vs) ((k, tv) :: prs)
def trsOf (X : Cx) (prs : List (Str × DTE)) : List (TE × TE) := prs.map fun q => (tC (.str q.1), upE X q.2)
theorem DPs.mono {ks : List (Option Expr)} {vs : List Expr} {prs : List (Str × DTE)} (h : DPs X pos ks vs prs) : ∀ (E E' : DW) τ S (Q Q' : List (Key × D) → DH → Prop), (∀ C fs τ S, E C fs τ S → E' C fs τ S) → (∀ d S', Q d S' → Q' d S') → dPairs prs E τ S Q → dPairs prs E' τ S Q' := by
  induction h with
  | nil => exact fun _ _ _ _ _ _ _ k q => k _ _ q
  | cons hv _ ih => exact fun _ _ _ _ _ _ he k q => hv.mono _ _ _ _ _ _ he (fun d S1 z => ih _ _ _ _ _ _ he (fun _ _ z => k _ _ z) z) q
theorem DPs.to {ks : List (Option Expr)} {vs : List Expr} {prs : List (Str × DTE)} (h : DPs X pos ks vs prs) : ∀ {E : DW} {τ : DSt} {S : DH} {σ : L2.St} {H : Hp} {Q0 : List (Key × D) → DH → Prop} {Q : List (V × V) → Hp → Prop}, Wish X E H → Rel X.w X.K τ S σ H → dPairs prs E τ S Q0 →
    (∀ kvs S' (ws : List (Key × V)) H', LeH H H' → Wish X E H' → Rel X.w X.K τ S' σ H' → RKs X.K H' kvs ws → kvs.length = prs.length → Q0 kvs S' → Q (ws.map fun kv => (kV kv.1, kv.2)) H') → tPairs (trsOf X prs) σ H Q := by
  induction h with
  | nil => exact fun w r q k => k [] _ [] _ (LeH.refl _) w r rfl rfl q
  | @cons kk j kp v ks vs tv prs hv _ ih =>
    intro E τ S σ H Q0 Q w r q k
    refine hv.to w r q fun d S1 x H1 le1 w1 r1 rd z => ih w1 r1 z fun kvs S2 ws H2 le2 w2 r2 rk hl z => ?_
    exact k ((Sum.inr kk, d) :: kvs) S2 ((Sum.inr kk, x) :: ws) H2 (le1.trans le2) w2 r2 ⟨x, ws, rfl, rd.le le2, rk⟩ (by simp [hl]) z
end

/-! ### o[i] = e -/
section
variable {X : Cx} {o i value : Expr} {to ti tv : DTE} {pos pos' : Pos}
/-- what the place's object becomes -/
@[simp] def putO (ob : Ob) (k v : D) : Option Ob := match ob, k with
  | .lst ds, .int i => (ixN ds.length i).map fun j => .lst (ds.set j v)
  | .dK kvs, k => (dkey k).bind fun kk => if kvs.length < sizeLine then some (.dK (pt kvs kk v)) else none
  | .dN kvs, k => if okT k = true ∧ kvs.length < sizeLine then some (.dN (pt kvs k v)) else none
  | _, _ => none
@[simp] def dPut (to ti tv : DTE) : DTS := fun A τ S => tv A.xe τ S fun v S1 => to A.xe τ S1 fun d S2 => ti A.xe τ S2 fun k S3 => match d with
  | .ref a => opt (S3 a) fun ob => opt (putO ob k v) fun ob' => A.nx τ (upo S3 a ob')
  | _ => False
/-- what a store asks, told of data -/
def rPutD (K : PySem.W.Frag) (w : World) : TSet := fun o i v H Q => rSetL o i v H Q ∨ (∃ a H4, o = .ref a ∧ DPut H a i v H4 ∧ Q H4) ∨
  ∃ a kvs k d, o = .ref a ∧ ROb w K H a (.dN kvs) ∧ okT k = true ∧ RD K H k i ∧ RD K H d v ∧ kvs.length < sizeLine ∧ ∀ rows, LeH H (upd H a (dnHO w rows a)) → ROb w K (upd H a (dnHO w rows a)) a (.dN (pt kvs k d)) → Q (upd H a (dnHO w rows a))
theorem set_both (hu : X.A.units + 120 < cLine) : PSet X (rPutD X.K X.w) := by
  intro pins s σ H o i v ov iv u Q I ro ri rv h
  rcases h with h | ⟨a, H4, rfl, g, q⟩ | ⟨a, kvs, k, d, rfl, rb, hk, rk, rd, hl, q⟩
  · exact set_list pins s σ H o i v ov iv u Q I ro ri rv h
  · cases ro
    exact d_setItem (by omega) I g ri rv fun s4 I4 => ⟨H4, I4, q⟩
  · cases ro
    obtain ⟨xs, dd, rx', hsys, _, nd, mu⟩ := dn_open I rb
    obtain ⟨nk, b, ek, hd8, rfl, rfl, his⟩ := okT_key I hk rk ri
    refine wpAny_setItem_heap (show X.A.units + 1 + 8 < cLine by omega) his dd (fun h' dd' sb => ?_) (by rw [← rx'.length]; omega)
    obtain ⟨rows, I2, le, rb2⟩ := dn_close (t := s.toks + (nestedKind X.prog X.w).draws nk) I mu hsys (rx'.pt ek hd8 rk rv rd) (by have := pt_len kvs k d; omega) (pt_nodup k d nd) dd' sb
    exact ⟨_, I2, q rows le rb2⟩
theorem ds_put (hu : X.A.units + 120 < cLine) (ho : DE X o to) (hi : DE X i ti) (hv : DE X value tv) (hs : swapsWithSole [.Subscript o i pos'] value pos.line X.env = pure false := by rfl) (hw : swappedStores [.Subscript o i pos'] value X.env = pure none := by rfl)
    (h1 : (assignEach [.Subscript o i pos'] X.env).map (·.2) = [assign (.Subscript o i pos') X.env] := by rfl)
    (ha : ∀ v, assign (.Subscript o i pos') X.env v = (do let ov ← holding [v] (eval o X.env); let iv ← holding [v, ov] (eval i X.env); standAt pos'; holding [v, ov, iv] (setItem ov iv v); release [v, ov, iv] []) := by intro _; rfl) :
    DS X (.Assign [.Subscript o i pos'] value pos) (dPut to ti tv) := by
  refine ⟨fun A B τ S le q => hv.mono _ _ _ _ _ _ le.xe (fun v S1 z => ho.mono _ _ _ _ _ _ le.xe (fun d S2 z => hi.mono _ _ _ _ _ _ le.xe (fun k S3 z => ?_) z) z) q,
    pS_imp (ps_asg hv.run (pg_sub ho.run hi.run (set_both hu) ha) hs hw h1) fun D σ H ⟨E, τ, S, w, r, q⟩ => ?_⟩
  · cases d <;> first | exact z | exact opt_mono (fun _ z => opt_mono (fun _ z => le.nx _ _ z) z) z
  · refine hv.to w r q fun v S1 x H1 le1 w1 r1 rv z => ho.to w1 r1 z fun d S2 y H2 le2 w2 r2 rd z => hi.to w2 r2 z fun k S3 u H3 le3 w3 r3 rk z => ?_
    cases d with
    | ref a =>
      cases rd
      obtain ⟨ob, ea, z⟩ := opt_ex z
      obtain ⟨ob', eo, z⟩ := opt_ex z
      have rv3 := rv.le (le2.trans le3)
      have le := le1.trans (le2.trans le3)
      cases ob with
      | lst ds =>
        cases k with
        | int n =>
          cases rk
          obtain ⟨xs, e0, rs⟩ : ∃ xs, H3 a = some (.lst xs) ∧ RDs X.K H3 ds xs := r3.rep a _ ea
          have eo' : (ixN ds.length n).map (fun j => Ob.lst (ds.set j v)) = some ob' := eo
          cases ej : ixN ds.length n with
          | none =>
            rw [ej] at eo'
            cases eo'
          | some j =>
            rw [ej] at eo'
            cases eo'
            have le4 : LeH H3 (upd H3 a (.lst (xs.set j x))) := LeH.put e0 trivial
            exact .inl ⟨a, xs, n, j, rfl, rfl, e0, by rw [← rs.length]; exact ej, z _ _ (le.trans le4) (r3.le le4 (r3.rep.put e0 trivial (o := .lst (ds.set j v)) ⟨_, upd_same, (rs.set j rv3).le le4⟩))⟩
        | _ => cases eo
      | dK kvs =>
        obtain ⟨ws, e0, rk0⟩ : ∃ ws, H3 a = some (.dK ws) ∧ RKs X.K H3 kvs ws := r3.rep a _ ea
        have eo' : ((dkey k).bind fun kk => if kvs.length < sizeLine then some (Ob.dK (pt kvs kk v)) else none) = some ob' := by
          cases k <;> exact eo
        cases ek : dkey k with
        | none =>
          rw [ek] at eo'
          cases eo'
        | some kk =>
          rw [ek, Option.bind_some] at eo'
          split at eo'
          · rename_i hl
            cases eo'
            have eu := dkey_rd ek rk
            subst eu
            have le4 : LeH H3 (upd H3 a (.dK (putK ws kk x))) := LeH.put e0 trivial
            exact .inr (.inl ⟨a, _, rfl, DPut.k e0 (by rw [← rk0.length]; exact hl), z _ _ (le.trans le4) (r3.le le4 (r3.rep.put e0 trivial (o := .dK (pt kvs kk v)) ⟨_, upd_same, (rk0.pt rv3).le le4⟩))⟩)
          · cases eo'
      | dN kvs =>
        have eo' : (if okT k = true ∧ kvs.length < sizeLine then some (Ob.dN (pt kvs k v)) else none) = some ob' := by
          cases k <;> exact eo
        split at eo'
        · rename_i hk
          cases eo'
          have rb := r3.rep a _ ea
          refine .inr (.inr ⟨a, kvs, k, v, rfl, rb, hk.1, rk, rv3, hk.2, fun rows le4 rb2 => z _ _ (le.trans le4) (r3.le le4 ?_)⟩)
          obtain ⟨rows0, e0, _⟩ := rb
          exact r3.rep.put e0 trivial rb2
        · cases eo'
      | ins C fs => cases k <;> cases eo
      | exc _ _ => cases k <;> cases eo
      | xd _ => cases k <;> cases eo
      | ex0 _ => cases k <;> cases eo
      | ex1 _ _ => cases k <;> cases eo
      | xm _ => cases k <;> cases eo
      | fK _ => cases k <;> cases eo
      | fN _ => cases k <;> cases eo
    | _ => exact z.elim
end
end Dt
set_option maxRecDepth 100000
set_option maxHeartbeats 4000000
/-! Dat6: built-ins by name, methods, what is walked, isinstance, names of the module. -/
namespace Dt
open PySem PySem.Spec L2

section
variable {X : Cx}
/-! ### calls -/
@[simp] def cLen : RCD := fun ds S Q => match ds with
  | [.str z] => z.length ≤ sizeLine ∧ Q (.int z.length) S
  | [.tup xs] => Q (.int xs.length) S
  | [.rol xs] => Q (.int xs.length) S
  | [.ref a] => (match S a with | some (.lst xs) => Q (.int xs.length) S | some (.dK kvs) => Q (.int kvs.length) S | some (.dN kvs) => Q (.int kvs.length) S | _ => False)
  | _ => False
theorem cd_len : CallD X (.builtin "len") cLen := by
  refine ⟨fun ds S Q Q' k h => ?_, fun pins s σ H vs us Q I rv ⟨ds, S, rep, rd, h⟩ => ?_⟩
  · match ds, h with
    | [.str z], h => exact ⟨h.1, k _ _ h.2⟩
    | [.tup xs], h => exact k _ _ h
    | [.rol xs], h => exact k _ _ h
    | [.ref a], h =>
      revert h
      show (match S a with | some (.lst xs) => _ | some (.dK kvs) => _ | some (.dN kvs) => _ | _ => False) → (match S a with | some (.lst xs) => _ | some (.dK kvs) => _ | some (.dN kvs) => _ | _ => False)
      split
      · exact k _ _
      · exact k _ _
      · exact k _ _
      · exact fun h => h
  · match ds, h with
    | [.str z], h =>
      obtain ⟨v, rfl, r⟩ := rds1 rd
      cases r
      exact call_len_str pins s σ H _ us Q I rv ⟨z, rfl, h.1, h.2 _ H (LeH.refl H) rep rfl⟩
    | [.tup xs], h =>
      obtain ⟨v, rfl, r⟩ := rds1 rd
      obtain ⟨p, ys, rfl, sq, rs⟩ : ∃ p ys, v = V.ref p ∧ SqT X.K H p ys ∧ RDs X.K H xs ys := r
      exact call_len_seq pins s σ H _ us Q I rv ⟨p, ys, rfl, .inr sq, by rw [← rs.length]; exact h _ H (LeH.refl H) rep rfl⟩
    | [.rol xs], h =>
      obtain ⟨v, rfl, r⟩ := rds1 rd
      obtain ⟨p, ys, rfl, sq, rs⟩ : ∃ p ys, v = V.ref p ∧ SqR X.K H p ys ∧ RDs X.K H xs ys := r
      exact call_len_seq pins s σ H _ us Q I rv ⟨p, ys, rfl, .inl sq.l, by rw [← rs.length]; exact h _ H (LeH.refl H) rep rfl⟩
    | [.ref a], h =>
      obtain ⟨v, rfl, r⟩ := rds1 rd
      cases r
      revert h
      show (match S a with | some (.lst xs) => _ | some (.dK kvs) => _ | some (.dN kvs) => _ | _ => False) → _
      split
      · rename_i xs ea
        intro h
        obtain ⟨ys, e0, rs⟩ : ∃ ys, H a = some (.lst ys) ∧ RDs X.K H xs ys := rep a _ ea
        exact call_len_seq pins s σ H _ us Q I rv ⟨a, ys, rfl, .inl (.of e0), by rw [← rs.length]; exact h _ H (LeH.refl H) rep rfl⟩
      · rename_i kvs ea
        intro h
        obtain ⟨ws, e0, rk⟩ : ∃ ws, H a = some (.dK ws) ∧ RKs X.K H kvs ws := rep a _ ea
        exact call_lenD pins s σ H _ us Q I rv ⟨a, ws, rfl, e0, by rw [← rk.length]; exact h _ H (LeH.refl H) rep rfl⟩
      · rename_i kvs ea
        intro h
        obtain ⟨xs, dd, rx', hsys, hl, nd, mu⟩ := dn_open I (rep a _ ea)
        rw [Vals.ref1 rv]
        refine call_len_dictH hsys dd (by rw [← rx'.length]; rw [sizeLine_eq] at hl; omega) ?_
        rw [← rx'.length]
        exact ⟨.int ((kvs.length : Nat) : Int), H, I.tok _, ⟨_, rfl⟩, h _ H (LeH.refl H) rep rfl⟩
      · exact fun h => h.elim
@[simp] def cMax2 : RCD := fun ds S Q => match ds with | [.int i, .int j] => Q (.int (if j > i then j else i)) S | _ => False
@[simp] def cMin2 : RCD := fun ds S Q => match ds with | [.int i, .int j] => Q (.int (if j < i then j else i)) S | _ => False
def cMinL : RCD := fun ds S Q => ∃ (d : D) (ns : List Int), ds = [d] ∧ seqD S d = some (ns.map D.int) ∧ 0 < ns.length ∧ ∀ m, m ∈ ns → (∀ y, y ∈ ns → m ≤ y) → Q (.int m) S
def cMaxL : RCD := fun ds S Q => ∃ (d : D) (ns : List Int), ds = [d] ∧ seqD S d = some (ns.map D.int) ∧ 0 < ns.length ∧ ∀ m, m ∈ ns → (∀ y, y ∈ ns → y ≤ m) → Q (.int m) S
def cAll : RCD := fun ds S Q => ∃ (d : D) (bs : List Bool), ds = [d] ∧ seqD S d = some (bs.map D.bl) ∧ Q (.bl (bs.all id)) S
def cAny : RCD := fun ds S Q => ∃ (d : D) (bs : List Bool), ds = [d] ∧ seqD S d = some (bs.map D.bl) ∧ Q (.bl (bs.any id)) S
theorem cd_all (hc : X.calm = true) : CallD X (.builtin "all") cAll := by
  refine ⟨fun ds S Q Q' k ⟨a, ns, e, h1, h⟩ => ⟨a, ns, e, h1, k _ _ h⟩, fun pins s σ H vs us Q I rv ⟨ds, S, rep, rd, d, ns, e, h1, h⟩ => ?_⟩
  subst e
  obtain ⟨v, rfl, r⟩ := rds1 rd
  obtain ⟨a, ys, rfl, sq, rs⟩ := seqD_rd rep r h1
  rw [RDs.bls.mp rs] at sq
  exact cr_all hc pins s σ H _ us Q I rv ⟨a, ns, rfl, sq.l, h _ H (LeH.refl H) rep rfl⟩
@[simp] def cList : RCD := fun ds S Q => match ds with
  | [.tup xs] => newO S (.lst xs) fun p S' => Q (.ref p) S'
  | [.rol xs] => newO S (.lst xs) fun p S' => Q (.ref p) S'
  | [.ref a] => (match S a with | some (.lst xs) => newO S (.lst xs) fun p S' => Q (.ref p) S' | _ => False)
  | _ => False
theorem cd_list : CallD X (.type "list") cList := by
  refine ⟨fun ds S Q Q' k h => ?_, fun pins s σ H vs us Q I rv ⟨ds, S, rep, rd, h⟩ => ?_⟩
  · match ds, h with
    | [.tup xs], h => exact fun p hp => k _ _ (h p hp)
    | [.rol xs], h => exact fun p hp => k _ _ (h p hp)
    | [.ref a], h =>
      revert h
      show (match S a with | some (.lst xs) => _ | _ => False) → (match S a with | some (.lst xs) => _ | _ => False)
      split
      · exact fun h p hp => k _ _ (h p hp)
      · exact fun h => h
  · match ds, h with
    | [.tup xs], h =>
      obtain ⟨v, rfl, r⟩ := rds1 rd
      obtain ⟨p, ys, rfl, sq, rs⟩ : ∃ p ys, v = V.ref p ∧ SqT X.K H p ys ∧ RDs X.K H xs ys := r
      exact call_list_of pins s σ H _ us Q I rv ⟨p, ys, rfl, .inr sq, fun l hl => rep_new (Q0 := fun _ _ => True) rep hl rs (h l (rep.free hl))⟩
    | [.rol xs], h =>
      obtain ⟨v, rfl, r⟩ := rds1 rd
      obtain ⟨p, ys, rfl, sq, rs⟩ : ∃ p ys, v = V.ref p ∧ SqR X.K H p ys ∧ RDs X.K H xs ys := r
      exact call_list_of pins s σ H _ us Q I rv ⟨p, ys, rfl, .inl sq.l, fun l hl => rep_new (Q0 := fun _ _ => True) rep hl rs (h l (rep.free hl))⟩
    | [.ref a], h =>
      obtain ⟨v, rfl, r⟩ := rds1 rd
      cases r
      revert h
      show (match S a with | some (.lst xs) => _ | _ => False) → _
      split
      · rename_i xs ea
        intro h
        obtain ⟨ys, e0, rs⟩ : ∃ ys, H a = some (.lst ys) ∧ RDs X.K H xs ys := rep a _ ea
        exact call_list_of pins s σ H _ us Q I rv ⟨a, ys, rfl, .inl (.of e0), fun l hl => rep_new (Q0 := fun _ _ => True) rep hl rs (h l (rep.free hl))⟩
      · exact fun h => h.elim
theorem CallD.sub {f : Value} {r r' : RCD} (h : CallD X f r) (m : MonoC r') (k : ∀ ds S Q, r' ds S Q → r ds S Q) : CallD X f r' :=
  ⟨m, fun pins s σ H vs us Q I rv ⟨ds, S, rep, rd, q⟩ => h.run pins s σ H vs us Q I rv ⟨ds, S, rep, rd, k _ _ _ q⟩⟩
@[simp] def cFz (r : RCD) : RCD := fun ds S Q => r ds S (fzK Q)
theorem cd_fz {f : Value} {r : RCD} (h : CallD X f r) : CallD X f (cFz r) := by
  refine ⟨fun ds S Q Q' k q => h.mono _ _ _ _ (fzK_mono k) q, fun pins s σ H vs us Q I rv ⟨ds, S, rep, rd, q⟩ => ?_⟩
  refine thn (h.run pins s σ H vs us (fun v H1 => ∃ d S1, LeH H H1 ∧ Rep X.w X.K S1 H1 ∧ RD X.K H1 d v ∧ fzK (fun d S' => ∀ v H', LeH H H' → Rep X.w X.K S' H' → RD X.K H' d v → Q v H') d S1) I rv ⟨ds, S, rep, rd, h.mono _ _ _ _ (fun z S' y v H' le rp rz => ⟨z, S', le, rp, rz, y⟩) q⟩) fun u s' ⟨v, H1, I1, ru, d, S1, le, rp, rd, z⟩ => ?_
  exact fzK_to I1 rp rd ru z fun d S' v H' le' rp' rd' y => y v H' (le.trans le') rp' rd'
@[simp] def cListF : RCD := fun ds S Q => match ds with
  | [.tup xs] => Q (.rol xs) S
  | [d] => opt (seqD S d) fun xs => Q (.rol xs) S
  | _ => False
theorem cd_listF : CallD X (.type "list") cListF := (cd_fz cd_list).sub (fun ds S Q Q' k h => by
    unfold cListF at h ⊢
    split at h
    · exact k _ _ h
    · exact opt_mono (fun _ q => k _ _ q) h
    · exact h) fun ds S Q h => by
    unfold cListF at h
    unfold cFz cList
    split at h
    · exact fun p hp => fzK_new hp h
    · rename_i d _
      obtain ⟨xs, e, q⟩ := opt_ex h
      clear h
      cases d with
      | rol ys => cases e; exact fun p hp => fzK_new hp q
      | ref a =>
        simp only [seqD_ref] at e
        split at e
        · rename_i ys ea
          cases e
          simp only [ea]
          exact fun p hp => fzK_new hp q
        · cases e
      | _ => simp at e
    · exact h.elim
@[simp] def cTuple : RCD := fun ds S Q => match ds with
  | [.tup xs] => Q (.tup xs) S
  | [.rol xs] => Q (.tup xs) S
  | [.ref a] => (match S a with | some (.lst xs) => Q (.tup xs) S | _ => False)
  | _ => False
theorem cd_tuple : CallD X (.type "tuple") cTuple := by
  refine ⟨fun ds S Q Q' k h => ?_, fun pins s σ H vs us Q I rv ⟨ds, S, rep, rd, h⟩ => ?_⟩
  · match ds, h with
    | [.tup xs], h => exact k _ _ h
    | [.rol xs], h => exact k _ _ h
    | [.ref a], h =>
      revert h
      show (match S a with | some (.lst xs) => _ | _ => False) → (match S a with | some (.lst xs) => _ | _ => False)
      split
      · exact k _ _
      · exact fun h => h
  · match ds, h with
    | [.tup xs], h =>
      obtain ⟨v, rfl, r⟩ := rds1 rd
      obtain ⟨p, ys, rfl, sq, rs⟩ : ∃ p ys, v = V.ref p ∧ SqT X.K H p ys ∧ RDs X.K H xs ys := r
      exact call_tuple_of pins s σ H _ us Q I rv ⟨p, ys, rfl, .inr ⟨sq, h _ H (LeH.refl H) rep ⟨p, ys, rfl, sq, rs⟩⟩⟩
    | [.rol xs], h =>
      obtain ⟨v, rfl, r⟩ := rds1 rd
      obtain ⟨p, ys, rfl, sq, rs⟩ : ∃ p ys, v = V.ref p ∧ SqR X.K H p ys ∧ RDs X.K H xs ys := r
      exact call_tuple_of pins s σ H _ us Q I rv ⟨p, ys, rfl, .inl ⟨sq.l, fun l hl => rep_tup rep hl rs h⟩⟩
    | [.ref a], h =>
      obtain ⟨v, rfl, r⟩ := rds1 rd
      cases r
      revert h
      show (match S a with | some (.lst xs) => _ | _ => False) → _
      split
      · rename_i xs ea
        intro h
        obtain ⟨ys, e0, rs⟩ : ∃ ys, H a = some (.lst ys) ∧ RDs X.K H xs ys := rep a _ ea
        exact call_tuple_of pins s σ H _ us Q I rv ⟨a, ys, rfl, .inl ⟨.of e0, fun l hl => rep_tup rep hl rs h⟩⟩
      · exact fun h => h.elim
@[simp] def cInt : RCD := fun ds S Q => match ds with | [.int i] => Q (.int i) S | [.bl b] => Q (.int (if b then 1 else 0)) S | _ => False
/-! ### methods -/
abbrev RMD := D → List D → DH → DK → Prop
def MonoM (r : RMD) : Prop := ∀ d ds S (Q Q' : DK), (∀ d S', Q d S' → Q' d S') → r d ds S Q → r d ds S Q'
def upM (w : World) (K : PySem.W.Frag) (r : RMD) : V → List V → Hp → VK → Prop := fun x vs H Q => ∃ d ds S, Rep w K S H ∧ RD K H d x ∧ RDs K H ds vs ∧ r d ds S (lQ w K H Q)
structure MtD (X : Cx) (id : String) (r : RMD) : Prop where
  mono : MonoM r
  run : MtR X id (upM X.w X.K r)
@[simp] def tyD (T : String) (d : D) (S : DH) : Prop := match d with
  | .str _ => T = "str"
  | .rol _ => T = "list"
  | .ref a => (match S a with | some (.lst _) => T = "list" | some (.dK _) => T = "dict" | some (.dN _) => T = "dict" | _ => False)
  | _ => False
theorem tyD_is {pins : List (Addr × Obj)} {σ : L2.St} {s : Shared} {T : String} {d : D} {S : DH} {x : V} {v : Value} {H : Hp} (I : Inv X pins σ H s) (rep : Rep X.w X.K S H) (r : RD X.K H d x) (rv : RelV x v) (h : tyD T d S) :
    s.TypeIs v T ∧ ∀ a, v = .ref a → ∃ ob, s.heap.get? a = some ob ∧ ob.dict = none := by
  have via : tyV X.K T x H → s.TypeIs v T ∧ ∀ a, v = .ref a → ∃ ob, s.heap.get? a = some ob ∧ ob.dict = none := tyV_is I rv
  cases d with
  | str z => cases r; exact via h
  | rol ds =>
    obtain ⟨p, ys, rfl, sq, rs⟩ : ∃ p ys, x = V.ref p ∧ SqR X.K H p ys ∧ RDs X.K H ds ys := r
    exact via (.inl ⟨h, ys, sq.l⟩)
  | ref a =>
    cases r
    revert h
    show (match S a with | some (.lst _) => T = "list" | some (.dK _) => T = "dict" | some (.dN _) => T = "dict" | _ => False) → _
    split
    · rename_i xs ea
      obtain ⟨ys, e0, _⟩ : ∃ ys, H a = some (.lst ys) ∧ RDs X.K H xs ys := rep a _ ea
      exact fun h => via (.inl ⟨h, ys, .of e0⟩)
    · rename_i xs ea
      obtain ⟨ys, e0, _⟩ : ∃ ys, H a = some (.dK ys) ∧ RKs X.K H xs ys := rep a _ ea
      exact fun h => via (.inr (.inr (.inl ⟨h, .inl ⟨ys, e0⟩⟩)))
    · rename_i xs ea
      rintro rfl
      obtain ⟨xs, dd, _⟩ := dn_open I (rep a _ ea)
      cases (show v = .ref a from rv)
      refine ⟨dd.typeIs, fun b e => ?_⟩
      cases e
      obtain ⟨o, es, ep, ho, hx, _⟩ := dd
      exact ⟨o, ho, hx.2.1⟩
    · exact fun h => h.elim
  | _ => exact h.elim
@[simp] def dBM (T : String) (r : RMD) (to : DTE) (t : DTA) : DTE := fun E τ S Q => to E τ S fun d S1 => tyD T d S1 ∧ t E τ S1 fun ds S2 => r d ds S2 Q
variable {o e : Expr} {es : List Expr} {to te : DTE} {t : DTA} {name : Str} {apos cpos pos p : Pos} {T id : String} {r : RMD}
theorem de_bm0 (pa : PlainAttrs T) (slot : Slot T name id) (hty : typeOf (.builtin id) = pure (.type "method_descriptor")) (hm : MtD X id r) (ho : DE X o to)
    (hbase : attributeBase o name X.env (eval o X.env) = eval o X.env := by rfl) (hline : (apos.endLine == cpos.line) = true := by rfl) : DE X (.Call (.Attribute o name apos) [] [] cpos) (dBM T r to dNil) := by
  refine ⟨fun E E' τ S Q Q' he k q => ho.mono _ _ _ _ _ _ he (fun d S1 z => ⟨z.1, hm.mono _ _ _ _ _ k z.2⟩) q, ⟨fun pins s σ H Q I ⟨E, τ, S, w, rl, q⟩ => ?_⟩⟩
  refine wpAny_Call_method_late hbase (by rfl) hline rfl (thn (ho.run.run pins s σ H _ I (ho.to w rl q fun d S1 x H1 le1 w1 r1 rd z => (⟨d, S1, le1, r1, rd, z⟩ : ∃ d S1, LeH H H1 ∧ Rel X.w X.K τ S1 σ H1 ∧ RD X.K H1 d x ∧ tyD T d S1 ∧
    r d [] S1 fun d S' => ∀ v H', LeH H H' → Rep X.w X.K S' H' → RD X.K H' d v → Q v H'))) fun v s1 ⟨x, H1, I1, rx, d, S1, le1, r1, rd, ht, z⟩ => ?_)
  obtain ⟨h1, h2⟩ := tyD_is I1 r1.rep rd rx ht
  exact ⟨T, id, pa, slot, hty, h1, h2, Calls.callWith_builtin rfl (PySem.evalArgs_none (hm.run pins s1 σ H1 x [] v [] Q I1 rx .nil ⟨d, [], S1, r1.rep, rd, .nil, hm.mono _ _ _ _ _ (fun z S' y v H' le rp rz => y v H' (le1.trans le) rp rz) z⟩))⟩
theorem de_bm (pa : PlainAttrs T) (slot : Slot T name id) (hty : typeOf (.builtin id) = pure (.type "method_descriptor")) (hm : MtD X id r) (ho : DE X o to) (ha : DA X (e :: es) t)
    (hbase : attributeBase o name X.env (eval o X.env) = eval o X.env := by rfl)
    (hfew : ((backTo cpos (starEach (e :: es) X.env)).all (fun x => !x.1) && (backToKw cpos (keywordEach [] X.env)).all (fun x => x.1.isSome) && decide ((e :: es).length + ([] : List Keyword).length + (if ([] : List Keyword).isEmpty then 0 else 1) < 30)) = true := by rfl)
    (hline : (apos.endLine == cpos.line) = true := by rfl) (hs : starEach (e :: es) X.env = (false, eval e X.env) :: starEach es X.env := by rfl) (hplain : (backTo cpos (starEach es X.env)).any (·.1) = false := by rfl) :
    DE X (.Call (.Attribute o name apos) (e :: es) [] cpos) (dBM T r to t) := by
  refine ⟨fun E E' τ S Q Q' he k q => ho.mono _ _ _ _ _ _ he (fun d S1 z => ⟨z.1, ha.mono _ _ _ _ _ _ he (fun ds S2 z => hm.mono _ _ _ _ _ k z) z.2⟩) q, ⟨fun pins s σ H Q I ⟨E, τ, S, w, rl, q⟩ => ?_⟩⟩
  refine wpAny_Call_method_late hbase hfew hline rfl (thn (ho.run.run pins s σ H _ I (ho.to w rl q fun d S1 x H1 le1 w1 r1 rd z => (⟨d, S1, le1, w1, r1, rd, z⟩ : ∃ d S1, LeH H H1 ∧ Wish X E H1 ∧ Rel X.w X.K τ S1 σ H1 ∧ RD X.K H1 d x ∧ tyD T d S1 ∧
    t E τ S1 fun ds S2 => r d ds S2 fun d S' => ∀ v H', LeH H H' → Rep X.w X.K S' H' → RD X.K H' d v → Q v H'))) fun v s1 ⟨x, H1, I1, rx, d, S1, le1, w1, r1, rd, ht, z⟩ => ?_)
  obtain ⟨h1, h2⟩ := tyD_is I1 r1.rep rd rx ht
  refine ⟨T, id, pa, slot, hty, h1, h2, ?_⟩
  have hA := ha.run.run cpos pins s1 σ H1 _ I1 (ha.to w1 r1 z fun ds S2 vs H2 le2 w2 r2 rds z => (⟨ds, S2, le2, r2, rds, z⟩ : ∃ ds S2, LeH H1 H2 ∧ Rel X.w X.K τ S2 σ H2 ∧ RDs X.K H2 ds vs ∧
    r d ds S2 fun d S' => ∀ v H', LeH H H' → Rep X.w X.K S' H' → RD X.K H' d v → Q v H'))
  rw [hs] at hA ⊢
  refine Calls.callWith_builtin (by show (false || (backTo cpos (starEach es X.env)).any (·.1)) = false; rw [hplain] <;> rfl) (Calls.evalArgs_plain ?_)
  exact thn hA fun us s2 ⟨vs, H2, I2, rv2, ds, S2, le2, r2, rds, z⟩ => hm.run pins s2 σ H2 x vs v us Q I2 rx rv2 ⟨d, ds, S2, r2.rep, rd.le le2, rds, hm.mono _ _ _ _ _ (fun z S' y v H' le rp rz => y v H' (le1.trans (le2.trans le)) rp rz) z⟩
/-- a method that changes the list at a -/
@[simp] def mLst (ds : List D) (d : D) (S : DH) (Q : List D → (List D → DH) → Prop) : Prop := match d with | .ref a => (match S a with | some (.lst xs) => Q xs fun ys => upo S a (.lst ys) | _ => False) | _ => False
@[simp] def mAppend : RMD := fun d ds S Q => mLst ds d S fun xs up => match ds with | [y] => xs.length < sizeLine ∧ Q .non (up (xs ++ [y])) | _ => False
theorem mLst_mono {ds : List D} {d : D} {S : DH} {Q Q' : List D → (List D → DH) → Prop} (k : ∀ a xs, d = .ref a → S a = some (.lst xs) → Q xs (fun ys => upo S a (.lst ys)) → Q' xs (fun ys => upo S a (.lst ys))) (h : mLst ds d S Q) : mLst ds d S Q' := by
  cases d with
  | ref a =>
    revert h
    show (match S a with | some (.lst xs) => _ | _ => False) → (match S a with | some (.lst xs) => _ | _ => False)
    split
    · rename_i xs ea
      exact k a xs rfl ea
    · exact fun h => h
  | _ => exact h
theorem mLst_ex {ds : List D} {d : D} {S : DH} {Q : List D → (List D → DH) → Prop} (h : mLst ds d S Q) : ∃ a xs, d = .ref a ∧ S a = some (.lst xs) ∧ Q xs fun ys => upo S a (.lst ys) := by
  cases d with
  | ref a =>
    revert h
    show (match S a with | some (.lst xs) => _ | _ => False) → _
    split
    · rename_i xs ea
      exact fun h => ⟨a, xs, rfl, ea, h⟩
    · exact fun h => h.elim
  | _ => exact h.elim
theorem md_append : MtD X "list.append" mAppend := by
  refine ⟨fun d ds S Q Q' k h => mLst_mono (fun a xs e1 e2 z => ?_) h, fun pins s σ H x vs v us Q I rx rv ⟨d, ds, S, rep, rd, rds, h⟩ => ?_⟩
  · match ds, z with | [y], z => exact ⟨z.1, k _ _ z.2⟩
  · obtain ⟨a, xs, rfl, ea, z⟩ := mLst_ex h
    match ds, z with
    | [y], z =>
      cases rd
      obtain ⟨u, rfl, ru⟩ := rds1 rds
      obtain ⟨ys, e0, rs⟩ : ∃ ys, H a = some (.lst ys) ∧ RDs X.K H xs ys := rep a _ ea
      have le : LeH H (upd H a (.lst (ys ++ [u]))) := LeH.put e0 trivial
      exact mt_append pins s σ H _ _ v us Q I rx rv ⟨a, ys, u, rfl, rfl, e0, by rw [← rs.length]; exact z.1, z.2 _ _ le (rep.put e0 trivial (o := .lst (xs ++ [y])) ⟨_, upd_same, (rs.snoc ru).le le⟩) rfl⟩
@[simp] def mExtend : RMD := fun d ds S Q => mLst ds d S fun xs up => match ds with | [e] => opt (seqD S e) fun zs => xs.length + zs.length ≤ sizeLine ∧ Q .non (up (xs ++ zs)) | _ => False
def rExtendX (K : PySem.W.Frag) : V → List V → Hp → VK → Prop := fun x vs H Q => ∃ l b xs zs, x = .ref l ∧ vs = [.ref b] ∧ H l = some (.lst xs) ∧ SqX K H b zs ∧ xs.length + zs.length ≤ sizeLine ∧ Q .non (upd H l (.lst (xs ++ zs)))
theorem mt_extendX : MtM X "list.extend" (rExtendX X.K) := by
  intro pins s σ H x vs v us Q I rx rv h
  obtain ⟨l, b, xs, zs, rfl, rfl, hH, hB, hz, q⟩ := h
  cases rx
  obtain ⟨u, rfl, ru⟩ := rv.one
  cases ru
  obtain ⟨z, its, n, r, hl, e⟩ := I.lstM hH
  obtain ⟨its2, n2, r2, z2, hl2, e2⟩ := sqX_get I hB
  have hsz : its.toArray.size + its2.toArray.size ≤ sizeLine := by rw [List.size_toArray, List.size_toArray]; omega
  have hlong : ¬ (!its.toArray.isEmpty && Builtin.List.listTooLong (its.toArray.size + its2.toArray.size)) = true := by
    rw [notLongL hsz, Bool.and_false]
    exact Bool.false_ne_true
  refine call_meets F.slot_list_extend ⟨_, e, rfl⟩ F.entry_list_extend (F.args_list_extend_2 _ _)
    (AutoSeq1.list_extend_list_list_0 l its.toArray n b its2.toArray n2 hlong (by rw [List.size_toArray]; omega) (by omega)) ⟨e, e2, ?_⟩
  refine ⟨.non, _, I.lset (its' := its ++ its2) hH e (by simp) (r.append r2) ?_, rfl, q⟩
  rw [List.length_append]
  omega
theorem md_extend : MtD X "list.extend" mExtend := by
  refine ⟨fun d ds S Q Q' k h => mLst_mono (fun a xs e1 e2 z => ?_) h, fun pins s σ H x vs v us Q I rx rv ⟨d, ds, S, rep, rd, rds, h⟩ => ?_⟩
  · match ds, z with
    | [e], z => exact opt_mono (fun _ z => ⟨z.1, k _ _ z.2⟩) z
  · obtain ⟨a, xs, rfl, ea, z⟩ := mLst_ex h
    match ds, z with
    | [e], z =>
      cases rd
      obtain ⟨u, rfl, ru⟩ := rds1 rds
      obtain ⟨zs, eb, z⟩ := opt_ex z
      obtain ⟨b, ws, rfl, sb, rs1⟩ := seqD_rd rep ru eb
      obtain ⟨ys, e0, rs⟩ : ∃ ys, H a = some (.lst ys) ∧ RDs X.K H xs ys := rep a _ ea
      have le : LeH H (upd H a (.lst (ys ++ ws))) := LeH.put e0 trivial
      exact mt_extendX pins s σ H _ _ v us Q I rx rv ⟨a, b, ys, ws, rfl, rfl, e0, sb, by rw [← rs.length, ← rs1.length]; exact z.1, z.2 _ _ le (rep.put e0 trivial (o := .lst (xs ++ zs)) ⟨_, upd_same, (rs.append rs1).le le⟩) rfl⟩
@[simp] def mPop : RMD := fun d ds S Q => mLst ds d S fun xs up => match ds with | [] => opt xs[xs.length - 1]? fun y => Q y (up xs.dropLast) | _ => False
theorem md_pop : MtD X "list.pop" mPop := by
  refine ⟨fun d ds S Q Q' k h => mLst_mono (fun a xs e1 e2 z => ?_) h, fun pins s σ H x vs v us Q I rx rv ⟨d, ds, S, rep, rd, rds, h⟩ => ?_⟩
  · match ds, z with | [], z => exact opt_mono (fun _ z => k _ _ z) z
  · obtain ⟨a, xs, rfl, ea, z⟩ := mLst_ex h
    match ds, z with
    | [], z =>
      cases rd
      cases rds
      obtain ⟨y, ey, z⟩ := opt_ex z
      obtain ⟨ys, e0, rs⟩ : ∃ ys, H a = some (.lst ys) ∧ RDs X.K H xs ys := rep a _ ea
      obtain ⟨u, eu, ru⟩ := rs.get ey
      have le : LeH H (upd H a (.lst ys.dropLast)) := LeH.put e0 trivial
      exact mt_pop pins s σ H _ _ v us Q I rx rv ⟨a, ys, u, rfl, rfl, e0, by rw [← rs.length]; exact eu, z _ _ le (rep.put e0 trivial (o := .lst xs.dropLast) ⟨_, upd_same, rs.dropLast.le le⟩) (ru.le le)⟩
@[simp] def mReverse : RMD := fun d ds S Q => mLst ds d S fun xs up => match ds with | [] => Q .non (up xs.reverse) | _ => False
def mJoin : RMD := fun d ds S Q => ∃ (a : Str) (e : D) (ys : List Str), d = .str a ∧ ds = [e] ∧ (seqD S e = some (ys.map D.str) ∨ e = .tup (ys.map D.str)) ∧ (ys.map (·.length)).sum + ys.length * a.length ≤ 16777216 ∧ Q (.str (Txt.join a ys)) S
@[simp] def mFind : RMD := fun d ds S Q => match d, ds with | .str a, [.str b] => Q (.int (Txt.find a b)) S | _, _ => False
end

/-! ### what is walked -/
section
variable {X : Cx} {tg l : Expr} {tl : DTE} {ta : DTA} {p pos : Pos}
def iAny (K : PySem.W.Frag) (tl : TE) : TI := fun σ H R => tl σ H fun x H1 => (∃ a, x = .ref a ∧ (∃ xs, SqL K H1 a xs) ∧ R (Itl K a) H1) ∨ (∃ a, x = .ref a ∧ (∃ xs, SqT K H1 a xs) ∧ R (Itt K a) H1) ∨ ∃ z, x = .str z ∧ R (Its z) H1
theorem pi_any {tl : TE} (hl : PE X l tl) : PI X tg l (iAny X.K tl) := by
  refine ⟨fun pins s σ H R I h => thn (hl.run pins s σ H _ I h) fun v s1 ⟨x, H1, I1, r1, q1⟩ => ?_⟩
  rcases q1 with ⟨a, rfl, ⟨xs, hq⟩, q⟩ | ⟨a, rfl, ⟨xs, hq⟩, q⟩ | ⟨z, rfl, q⟩
  · cases r1
    obtain ⟨its, rv, pl, hz⟩ := I1.list hq
    exact PySem.wpAny_pyIter_list pl.isList (pi_one (tk := s1.toks) I1 _ (turn_list a _) ⟨_, Heap.get?_push_size _ rfl, rfl, rfl⟩ q)
  · cases r1
    obtain ⟨its, rv, pl, hz⟩ := I1.tuple hq
    exact PySem.wpAny_pyIter_tuple (show s1.heap.IsTuple a its.toArray from pl) (pi_one (tk := s1.toks) I1 _ (turn_tuple a _) ⟨_, Heap.get?_push_size _ rfl, rfl, rfl⟩ q)
  · obtain ⟨t, rfl⟩ := r1
    cases ha : z.cps.all (· < 128)
    · exact PySem.wpAny_pyIter_wide ha (pi_one (tk := s1.toks) I1 _ (turn_str _ z t "str_iterator" (.inr rfl)) ⟨_, Heap.get?_push_size _ rfl, rfl, rfl⟩ q)
    · exact PySem.wpAny_pyIter_ascii ha (pi_one (tk := s1.toks) I1 _ (turn_str _ z t "str_ascii_iterator" (.inl rfl)) ⟨_, Heap.get?_push_size _ rfl, rfl, rfl⟩ q)
def signD (c : Nat) : D := .str ⟨#[c]⟩
@[simp] def dSeqI (tl : DTE) : DTI := fun E τ S R => tl E τ S fun d S1 => match d with
  | .tup ds => R (fun _ => True) ds S1
  | .rol ds => R (fun _ => True) ds S1
  | .str z => R (fun _ => True) (z.cps.toList.map signD) S1
  | .ref a => (match S1 a with | some (.lst ds) => R (fun S => S a = some (.lst ds)) ds S1 | _ => False)
  | _ => False
theorem feeds_seqL {w : World} {K : PySem.W.Frag} {H0 : Hp} {a : Addr} {ds : List D} {G : DH → Prop} (h : ∀ S H, LeH H0 H → Rep w K S H → G S → ∃ xs, SqL K H a xs ∧ RDs K H ds xs) : Feeds w K H0 (Itl K a) G ds where
  go := fun i S H le rp g hi => by
    obtain ⟨xs, sq, rs⟩ := h S H le rp g
    exact ⟨xs, xs[i]'(by rw [← rs.length]; exact hi), sq, by simp⟩
  yld := fun i S H x H' le rp g hi ⟨e, y⟩ => by
    subst e
    obtain ⟨xs, sq, rs⟩ := h S _ le rp g
    obtain ⟨d, e, r⟩ := rs.got (y xs sq)
    exact ⟨LeH.refl _, rp, d, e, r⟩
  stop := fun S H le rp g => by
    obtain ⟨xs, sq, rs⟩ := h S H le rp g
    exact ⟨xs, sq, by rw [rs.length]; exact Nat.le_refl _⟩
theorem feeds_seqT {w : World} {K : PySem.W.Frag} {H0 : Hp} {a : Addr} {ds : List D} {G : DH → Prop} (h : ∀ S H, LeH H0 H → Rep w K S H → G S → ∃ xs, SqT K H a xs ∧ RDs K H ds xs) : Feeds w K H0 (Itt K a) G ds where
  go := fun i S H le rp g hi => by
    obtain ⟨xs, sq, rs⟩ := h S H le rp g
    exact ⟨xs, xs[i]'(by rw [← rs.length]; exact hi), sq, by simp⟩
  yld := fun i S H x H' le rp g hi ⟨e, y⟩ => by
    subst e
    obtain ⟨xs, sq, rs⟩ := h S _ le rp g
    obtain ⟨d, e, r⟩ := rs.got (y xs sq)
    exact ⟨LeH.refl _, rp, d, e, r⟩
  stop := fun S H le rp g => by
    obtain ⟨xs, sq, rs⟩ := h S H le rp g
    exact ⟨xs, sq, by rw [rs.length]; exact Nat.le_refl _⟩
theorem feeds_str {w : World} {K : PySem.W.Frag} {H0 : Hp} {z : Str} {G : DH → Prop} : Feeds w K H0 (Its z) G (z.cps.toList.map signD) where
  go := fun i S H le rp g hi => by
    show i < z.cps.size
    simpa using hi
  yld := fun i S H x H' le rp g hi ⟨e, c, ec, ex⟩ => by
    subst e ex
    refine ⟨LeH.refl _, rp, signD c, ?_, rfl⟩
    rw [List.getElem?_map, Array.getElem?_toList, ec]
    rfl
  stop := fun S H le rp g => by
    show z.cps.size ≤ (z.cps.toList.map signD).length
    simp
theorem di_seq (hl : DE X l tl) : DI X tg l (dSeqI tl) := by
  refine ⟨fun E E' τ S Q Q' he k q => hl.mono _ _ _ _ _ _ he (fun d S1 z => ?_) q, pI_imp (pi_any hl.run) fun σ H R ⟨E, τ, S, w, r, q⟩ => ?_⟩
  · cases d with
    | tup ds => exact k _ _ _ z
    | rol ds => exact k _ _ _ z
    | str ds => exact k _ _ _ z
    | ref a =>
      revert z
      show (match S1 a with | some (.lst ds) => _ | _ => False) → (match S1 a with | some (.lst ds) => _ | _ => False)
      split
      · exact k _ _ _
      · exact fun z => z
    | _ => exact z
  · refine hl.to w r q fun d S1 x H1 le w1 r1 rd z => ?_
    cases d with
    | tup ds =>
      obtain ⟨p, ys, rfl, sq, rs⟩ : ∃ p ys, x = V.ref p ∧ SqT X.K H1 p ys ∧ RDs X.K H1 ds ys := rd
      exact .inr (.inl ⟨p, rfl, ⟨ys, sq⟩, z _ H1 le r1.rep (feeds_seqT fun S H le rp g => ⟨ys, sqT_le le sq, rs.le le⟩)⟩)
    | rol ds =>
      obtain ⟨p, ys, rfl, sq, rs⟩ : ∃ p ys, x = V.ref p ∧ SqR X.K H1 p ys ∧ RDs X.K H1 ds ys := rd
      exact .inl ⟨p, rfl, ⟨ys, sq.l⟩, z _ H1 le r1.rep (feeds_seqL fun S H le rp g => ⟨ys, (sq.le le).l, rs.le le⟩)⟩
    | str y =>
      cases rd
      exact .inr (.inr ⟨y, rfl, z _ H1 le r1.rep feeds_str⟩)
    | ref a =>
      cases rd
      revert z
      show (match S1 a with | some (.lst ds) => _ | _ => False) → _
      split
      · rename_i ds ea
        intro z
        obtain ⟨ys, e0, rs⟩ : ∃ ys, H1 a = some (.lst ys) ∧ RDs X.K H1 ds ys := r1.rep a _ ea
        exact .inl ⟨a, rfl, ⟨ys, .of e0⟩, z _ H1 le r1.rep (feeds_seqL fun S H le rp g => by
          obtain ⟨zs, e1, rz⟩ : ∃ ys, H a = some (.lst ys) ∧ RDs X.K H ds ys := rp a _ g
          exact ⟨zs, .of e1, rz⟩)⟩
      · exact fun z => z.elim
    | _ => exact z.elim
theorem feeds_rng {w : World} {K : PySem.W.Frag} {H0 : Hp} {lo : Int} {n : Nat} {G : DH → Prop} : Feeds w K H0 (Itr lo n) G ((List.range n).map fun i : Nat => D.int (lo + (i : Nat))) where
  go := fun i S H le rp g hi => by
    show i < n
    simpa using hi
  yld := fun i S H x H' le rp g hi ⟨e, ex⟩ => by
    subst e ex
    refine ⟨LeH.refl _, rp, .int (lo + (i : Nat)), ?_, rfl⟩
    have hi' : i < n := by simpa using hi
    rw [List.getElem?_map, List.getElem?_range hi']
    rfl
  stop := fun S H le rp g => by
    show n ≤ ((List.range n).map fun i : Nat => D.int (lo + (i : Nat))).length
    simp
def rngD (lo : Int) (n : Nat) : List D := (List.range n).map fun i : Nat => D.int (lo + (i : Nat))
@[simp] def dRng1 (ta : DTA) : DTI := fun E τ S R => ta E τ S fun ds S1 => match ds with | [.int j] => (-(2 ^ 62) ≤ j ∧ j < 2 ^ 62) ∧ R (fun _ => True) (rngD 0 j.toNat) S1 | _ => False
@[simp] def dRng2 (ta : DTA) : DTI := fun E τ S R => ta E τ S fun ds S1 => match ds with | [.int i, .int j] => (-(2 ^ 62) ≤ i ∧ i < 2 ^ 62 ∧ -(2 ^ 62) ≤ j ∧ j < 2 ^ 62) ∧ R (fun _ => True) (rngD i (j - i).toNat) S1 | _ => False
theorem di_rng1 {a : Expr} (hg : Gl X "range") (hm : X.mg "range" = none) (ha : DA X [a] ta) (hs : starEach [a] X.env = [(false, eval a X.env)] := by rfl) : DI X tg (.Call (.Name "range" p) [a] [] pos) (dRng1 ta) := by
  refine ⟨fun E E' τ S Q Q' he k q => ha.mono _ _ _ _ _ _ he (fun ds S1 z => ?_) q, pI_imp (pi_range1 hg hm ha.run hs) fun σ H R ⟨E, τ, S, w, r, q⟩ => ?_⟩
  · match ds, z with | [.int j], z => exact ⟨z.1, k _ _ _ z.2⟩
  · refine ha.to w r q fun ds S1 vs H1 le w1 r1 rd z => ?_
    match ds, z with
    | [.int j], z =>
      obtain ⟨v, rfl, rv⟩ := rds1 rd
      cases rv
      exact ⟨j, rfl, z.1.1, z.1.2, z.2 _ H1 le r1.rep feeds_rng⟩
end

/-! ### isinstance by a built-in class; names of the module; chains; * -/
section
variable {X : Cx} {e : Expr} {te : DTE} {p p2 pos : Pos} {T : String}
def tyName (d : D) (S : DH) : Option String := match d with
  | .non => some "NoneType" | .bl _ => some "bool" | .int _ => some "int" | .str _ => some "str" | .tup _ => some "tuple" | .rol _ => some "list"
  | .ref a => (match S a with | some (.lst _) => some "list" | some (.dK _) => some "dict" | _ => none)
section
variable (S : DH)
@[simp] theorem tyName_non : tyName .non S = some "NoneType" := rfl
@[simp] theorem tyName_bl (b : Bool) : tyName (.bl b) S = some "bool" := rfl
@[simp] theorem tyName_int (b : Int) : tyName (.int b) S = some "int" := rfl
@[simp] theorem tyName_str (b : Str) : tyName (.str b) S = some "str" := rfl
@[simp] theorem tyName_tup (b : List D) : tyName (.tup b) S = some "tuple" := rfl
@[simp] theorem tyName_rol (b : List D) : tyName (.rol b) S = some "list" := rfl
theorem tyName_ref (a : Addr) : tyName (.ref a) S = (match S a with | some (.lst _) => some "list" | some (.dK _) => some "dict" | _ => none) := rfl
theorem tyName_lst {a : Addr} {xs : List D} (h : S a = some (.lst xs)) : tyName (.ref a) S = some "list" := by rw [tyName_ref, h]
end
@[simp] def isiB (a b : String) : Bool := a == b || (a == "bool" && b == "int")
theorem tyName_x {w : World} {K : PySem.W.Frag} {d : D} {S : DH} {x : V} {H : Hp} {n : String} (rep : Rep w K S H) (r : RD K H d x) (h : tyName d S = some n) : TyX K H x (.type n) := by
  cases d with
  | non => cases r; cases h; exact .base .non
  | bl b => cases r; cases h; exact .base (.bl b)
  | int b => cases r; cases h; exact .base (.int b)
  | str b => cases r; cases h; exact .base (.str b)
  | tup ds =>
    cases h
    obtain ⟨p, ys, rfl, sq, rs⟩ : ∃ p ys, x = V.ref p ∧ SqT K H p ys ∧ RDs K H ds ys := r
    rcases sqT_split sq with e | ⟨o, e⟩ | ⟨o, its, m, e, c, _⟩
    · exact .base (.tup e)
    · exact .fTuple e
    · exact .kTuple e c
  | rol ds =>
    cases h
    obtain ⟨p, ys, rfl, sq, rs⟩ : ∃ p ys, x = V.ref p ∧ SqR K H p ys ∧ RDs K H ds ys := r
    rcases sq with ⟨o, e⟩ | ⟨its, m, e, _⟩
    · exact .base (.frz e)
    · exact .kList e rfl
  | ref a =>
    cases r
    revert h
    show (match S a with | some (.lst _) => some "list" | some (.dK _) => some "dict" | _ => none) = some n → _
    split
    · rename_i xs ea
      obtain ⟨ys, e0, _⟩ : ∃ ys, H a = some (.lst ys) ∧ RDs K H xs ys := rep a _ ea
      intro h
      cases h
      exact .base (.lst e0)
    · rename_i xs ea
      obtain ⟨ys, e0, _⟩ : ∃ ys, H a = some (.dK ys) ∧ RKs K H xs ys := rep a _ ea
      intro h
      cases h
      exact .base (.dK e0)
    · intro h
      cases h
theorem kit_tab : (["NoneType", "bool", "int", "str", "tuple", "list", "dict"].all fun a => ["bool", "int", "str", "tuple", "list", "dict"].all fun b => decide (kitB a b = some (isiB a b))) = true := by decide +kernel
theorem tyName_mem {d : D} {S : DH} {n : String} (h : tyName d S = some n) : n ∈ ["NoneType", "bool", "int", "str", "tuple", "list", "dict"] := by
  cases d with
  | ref a =>
    revert h
    show (match S a with | some (.lst _) => some "list" | some (.dK _) => some "dict" | _ => none) = some n → _
    split <;> intro h <;> cases h <;> decide
  | _ => cases h; decide
@[simp] def dIsi (T : String) (te : DTE) : DTE := fun E τ S Q => te E τ S fun d S1 => opt (tyName d S1) fun n => Q (.bl (isiB n T)) S1
theorem de_isi {x : Str} (hT : T ∈ ["bool", "int", "str", "tuple", "list", "dict"]) (h : DE X e te) (hg : Gl X "isinstance") (hm : X.mg "isinstance" = none) (hgT : Gl X x) (hmT : X.mg x = none) (hvT : bootBuiltins x = some (.type T))
    (hn : x ≠ "__name__" := by decide) (hdb : (x == ("__debug__" : Str)) = false := by decide)
    (he : starEach (e :: [.Name x p2]) X.env = (false, eval e X.env) :: starEach [.Name x p2] X.env := by rfl) (he2 : starEach (.Name x p2 :: []) X.env = (false, eval (.Name x p2) X.env) :: starEach [] X.env := by rfl) (hpl : (backTo pos (starEach [.Name x p2] X.env)).any (·.1) = false := by rfl) :
    DE X (.Call (.Name "isinstance" p) [e, .Name x p2] [] pos) (dIsi T te) := by
  refine ⟨fun E E' τ S Q Q' hE k q => h.mono _ _ _ _ _ _ hE (fun d S1 z => opt_mono (fun _ z => k _ _ z) z) q,
    pE_imp (pe_callB call_isi hg hm PyProof.Rows.boot_isinstance (pa_cons h.run (pa_cons (pe_bltn (v := .ty T) hgT hmT hvT rfl hn hdb) pa_nil he2) he) (by decide) (by decide) he hpl) fun σ H Q ⟨E, τ, S, w, r, q⟩ => ?_⟩
  refine h.to w r q fun d S1 x H1 le w1 r1 rd z => ?_
  obtain ⟨n, en, z⟩ := opt_ex z
  have hk : kitB n T = some (isiB n T) := of_decide_eq_true (List.all_eq_true.mp (List.all_eq_true.mp kit_tab n (tyName_mem en)) T hT)
  exact ⟨x, .ty T, .type n, .type T, isiB n T, rfl, .ty T, tyName_x r1.rep rd en, kit_ty hk, z _ H1 le r1.rep rfl⟩
theorem de_gstr {x z : Str} {t : Tok} (hg : Gl X x) (hm : X.mg x = some (.str z t)) (hdb : (x == ("__debug__" : Str)) = false := by decide) : DE X (.Name x pos) (dC (.str z)) := de_c (pe_glob (v := .str z) hg hm ⟨t, rfl⟩ hdb) fun _ => rfl
theorem de_gint {x : Str} {z : Int} {t : Tok} (hg : Gl X x) (hm : X.mg x = some (.int z t)) (hdb : (x == ("__debug__" : Str)) = false := by decide) : DE X (.Name x pos) (dC (.int z)) := de_c (pe_glob (v := .int z) hg hm ⟨t, rfl⟩ hdb) fun _ => rfl
/-- a < b < c -/
@[simp] def dChain (r r' : R2D) (ta tb tc : DTE) : DTE := fun E τ S Q => ta E τ S fun x S1 => tb E τ S1 fun y S2 => r x y S2 fun z S3 => match z with
  | .bl k => if k = true then tc E τ S3 fun u S4 => r' y u S4 Q else Q (.bl false) S3
  | _ => False
end
end Dt
set_option maxRecDepth 100000
set_option maxHeartbeats 4000000
/-! Dat7: *, chains. -/
namespace Dt
open PySem PySem.Spec L2

@[simp] def dMul : R2D := fun d e S Q => match d, e with
  | .int i, .int j => CMulW i j ∧ Q (.int (i * j)) S
  | .str x, .int n => MulOk x n ∧ Q (.str (Txt.mul x n)) S
  | .ref a, .int n => (match S a with | some (.lst xs) => (-(2 ^ 63) ≤ n ∧ n < 2 ^ 63 ∧ xs.length * n.toNat ≤ sizeLine) ∧ newO S (.lst (List.replicate n.toNat xs).flatten) fun p S' => Q (.ref p) S' | _ => False)
  | _, _ => False
theorem RDs.rep {K : PySem.W.Frag} {H : Hp} {ds : List D} {vs : List V} (r : RDs K H ds vs) : ∀ n : Nat, RDs K H (List.replicate n ds).flatten (List.replicate n vs).flatten
  | 0 => by simp [RDs]
  | n + 1 => by
    rw [List.replicate_succ, List.replicate_succ, List.flatten_cons, List.flatten_cons]
    exact r.append (RDs.rep r n)
section
variable {X : Cx}
theorem od_mul : OpD X (binaryOp .Mult) dMul := by
  refine ⟨fun x y S Q Q' k h => ?_, fun pins s σ H x y v u Q I rx ry ⟨d, e, S, rep, rd, re, h⟩ => ?_⟩
  · cases x <;> cases y <;> first | exact h.elim | exact ⟨h.1, k _ _ h.2⟩ | skip
    rename_i a n
    revert h
    show (match S a with | some (.lst xs) => _ | _ => False) → (match S a with | some (.lst xs) => _ | _ => False)
    split
    · exact fun h => ⟨h.1, fun p hp => k _ _ (h.2 p hp)⟩
    · exact fun h => h
  · cases d <;> cases e <;> first | exact h.elim | skip
    · cases rd; cases re
      exact op_mulW pins s σ H _ _ v u Q I rx ry ⟨_, _, rfl, rfl, h.1, h.2 _ H (LeH.refl H) rep rfl⟩
    · cases rd; cases re
      obtain ⟨t, rfl⟩ := rx
      obtain ⟨t2, rfl⟩ := ry
      exact PySem.SB.mul h.1 fun t' k => ⟨.str _, H, I.tok _, ⟨_, rfl⟩, h.2 _ H (LeH.refl H) rep rfl⟩
    · rename_i a n
      cases rd; cases re
      revert h
      show (match S a with | some (.lst xs) => _ | _ => False) → _
      split
      · rename_i xs ea
        intro h
        obtain ⟨ys, e0, rs⟩ : ∃ ys, H a = some (.lst ys) ∧ RDs X.K H xs ys := rep a _ ea
        exact op_rep pins s σ H _ _ v u Q I rx ry ⟨a, n, ys, rfl, rfl, e0, h.1.1, h.1.2.1, by rw [← rs.length]; exact h.1.2.2, fun p hp => rep_new (Q0 := fun _ _ => True) rep hp (rs.rep _) (h.2 p (rep.free hp))⟩
      · exact fun h => h.elim
variable {a b c : Expr} {ta tb tc : DTE} {r r' : R2D} {pos : Pos}
theorem dChain_mono (ha : DE X a ta) (hb : DE X b tb) (hc : DE X c tc) (m : Mono2 r) (m' : Mono2 r') (E E' : DW) (τ : DSt) (S : DH) (Q Q' : DK) (he : ∀ C fs τ S, E C fs τ S → E' C fs τ S) (k : ∀ d S', Q d S' → Q' d S') (q : dChain r r' ta tb tc E τ S Q) : dChain r r' ta tb tc E' τ S Q' :=
  ha.mono _ _ _ _ _ _ he (fun x S1 z => hb.mono _ _ _ _ _ _ he (fun y S2 z => m _ _ _ _ _ (fun d S3 z => by
    cases d with
    | bl kk =>
      cases kk with
      | true => exact hc.mono _ _ _ _ _ _ he (fun u S4 z => m' _ _ _ _ _ k z) z
      | false => exact k _ _ z
    | _ => exact z) z) z) q
theorem dChain_up (ha : DE X a ta) (hb : DE X b tb) (hc : DE X c tc) (m : Mono2 r) (m' : Mono2 r') {σ : L2.St} {H : Hp} {Q : VK} (h : upE X (dChain r r' ta tb tc) σ H Q) : tChain (upO X.w X.K r) (upO X.w X.K r') (upE X ta) (upE X tb) (upE X tc) σ H Q := by
  obtain ⟨E, τ, S, w, rl, q⟩ := h
  refine ha.to w rl q fun x S1 v H1 le1 w1 r1 rx q1 => hb.to w1 r1 q1 fun y S2 u H2 le2 w2 r2 ry q2 => ?_
  refine ⟨x, y, S2, r2.rep, rx.le le2, ry, m _ _ _ _ _ (fun d S3 z => fun v3 H3 le3 rp3 rd3 => ?_) q2⟩
  cases d with
  | bl kk =>
    refine ⟨kk, rd3, ?_⟩
    have r3 : Rel X.w X.K τ S3 σ H3 := r2.le le3 rp3
    cases kk with
    | false => exact z (.bl false) H3 (le1.trans (le2.trans le3)) rp3 rfl
    | true => exact hc.to (w2.le le3) r3 z fun e S4 v4 H4 le4 w4 r4 re q4 => ⟨y, e, S4, r4.rep, ry.le (le3.trans le4), re, m' _ _ _ _ _ (fun d S' y v H' le rp rd => y v H' (le1.trans (le2.trans (le3.trans (le4.trans le)))) rp rd) q4⟩
  | _ => exact z.elim
theorem de_chain {op op' : CmpOp} (ho : OpD X (compareOp op) r) (ho' : OpD X (compareOp op') r') (ha : DE X a ta) (hb : DE X b tb) (hc : DE X c tc) (hm : lastMarks [op, op'] [b, c] = false := by with_unfolding_all rfl) :
    DE X (.Compare a [op, op'] [b, c] pos) (dChain r r' ta tb tc) :=
  ⟨dChain_mono ha hb hc ho.mono ho'.mono, pE_imp (pe_chain ho.run ho'.run ha.run hb.run hc.run hm) fun _ _ _ h => dChain_up ha hb hc ho.mono ho'.mono h⟩
theorem dt_chain {op op' : CmpOp} (ho : OpD X (compareOp op) r) (ho' : OpD X (compareOp op') r') (ha : DE X a ta) (hb : DE X b tb) (hc : DE X c tc) (hm : lastMarks [op, op'] [b, c] = false := by with_unfolding_all rfl) :
    DT X (.Compare a [op, op'] [b, c] pos) (dTest (dChain r r' ta tb tc)) := by
  refine ⟨dTest_mono (de_chain ho ho' ha hb hc hm (pos := pos)), pT_imp (pt_chain ho.run ho'.run ha.run hb.run hc.run hm) fun σ H Q ⟨E, τ, S, w, rl, q⟩ => ?_⟩
  refine dChain_up ha hb hc ho.mono ho'.mono ⟨E, τ, S, w, rl, dChain_mono ha hb hc ho.mono ho'.mono _ _ _ _ _ _ (fun _ _ _ _ z => z) (fun d S' h v H' le rp rd => ?_) q⟩
  cases d with
  | bl b => exact ⟨b, rd, h H' le rp⟩
  | _ => exact h.elim
end
abbrev rSub : R2D := dII (fun _ _ => True) fun i j => .int (i - j)
abbrev rMod : R2D := dII (fun _ j => 0 < j) fun i j => .int (i % j)
abbrev rFdiv : R2D := dII CDivW fun i j => .int (i / j)
abbrev rPow : R2D := dII CPow fun i j => .int (i ^ j.toNat)
abbrev rLt : R2D := dII (fun _ _ => True) fun i j => .bl (decide (i < j))
abbrev rLe : R2D := dII (fun _ _ => True) fun i j => .bl (decide (i ≤ j))
abbrev rGt : R2D := dII (fun _ _ => True) fun i j => .bl (decide (j < i))
abbrev rGe : R2D := dII (fun _ _ => True) fun i j => .bl (decide (j ≤ i))
theorem hu_big {A : Around} {k : Nat} (hr : Room k A) : A.units + 120 < cLine := by
  have := hr.un
  omega
def SpMono (sp : DSp) : Prop := ∀ ds S (Q Q' : DK) (E E' : DXK), (∀ d S', Q d S' → Q' d S') → (∀ C fs S', E C fs S' → E' C fs S') → sp ds S Q E → sp ds S Q' E'
@[simp] def dNeg (te : DTE) : DTE := fun E τ S Q => te E τ S fun d S' => match d with | .int i => Q (.int (-i)) S' | _ => False
theorem de_neg {X : Cx} {e : Expr} {te : DTE} {pos : Pos} (h : DE X e te) : DE X (.UnaryOp .USub e pos) (dNeg te) := by
  refine ⟨fun E E' τ S Q Q' he k q => h.mono _ _ _ _ _ _ he (fun d S1 z => ?_) q, pE_imp (pe_un un_neg h.run) fun σ H Q ⟨E, τ, S, w, r, q⟩ => ?_⟩
  · cases d <;> first | exact z.elim | exact k _ _ z
  · refine h.to w r q fun d S' v H' le w' r' rd z => ?_
    cases d <;> first | exact z.elim | skip
    exact ⟨_, rd, z _ H' le r'.rep rfl⟩
end Dt
set_option maxRecDepth 100000
set_option maxHeartbeats 4000000
/-! Feed: the draws that each law has. -/
namespace Dt
open PySem PySem.Spec L2
theorem char_inj : ∀ (a b : List Char), a.map Char.toNat = b.map Char.toNat → a = b
  | [], [], _ => rfl
  | [], _ :: _, h => by simp at h
  | _ :: _, [], h => by simp at h
  | x :: a, y :: b, h => by
    simp only [List.map_cons, List.cons.injEq] at h
    rw [char_inj a b h.2]
    have : x = y := Char.ext (UInt32.toNat_inj.mp h.1)
    rw [this]
@[simp] theorem ofs_inj (a b : String) : (PySem.Str.ofString a = PySem.Str.ofString b) = (a = b) := by
  refine propext ⟨fun h => ?_, fun h => by rw [h]⟩
  rw [PySem.Str.ofString_eq_toList, PySem.Str.ofString_eq_toList] at h
  have h1 := congrArg (fun z : Str => z.cps.toList) h
  simp only at h1
  exact String.toList_inj.mp (char_inj _ _ (by simpa using h1))
@[simp] theorem line_le (n : Nat) : (n ≤ sizeLine) = (n ≤ 16777216) := by rw [sizeLine_eq]
@[simp] theorem line_lt (n : Nat) : (n < sizeLine) = (n < 16777216) := by rw [sizeLine_eq]
def Bd (a : Nat) (i : Int) : Prop := i.natAbs < 2 ^ a
theorem Bd.mono {a b : Nat} {i : Int} (h : Bd a i) (l : a ≤ b) : Bd b i := Nat.lt_of_lt_of_le h (Nat.pow_le_pow_right (by decide) l)
theorem Bd.add {a : Nat} {i j : Int} (h : Bd a i) (k : Bd a j) : Bd (a + 1) (i + j) := by
  unfold Bd at *
  have := Int.natAbs_add_le i j
  rw [Nat.pow_succ]
  omega
theorem Bd.mul {a b : Nat} {i j : Int} (h : Bd a i) (k : Bd b j) : Bd (a + b) (i * j) := wide_lt h k
theorem Bd.mod {a : Nat} {i j : Int} (hj : 0 < j) (k : Bd a j) : Bd a (i % j) := by
  unfold Bd at *
  have h1 := Int.emod_nonneg i (show j ≠ 0 by omega)
  have h2 := Int.emod_lt_of_pos i hj
  omega
theorem Bd.cm {a b : Nat} {i j : Int} (h : Bd a i) (k : Bd b j) (ha : 0 < a := by decide) (hb : 0 < b := by decide) (l : a + b ≤ 1000000 := by decide) : CMulW i j := wide_mul h k ha hb l
def Ext (S S' : DH) : Prop := ∀ b o, S b = some o → S' b = some o
theorem Ext.refl (S : DH) : Ext S S := fun _ _ h => h
theorem Ext.trans {S S1 S2 : DH} (a : Ext S S1) (b : Ext S1 S2) : Ext S S2 := fun x o h => b x o (a x o h)
theorem Ext.new {S : DH} {p : Addr} {o : Ob} (h : S p = none) : Ext S (upo S p o) := fun b u e => by
  rw [upo_ne (fun z => by subst z; rw [h] at e; cases e)]
  exact e
theorem Ext.put {S S1 : DH} {p : Addr} {o : Ob} (e : Ext S S1) (h : S p = none) : Ext S (upo S1 p o) := fun b u z => by
  rw [upo_ne (fun y => by subst y; rw [h] at z; cases z)]
  exact e b u z
theorem Ext.free {S S' : DH} (e : Ext S S') {p : Addr} (h : S' p = none) : S p = none := by
  cases q : S p with
  | none => rfl
  | some o => rw [e p o q] at h; cases h
/-- a feed after at most n draws -/
def FeedOb (n : Nat) (o : Ob) : Prop := ∃ l s d : Int, o = .dK [(.inr "left", .int l), (.inr "seed", .int s), (.inr "drawn", .int d)] ∧ 0 ≤ l ∧ 0 ≤ s ∧ s < 1000003 ∧ 0 ≤ d ∧ d ≤ n
theorem FeedOb.more {n m : Nat} {o : Ob} (h : FeedOb n o) (l : n ≤ m) : FeedOb m o := by
  obtain ⟨a, s, d, e, h1, h2, h3, h4, h5⟩ := h
  exact ⟨a, s, d, e, h1, h2, h3, h4, by omega⟩
def sp_l_next : DSp := fun ds S Q _ => ∃ (p : Addr) (m : Int) (n : Nat) (o : Ob), ds = [.ref p, .int m] ∧ 0 < m ∧ m < 2 ^ 100 ∧ S p = some o ∧ FeedOb n o ∧ n < 2 ^ 100 ∧
  ∀ v o', 0 ≤ v → v < m → FeedOb (n + 1) o' → Q (.int v) (upo S p o')
def cellZ (ns : List Int) (k : Nat) : Int := if k < ns.length then ns.getD k 0 else (if 0 < ns.length then ns.getD (k % ns.length) 0 else 0) % 1000003 * 48271 + 7919 * k + 1
def sp_l_cell_at : DSp := fun ds S Q _ => ∃ (ns : List Int) (k : Nat), ds = [.rol (ns.map D.int), .int k] ∧ k < 2 ^ 100 ∧ Q (.int (cellZ ns k)) S
theorem sp_l_cell_at_mono : SpMono sp_l_cell_at := fun ds S Q Q' E E' k _ ⟨ns, j, h1, h2, h⟩ => ⟨ns, j, h1, h2, k _ _ h⟩
def sp_l_feed : DSp := fun ds S Q _ => ∃ c : Int, ds = [.int c] ∧ ∀ p o, S p = none → FeedOb 0 o → Q (.ref p) (upo S p o)
end Dt
set_option maxRecDepth 100000
set_option maxHeartbeats 4000000
/-! Dat8: loops by invariants. -/
namespace Dt
open PySem PySem.Spec L2
theorem loop_go {g : DTG} {tb : DTS} {A : DEnds} {G : DH → Prop} (ds : List D) (I : Nat → DSt → DH → Prop) (hG : ∀ i τ S, i ≤ ds.length → I i τ S → G S)
    (hs : ∀ i d τ S (N : DSt → DH → Prop), ds[i]? = some d → I i τ S → (∀ τ' S', I (i + 1) τ' S' → N τ' S') → g d τ S fun τ1 S1 => tb { A with nx := N, ct := N, bk := A.nx } τ1 S1)
    (hd : ∀ τ S, I ds.length τ S → A.nx τ S) : ∀ (m i : Nat) (τ : DSt) (S : DH), i + m = ds.length → I i τ S → dLoop g tb A G (ds.drop i) τ S
  | 0, i, τ, S, e, h => by
    have e' : i = ds.length := by omega
    subst e'
    rw [List.drop_length]
    exact ⟨hG _ _ _ (Nat.le_refl _) h, hd _ _ h⟩
  | m + 1, i, τ, S, e, h => by
    have hi : i < ds.length := by omega
    have ed : ds[i]? = some ds[i] := List.getElem?_eq_getElem hi
    rw [drop_at ed]
    exact ⟨hG _ _ _ (by omega) h, hs i _ τ S _ ed h fun τ' S' h' => loop_go ds I hG hs hd m (i + 1) τ' S' (by omega) h'⟩
theorem loop_inv {g : DTG} {tb : DTS} {A : DEnds} {G : DH → Prop} {ds : List D} {τ : DSt} {S : DH} (I : Nat → DSt → DH → Prop) (h0 : I 0 τ S) (hG : ∀ i τ S, i ≤ ds.length → I i τ S → G S)
    (hs : ∀ i d τ S (N : DSt → DH → Prop), ds[i]? = some d → I i τ S → (∀ τ' S', I (i + 1) τ' S' → N τ' S') → g d τ S fun τ1 S1 => tb { A with nx := N, ct := N, bk := A.nx } τ1 S1)
    (hd : ∀ τ S, I ds.length τ S → A.nx τ S) : dLoop g tb A G ds τ S := by
  have := loop_go ds I hG hs hd ds.length 0 τ S (by omega) h0
  rwa [List.drop_zero] at this
theorem opt_at {α : Type} {xs : List α} {i : Int} {k : α → Prop} (h0 : 0 ≤ i) (h1 : i < xs.length) (h : ∀ d ∈ xs, k d) : opt (atI xs i) k := by
  obtain ⟨j, rfl⟩ := Int.eq_ofNat_of_zero_le h0
  have hj : j < xs.length := by omega
  rw [atI_nat (List.getElem?_eq_getElem hj)]
  exact h _ (List.getElem_mem hj)
theorem wh_go {c : DTT} {tb : DTS} {A : DEnds} (I : DSt → DH → Prop) (μ : DSt → DH → Nat)
    (hs : ∀ τ S (N : DSt → DH → Prop), I τ S → (∀ τ' S', I τ' S' → μ τ' S' < μ τ S → N τ' S') → c A.xe τ S fun b S' => if b = true then tb { A with nx := N, ct := N, bk := A.nx } τ S' else A.nx τ S') :
    ∀ (n : Nat) (τ : DSt) (S : DH), μ τ S < n → I τ S → dWh c tb A n τ S
  | 0, τ, S, h, _ => absurd h (Nat.not_lt_zero _)
  | n + 1, τ, S, h, hi => hs τ S _ hi fun τ' S' h' hl => wh_go I μ hs n τ' S' (by omega) h'
theorem while_inv {c : DTT} {tb : DTS} {A : DEnds} {τ : DSt} {S : DH} (I : DSt → DH → Prop) (μ : DSt → DH → Nat) (h0 : I τ S)
    (hs : ∀ τ S (N : DSt → DH → Prop), I τ S → (∀ τ' S', I τ' S' → μ τ' S' < μ τ S → N τ' S') → c A.xe τ S fun b S' => if b = true then tb { A with nx := N, ct := N, bk := A.nx } τ S' else A.nx τ S') : dWhile c tb A τ S :=
  ⟨_, wh_go I μ hs (μ τ S + 1) τ S (Nat.lt_succ_self _) h0⟩
/-! == of scalars -/
section
variable {S : DH} {Q : DK}
@[simp] theorem dEq_bl (n a b : Bool) : dEq n (.bl a) (.bl b) S Q = Q (.bl (if n then !(a == b) else a == b)) S := rfl
@[simp] theorem dEq_int (n : Bool) (a b : Int) : dEq n (.int a) (.int b) S Q = Q (.bl (if n then !(a == b) else a == b)) S := rfl
@[simp] theorem dEq_str (n : Bool) (a b : Str) : dEq n (.str a) (.str b) S Q = Q (.bl (if n then !(a == b) else a == b)) S := rfl
end
mutual
theorem Pd.ext {S S' : DH} (e : Ext S S') : ∀ (p : PyData) (d : D), Pd S d p → Pd S' d p
  | .none, _, h => by cases h; exact .non
  | .bool b, _, h => by cases h; exact .bl b
  | .int i, _, h => by cases h; exact .int i
  | .str x, _, h => by cases h; exact .str x
  | .tuple ps, _, h => by cases h with | tup hs => exact .tup (PdA.ext e ps _ hs)
  | .list ps, _, h => by
    cases h with
    | rol hs => exact .rol (PdA.ext e ps _ hs)
    | lst ea hs => exact .lst (e _ _ ea) (PdA.ext e ps _ hs)
  | .dict _, _, h => by cases h
theorem PdA.ext {S S' : DH} (e : Ext S S') : ∀ (ps : List PyData) (ds : List D), PdA S ds ps → PdA S' ds ps
  | [], _, h => by cases h; exact .nil
  | p :: ps, _, h => by cases h with | cons h1 h2 => exact .cons (Pd.ext e p _ h1) (PdA.ext e ps _ h2)
end
/-- what repr takes -/
def Shows (S : DH) (d : D) (p : PyData) : Prop := Pd S d p ∧ p.showable = true ∧ p.depth ≤ 100 ∧ p.shown.length ≤ sizeLine
theorem Shows.ext {S S' : DH} {d : D} {p : PyData} (e : Ext S S') (h : Shows S d p) : Shows S' d p := ⟨h.1.ext e p d, h.2⟩
end Dt
set_option maxRecDepth 100000
set_option maxHeartbeats 4000000
/-! Dat9: the law's own head, from a def's promise over data. -/
namespace Dt
open PySem PySem.Spec L2 PySem.W PyProof.Rows
theorem rds_ints {K : PySem.W.Frag} {H : Hp} : ∀ ns : List Int, RDs K H (ns.map D.int) (ns.map V.int)
  | [] => .nil
  | i :: r => .cons rfl (rds_ints r)
section
variable {P : Program} {w : World} {K : PySem.W.Frag} {mg mb : Str → Option Value} {k : Nat} {fa a : Addr} {fd : FuncData} {x : Str} {sp : DSp} {s : Shared} {ns : List Int}
/-- what the ground of the law's call holds -/
structure Grd (K : PySem.W.Frag) (mg mb : Str → Option Value) (s : Shared) : Prop where
  kin : K.In s.heap
  glob : s.heap.Ns mainGlobals mg
  blt : s.heap.Ns builtinsNs mb
  bbs : ∀ x : Str, x ≠ "__name__" → mb x = bootBuiltins x
  lim : s.heap.NoLimit
  gens : s.gens = #[]
theorem head_run (G : Grd K mg mb s) (hr : Room k callerA) (F : ∀ base : Heap, K.In base → base.Ns mainGlobals mg → DFn P w K mg base k fa fd [x] sp) (hb : ∀ (s : Shared) (u : Value), BindsTo s fd ⟨[u], []⟩ [(x, u)])
    (hsp : ∀ S, sp [.rol (ns.map D.int)] S (fun d _ => d = .bl true) fun _ _ _ => False) {H : Hp} (hH : ∀ b u, H b = some u → K.lookup b = none ∧ (∃ o, u = .frz o (.lst (ns.map V.int))) ∧ ∃ o its n, s.heap.get? b = some o ∧ o.data = .seq its n) (hok : HOk P w H s.heap) (hS : SqR K H a (ns.map V.int)) :
    codeAny (model P w) callerA (.call (.ref fa) ⟨[.ref a], []⟩) (fun r s' => r = .ok (.ret (.bool true)) ∧ OldK s.heap s'.heap ∧ s'.os = s.os ∧ AllBare s'.gens) s := by
  have up : ∀ {b : Addr} {o : Obj}, s.heap.get? b = some o → (∀ its n, o.data ≠ .seq its n) → (hidT s.heap H).get? b = some o := fun {b o} e nd => hidT_get e (by
    cases q : H b with
    | none => rfl
    | some u =>
      obtain ⟨_, _, o', its, n, e', d'⟩ := hH b u q
      cases e.symm.trans e'
      exact absurd d' (nd its n))
  have upNs : ∀ {b : Addr} {m : Str → Option Value}, s.heap.Ns b m → (hidT s.heap H).Ns b m := fun {b m} ⟨o, es, ep, e, d, r⟩ => ⟨o, es, ep, up e (fun its n z => by cases d.symm.trans z), d, r⟩
  have kin : K.In (hidT s.heap H) := fun b o e => hidT_get (G.kin b o e) (by
    cases q : H b with
    | none => rfl
    | some u => cases (hH b u q).1.symm.trans e)
  obtain ⟨mc, c1, c2⟩ := G.lim
  have env : Env0 P w K mg (hidT s.heap H) callerA [] s H :=
    ⟨rfl, ⟨kin, upNs G.glob, ⟨mb, upNs G.blt, G.bbs⟩, ⟨mc, upNs c1, c2⟩⟩, fun _ _ e => of_hidT e, by rw [hidT_size]; exact Nat.le_refl _, trivial, fun _ z => (nomatch z), hok, .of_eq G.gens⟩
  refine codeAny_mono ((F _ kin (upNs G.glob)).run callerA [] s H ⟨[.ref a], []⟩ [.ref a] [.ref a] (fun v _ => v = .bl true) (fun _ _ _ => False) hr rfl env (hb s (.ref a)) (.cons rfl .nil)
    ⟨[.rol (ns.map D.int)], fun _ => none, (fun _ _ z => nomatch z), RDs.cons ⟨a, _, rfl, hS, rds_ints ns⟩ .nil, (F _ kin (upNs G.glob)).mono _ _ _ _ _ _ (fun d S' e v H' _ _ r => ?_) (fun _ _ _ z => z.elim) (hsp _)⟩) fun r s' h => ?_
  · subst e
    exact r
  · match r, h with
    | .error e, ⟨_, _, _, _, _, _, _, _, _, _, _, _, z⟩ => exact z.elim
    | .ok (.ret u), ⟨v, H', os, bare, un, hok', rv, e⟩ =>
      cases e
      cases (show u = Value.bool true from rv)
      refine ⟨rfl, OldK.of_keep fun b o e => ?_, os, bare⟩
      cases q : H b with
      | none => exact un.keep b o e q (fun z => nomatch z) (fun z => nomatch z)
      | some u =>
        obtain ⟨_, ⟨ob, rfl⟩, _⟩ := hH b u q
        have e1 := (hok b _ q).1
        have e2 := (hok' b _ (un.frzs b ob _ q)).1
        cases e.symm.trans e1
        exact e2
/-- the same for the script as it is handed in -/
theorem head_call {vs : List Value} (G : Grd K mg mb s) (hr : Room k callerA) (F : ∀ base : Heap, K.In base → base.Ns mainGlobals mg → DFn P w K mg base k fa fd [x] sp) (hb : ∀ (s : Shared) (u : Value), BindsTo s fd ⟨[u], []⟩ [(x, u)])
    (hsp : ∀ S, sp [.rol (ns.map D.int)] S (fun d _ => d = .bl true) fun _ _ _ => False) (ha : s.heap.get? a = some { cls := .type "list", data := .seq vs.toArray }) (hi : IntsAre vs ns) (hl : ns.length ≤ sizeLine) :
    codeAny (model P w) callerA (.call (.ref fa) ⟨[.ref a], []⟩) (fun r s' => r = .ok (.ret (.bool true)) ∧ OldK s.heap s'.heap ∧ s'.os = s.os ∧ AllBare s'.gens) s := by
  have rv := vals_ints hi
  cases hk : K.lookup a with
  | some o =>
    have e := G.kin a o hk
    cases ha.symm.trans e
    refine head_run (H := fun _ => none) G hr F hb hsp (fun _ _ z => nomatch z) (fun _ _ z => nomatch z) (.inr ⟨vs.toArray, _, hk, ?_, rv⟩)
    rw [List.size_toArray, hi.length]
    exact hl
  | none =>
    refine head_run (H := upd (fun _ => none) a (.frz { cls := .type "list", data := .seq vs.toArray } (.lst (ns.map V.int)))) G hr F hb hsp (fun b u z => ?_) (fun b u z => ?_) (.inl ⟨_, upd_same⟩)
    all_goals
      by_cases hba : b = a
      · subst hba
        rw [upd_same] at z
        cases z
        first
          | exact ⟨hk, ⟨_, rfl⟩, _, vs.toArray, _, ha, rfl⟩
          | exact ⟨ha, by rw [List.length_map]; exact hl, vs, _, rv, ha⟩
      · rw [upd_ne hba] at z
        cases z
end
/-- the goal that k_head leaves, from the promise of the law's def -/
theorem dwalk {l : OpenLaw} {n k : Nat} {q : Program} {loose : List Str} {XP : (Str → Option Value) → Heap → Prop} {YP : World → Heap → Prop} {d : DefRec} {K : Params → PySem.W.Frag} {sp : DSp} {x : Str} (hn : l.most = some n) (hn2 : n ≤ sizeLine) (hdf : d.params.defaults = []) (hr : Room k callerA) (hY : ∀ (w : World) (h : Heap), YP w h → (K w.params).In h)
    (F : ∀ (w : World) (mg : Str → Option Value) (fa : Addr) (h : Heap), (K w.params).In h → h.Ns mainGlobals mg → mg d.name = some (.ref fa) →
      ∃ fd : FuncData, (∀ (s : Shared) (u : Value), BindsTo s fd ⟨[u], []⟩ [(x, u)]) ∧ ∀ base : Heap, (K w.params).In base → base.Ns mainGlobals mg → DFn l.prog w (K w.params) mg base k fa fd [x] sp)
    (hsp : ∀ (ns : List Int) S, ns.length ≤ n → sp [.rol (ns.map D.int)] S (fun d _ => d = .bl true) fun _ _ _ => False) : WalkO q loose XP YP l.row.toRowW d [] (fun f vs => PySem.call f vs) := by
  refine Att.attach_call hn hdf fun w _ s₁ mg mb fa _ _ _ _ a vs ns G Y _ _ _ hmg hobj hints hlen hg => ?_
  have KX := hY w _ Y
  obtain ⟨fd, hb, hF⟩ := F w mg fa _ KX G.T.g hmg
  exact head_call (ns := ns) ⟨KX, G.T.g, G.T.b, G.T.builtins, G.T.nolimit, hg⟩ hr hF hb (fun S => hsp ns S hlen) hobj hints (Nat.le_trans hlen hn2)
end Dt
set_option maxRecDepth 100000
set_option maxHeartbeats 4000000
/-! DatS: set(list) of ints and texts. -/
namespace Dt
open PySem PySem.Spec PySem.W L2 PyProof.Rows
/-- a set's row stands for a key -/
def RowK (w : World) (e : Int × Value) (k : Key) : Prop := keyIs k e.2 = true ∧ e.1 = keyH w k
theorem key_scans {k : Key} {v : Value} (h : keyIs k v = true) : v.scannable = true := by
  rcases keyIs_shape h with ⟨i, t, rfl, rfl⟩ | ⟨x, t, rfl, rfl⟩ <;> rfl
/-- the set at a: its keys, each once, in some order of the table's rows; the table may be walked -/
def SetKs (w : World) (h : Heap) (a : Addr) (ks : List Key) : Prop :=
  ∃ (o : Obj) (es : Array (Int × Value)) (ep : Nat) (t : SetTable) (l : List (Int × Value)), h.get? a = some o ∧ o.ExactSet ∧ o.data = .set es ep t ∧ es.toList.Perm l ∧ EachIs (RowK w) l ks ∧ ks.Nodup ∧
    es.size < scanBound ∧ t.fits es.size = true ∧ Ris t.place.toList ∧ (w.params.followText "set-order" = true ∨ t.led = true)
section
variable {P : Program} {w : World} {A : Around} {E : Value → Shared → Prop} {s : Shared} {a : Addr} {ks : List Key}
theorem each_right {α β : Type} {R : α → β → Prop} : ∀ {l : List α} {ks : List β}, EachIs R l ks → ∀ e ∈ l, ∃ k ∈ ks, R e k
  | _, _, .nil, _, h => nomatch h
  | _, _, .cons x t, e, h => by
    rcases List.mem_cons.mp h with rfl | z
    · exact ⟨_, List.mem_cons_self .., x⟩
    · obtain ⟨k, hk, r⟩ := each_right t e z
      exact ⟨k, List.mem_cons_of_mem _ hk, r⟩
theorem each_left {α β : Type} {R : α → β → Prop} : ∀ {l : List α} {ks : List β}, EachIs R l ks → ∀ k ∈ ks, ∃ e ∈ l, R e k
  | _, _, .nil, _, h => nomatch h
  | _, _, .cons x t, k, h => by
    rcases List.mem_cons.mp h with rfl | z
    · exact ⟨_, List.mem_cons_self .., x⟩
    · obtain ⟨e, he, r⟩ := each_left t k z
      exact ⟨e, List.mem_cons_of_mem _ he, r⟩
theorem each_get {α β : Type} {R : α → β → Prop} : ∀ {l : List α} {ks : List β} {i : Nat} {v : α}, EachIs R l ks → l[i]? = some v → ∃ k, ks[i]? = some k ∧ R v k
  | _, _, _, _, .nil, h => by cases h
  | _, _, 0, _, .cons x _, h => by cases h; exact ⟨_, rfl, x⟩
  | _, _, i + 1, _, .cons _ t, h => each_get (i := i) t h
theorem each_snoc {α β : Type} {R : α → β → Prop} {x : α} {y : β} (h : R x y) : ∀ {l : List α} {ks : List β}, EachIs R l ks → EachIs R (l ++ [x]) (ks ++ [y])
  | _, _, .nil => .cons h .nil
  | _, _, .cons a t => .cons a (each_snoc h t)
theorem rows_elems {es : Array (Int × Value)} {l : List (Int × Value)} (p : es.toList.Perm l) (r : EachIs (RowK w) l ks) : ElemsOf (mixKind P w) es.toList := fun e he => by
  obtain ⟨k, _, h1, h2⟩ := each_right r e (p.mem_iff.mp he)
  exact ⟨⟨k, h1, h2⟩, key_scans h1⟩
theorem SetKs.len {h : Heap} (R : SetKs w h a ks) : ks.length < scanBound := by
  obtain ⟨o, es, ep, t, l, _, _, _, p, r, _, hb, _⟩ := R
  rw [← r.length, ← p.length_eq, Array.length_toList]
  exact hb
theorem SetKs.at {h h' : Heap} (R : SetKs w h a ks) (k : ∀ o, h.get? a = some o → h'.get? a = some o) : SetKs w h' a ks := by
  obtain ⟨o, es, ep, t, l, ho, r⟩ := R
  exact ⟨o, es, ep, t, l, k o ho, r⟩
/-- the rows laid down, and the table laid anew where it is too full -/
theorem ks_lay {g : Bool → Sem Unit} (hg : ∀ (b : Bool) (s₁ : Shared) (Q' : Unit → Shared → Prop), Q' () s₁ → wpAny (model P w) A (g b) Q' E s₁) {o : Obj} {es es1 : Array (Int × Value)} {ep : Nat} {t t2 : SetTable} {l : List (Int × Value)} {wasDummy : Bool} {R : Option Bool → Shared → Prop}
    (ho : s.heap.get? a = some o) (hex : o.ExactSet) (hd : o.data = .set es ep t) (p : es1.toList.Perm l) (r : EachIs (RowK w) l ks) (nd : ks.Nodup) (hb : es1.size < scanBound) (hf : t2.fits es1.size = true) (hr : Ris t2.place.toList) (hl : w.params.followText "set-order" = true ∨ t2.led = true)
    (hR : ∀ h', Heap.SameBut a s.heap h' → SetKs w h' a ks → R (some true) { s with heap := h' }) :
    wpAny (model P w) A (do
        storeSet a es1 t2
        if (!wasDummy && t2.tooFull) = true then do
            g (relayAll t2 es1 (SetTable.grown es1.size)).2.2
            storeSet a (relayAll t2 es1 (SetTable.grown es1.size)).1 (relayAll t2 es1 (SetTable.grown es1.size)).2.1
            pure (some true)
          else pure (some true)) R E s := by
  refine wpAny_bind (wpAny_storeSet_of ho hd ?_ (fits_of_scanBound hb))
  have ho1 := store_at (es' := es1) (t' := t2) ho hd
  have sb := Heap.SameBut.update s.heap a (Obj.putSet es1 t2)
  split
  · have q1 := relayAll_perm t2 es1 (SetTable.grown es1.size)
    have q2 := relayAll_fits t2 es1 (SetTable.grown es1.size)
    have q3 := relayAll_ris t2 es1 (SetTable.grown es1.size)
    have q4 := relayAll_led t2 es1 (SetTable.grown es1.size)
    generalize relayAll t2 es1 (SetTable.grown es1.size) = Z at q1 q2 q3 q4 ⊢
    obtain ⟨es2, t3, gave⟩ := Z
    dsimp only at q1 q2 q3 q4 ⊢
    have hb2 : es2.size < scanBound := by
      rw [← Array.length_toList, q1.length_eq, Array.length_toList]
      exact hb
    refine wpAny_bind (hg _ _ _ ?_)
    refine wpAny_bind (wpAny_storeSet_of ho1 rfl ?_ (fits_of_scanBound hb2))
    refine wpAny_pure (hR _ (sb.trans (Heap.SameBut.update _ a _)) ⟨_, es2, _, t3, l, store_at (es' := es2) (t' := t3) ho1 rfl, hex, rfl, q1.trans p, r, nd, hb2, q2, q3, ?_⟩)
    rcases hl with z | z
    · exact .inl z
    · exact .inr (q4.trans z)
  · exact wpAny_pure (hR _ sb ⟨_, es1, _, t2, l, ho1, hex, rfl, p, r, nd, hb, hf, hr, hl⟩)
/-- a key more, where it is not there -/
def addK (ks : List Key) (k : Key) : List Key := if (ks.any fun j => decide (j = k)) = true then ks else ks ++ [k]
theorem any_key {ks : List Key} {k : Key} : (ks.any fun j => decide (j = k)) = true ↔ k ∈ ks := by
  rw [List.any_eq_true]
  exact ⟨fun ⟨j, hj, e⟩ => of_decide_eq_true e ▸ hj, fun h => ⟨k, h, decide_eq_true rfl⟩⟩
theorem ks_add {k : Key} {v : Value} {Q : Bool → Shared → Prop} (hv : keyIs k v = true) (R : SetKs w s.heap a ks) (room : ks.length + 1 < scanBound) (hQ : ∀ b h', Heap.SameBut a s.heap h' → SetKs w h' a (addK ks k) → Q b { s with heap := h' }) :
    wpAny (model P w) A (setAddHashed a v (keyH w k)) Q E s := by
  obtain ⟨o, es, ep, t, l, ho, hex, hd, p, r, nd, hb, hf, hr, hl⟩ := R
  have hsc := key_scans hv
  have hel : ElemsOf (mixKind P w) es.toList := rows_elems p r
  unfold setAddHashed setAddHashedIn
  refine wpAny_holding (wpAny_bind (wpAny_setState_of ho hd hf ?_))
  dsimp only
  rw [byScan_of hsc hb hel]
  simp only [↓reduceIte]
  unfold setAddByScan
  refine wpAny_bind (wpAny_bind (wpAny_rule (wpAny_bind (wpAny_setScan_of (knd := mixKind P w) (k := k) hv ho hd hf hel ?_))))
  cases hfi : List.findIdx? (fun e => (mixKind P w).is k e.2) es.toList with
  | some j =>
    dsimp only
    obtain ⟨hj, pj, _⟩ := List.findIdx?_eq_some_iff_getElem.mp hfi
    obtain ⟨k2, hk2, r1, _⟩ := each_right r _ (p.mem_iff.mp (List.getElem_mem hj))
    have ek : k = k2 := (mixKind P w).inj _ _ _ pj r1
    have e : addK ks k = ks := if_pos (any_key.mpr (ek ▸ hk2))
    exact wpAny_pure (wpAny_pure (hQ false s.heap (Heap.SameBut.refl a s.heap) (by rw [e]; exact ⟨o, es, ep, t, l, ho, hex, hd, p, r, nd, hb, hf, hr, hl⟩)))
  | none =>
    dsimp only
    have hnk : k ∉ ks := fun z => by
      obtain ⟨e, he, q, _⟩ := each_left r k z
      have c := List.findIdx?_eq_none_iff.mp hfi e (p.mem_iff.mpr he)
      have q' : (mixKind P w).is k e.2 = true := q
      rw [q'] at c
      cases c
    have e : addK ks k = ks ++ [k] := if_neg fun z => hnk (any_key.mp z)
    rw [e] at hQ
    have hgw : ∀ (b : Bool) {s₁ : Shared} {Q' : Unit → Shared → Prop}, Q' () s₁ → wpAny (model P w) A (match b with | true => rule "set.scan.the-table-gave-way" | false => pure ()) Q' E s₁ := fun b s₁ Q' q => by
      cases b
      · exact wpAny_pure q
      · exact wpAny_rule q
    have q1 := layNew_perm t es (keyH w k) v
    have q2 := layNew_fits t es (keyH w k) v
    have q3 := layNew_ris t es (keyH w k) v hr
    have q4 := layNew_led t es (keyH w k) v
    generalize layNew t es (keyH w k) v = Z at q1 q2 q3 q4 ⊢
    obtain ⟨es1, t1, wasDummy, gave⟩ := Z
    dsimp only at q1 q2 q3 q4 ⊢
    rw [Array.toList_push] at q1
    have p1 : es1.toList.Perm (l ++ [(keyH w k, v)]) := q1.trans (p.append_right _)
    have r1 : EachIs (RowK w) (l ++ [(keyH w k, v)]) (ks ++ [k]) := each_snoc ⟨hv, rfl⟩ r
    have nd1 : (ks ++ [k]).Nodup := List.nodup_append.mpr ⟨nd, List.nodup_cons.mpr ⟨List.not_mem_nil, List.nodup_nil⟩, fun x hx y hy z => hnk (by rw [← List.mem_singleton.mp hy, ← z]; exact hx)⟩
    have hb1 : es1.size < scanBound := by
      rw [← Array.length_toList, p1.length_eq, r1.length, List.length_append]
      exact room
    have hled : w.params.followText "set-order" = true ∨ t1.led = true := hl.imp id fun z => q4.trans z
    refine wpAny_bind (hgw _ ?_)
    split
    · refine wpAny_bind ?_
      rw [hashByValue_scannable 8 hsc]
      refine wpAny_pure (ks_lay ?_ ho hex hd p1 r1 nd1 hb1 ?_ ?_ ?_ fun h' sb z => wpAny_pure (hQ true h' sb z))
      · exact fun b s₁ Q' q => hgw b q
      · first | exact q2 | (split <;> first | exact q2 | exact SetTable.fits_plain_off q2)
      · first | exact q3 | (split <;> exact q3)
      · first | exact hled | (split <;> exact hled)
    · refine wpAny_bind (wpAny_pure ?_)
      simp only [↓reduceIte]
      exact ks_lay (fun b s₁ Q' q => hgw b q) ho hex hd p1 r1 nd1 hb1 q2 q3 hled fun h' sb z => wpAny_pure (hQ true h' sb z)
/-- the keys, each at its first place -/
def firstK (ks : List Key) : List Key := ks.foldl addK []
theorem firstK_snoc (ks : List Key) (k : Key) : firstK (ks ++ [k]) = addK (firstK ks) k := by
  unfold firstK
  rw [List.foldl_append]
  rfl
theorem firstK_take {ks : List Key} {i : Nat} {k : Key} (h : ks[i]? = some k) : firstK (ks.take (i + 1)) = addK (firstK (ks.take i)) k := by
  rw [List.take_succ, h, ← firstK_snoc]
  rfl
theorem addK_len (ks : List Key) (k : Key) : (addK ks k).length ≤ ks.length + 1 := by
  unfold addK
  split
  · omega
  · simp
theorem foldK_len : ∀ (ks acc : List Key), (ks.foldl addK acc).length ≤ acc.length + ks.length
  | [], _ => Nat.le_refl _
  | k :: ks, acc => by
    have h1 := foldK_len ks (addK acc k)
    have h2 := addK_len acc k
    simp only [List.foldl_cons, List.length_cons]
    omega
theorem firstK_len (ks : List Key) : (firstK ks).length ≤ ks.length := by
  have := foldK_len ks []
  unfold firstK
  simpa using this
/-- the loop that fills a set -/
theorem ks_loop {I : Addr} {fp wr : List Addr} {G : Array GenState → Array GenState → Prop} {n : Nat} {Pv : Nat → Value → Prop} {St : Nat → Shared → Prop} {R : Result → Shared → Prop} {B : Addr} {all : List Key}
    (W : WalksS P w A.in1 I fp wr G n Pv St) (hB : B ∉ fp) (hn : n = all.length) (hv : ∀ i v, Pv i v → ∃ k, all[i]? = some k ∧ keyIs k v = true) (hb : n + 1 < scanBound)
    (hR : ∀ s' s0, Moved (B :: wr) G s0 s' → SetKs w s'.heap B (firstK all) → s0 = s → R (.ok (.ret .none)) s') :
    ∀ (m i : Nat) (s1 : Shared), n - i = m → i ≤ n → St i s1 → SetKs w s1.heap B (firstK (all.take i)) → (∀ s', Moved (B :: wr) G s1 s' → Moved (B :: wr) G s s') → codeAny (model P w) A (.builtin "set.update.loop" ⟨[.ref B, .ref I], []⟩) R s1 := by
  have hBw : B ∉ wr := fun h => hB (W.sub _ h)
  have more : ∀ b ∈ wr, b ∈ B :: wr := fun b hb => List.mem_cons_of_mem _ hb
  intro m
  induction m with
  | zero =>
    intro i s1 hm hi hst hS mv
    have hin : i = n := by omega
    subst hin
    (refine codeAny_builtin F.entry_set_update_loop ?_; rw [Around.under_plainId F.plain_set_update_loop _])
    refine (show wpAny _ A.in1 (pyNext (.ref I) >>= _) _ _ s1 from wpAny_bind (W.done s1 _ _ hst fun s' hm => wpAny_pure (hR s' s (mv s' (hm.mono more)) ?_ rfl)))
    rw [show all.take i = all from List.take_of_length_le (by omega)] at hS
    exact hS.at fun o e => hm.heap B o hBw e
  | succ m ih =>
    intro i s1 hm hi hst hS mv
    have hlt : i < n := by omega
    (refine codeAny_builtin F.entry_set_update_loop ?_; rw [Around.under_plainId F.plain_set_update_loop _])
    refine (show wpAny _ A.in1 (pyNext (.ref I) >>= _) _ _ s1 from wpAny_bind (W.item i s1 _ _ hlt hst fun v s' hP hst' hm => ?_))
    obtain ⟨k, hk, hkv⟩ := hv i v hP
    have hS' : SetKs w s'.heap B (firstK (all.take i)) := hS.at fun o e => hm.heap B o hBw e
    refine (show wpAny _ A.in1 (holding [v] (setAdd B v) >>= _) _ _ s' from wpAny_bind (wpAny_holding ?_))
    unfold setAdd
    refine wpAny_holding (wpAny_bind ((mixKind P w).pyHash (k := k) hkv ?_))
    have room : (firstK (all.take i)).length + 1 < scanBound := by
      have := firstK_len (all.take i)
      rw [List.length_take] at this
      omega
    refine ks_add (s := { s' with toks := s'.toks + 1 }) hkv hS' room fun b h' sb hS2 => ?_
    rw [← firstK_take hk] at hS2
    refine wpAny_pure ⟨plainId_quiet F.plain_set_update_loop _, ih (i + 1) _ (by omega) hlt (W.frame _ s' _ _ hst' (Nat.le_succ _) fun c hc o e => ?_) hS2 fun s'' hm'' => mv s'' (Moved.trans W.gtrans ((hm.mono more).then_heap (Nat.le_succ _) fun c o hc e => ?_) hm'')⟩
    · exact (sb.2 c (fun z : c = B => hB (by rw [← z]; exact hc))).trans e
    · exact (sb.2 c (fun z : c = B => hc (by rw [z]; exact List.mem_cons_self))).trans e
theorem ks_none {h : Heap} {a : Addr} (ho : h.get? a = some { cls := .type "set", dict := none, data := .set #[] 0 (.fresh 0 0 (!w.params.followText "set-order")) }) : SetKs w h a [] := by
  refine ⟨_, #[], 0, _, [], ho, ⟨rfl, rfl, rfl⟩, rfl, List.Perm.nil, .nil, List.nodup_nil, by decide, rfl, List.Pairwise.nil, ?_⟩
  cases e : w.params.followText "set-order"
  · exact .inr rfl
  · exact .inl rfl
abbrev newSet (w : World) : Obj := { cls := .type "set", dict := none, data := .set #[] 0 (.fresh 0 0 (!w.params.followText "set-order")) }
set_option maxHeartbeats 8000000 in
/-- set(xs): ints and texts -/
theorem call_ks {l : Addr} {items : Array Value} {all : List Key} {Q : Value → Shared → Prop} (hh : A.handled = none) (hl : s.heap.IsList l items) (hit : EachIs (fun v k => keyIs k v = true) items.toList all) (hb : all.length + 1 < scanBound)
    (h : ∀ (h' : Heap) (tk : Nat), SetKs w h' s.heap.objs.size (firstK all) → (∀ b o, b < s.heap.objs.size → s.heap.get? b = some o → h'.get? b = some o) → Q (.ref s.heap.objs.size) { s with heap := h', toks := tk }) :
    wpAny (model P w) A (call (.type "set") [.ref l]) Q E s := by
  have hn : items.size = all.length := by rw [← Array.length_toList, hit.length]
  obtain ⟨c, tl, hmro⟩ := F.called_set.mro
  have hmade := F.called_set.made; have hsub := F.called_set.sub
  refine wpAny_call (codeAny_of_tree (show wpAny _ _ (callAny (.type "set") _) _ _ _ from wpAny_pure ⟨Code.quiet_builtin _ (by decide +kernel), codeAny_builtin F.entry_type_call ?_⟩))
  rw [Around.under_plain (weight_type_call_type "set" [.ref l] []) rfl]
  have h1 := F.called_set.notType; have h2 := F.called_set.canCreate; have hct := F.typeCall_set_1 (.ref l)
  repeat (any_goals (first | assumption | wp_step))
  refine codeAny_mono (code_set_led1 (.ref l) (E := E) (Q₁ := fun obj s₁ => obj = .ref s.heap.objs.size ∧ s₁ = { s with heap := s.heap.push (newSet w) }) ⟨rfl, rfl⟩) fun r s₁ hr => ?_
  match r, hr with
  | .error e, hr => exact hr
  | .ok .next, hr => exact hr.elim
  | .ok .brk, hr => exact hr.elim
  | .ok .cont, hr => exact hr.elim
  | .ok (.ret obj), ⟨e1, e2⟩ =>
    subst e1; subst e2
    have hS : (s.heap.push (newSet w)).get? s.heap.objs.size = some (newSet w) := Heap.get?_push_size _ rfl
    have hT : Shared.TypeIs { s with heap := s.heap.push (newSet w) } (.ref s.heap.objs.size) "set" := ⟨_, hS, rfl⟩
    have hli := F.called_set.init.lookup; have hbi := F.called_set.init.bind (.ref s.heap.objs.size)
    repeat (any_goals (first | assumption | wp_step))
    refine codeAny_mono (codeAny_call_builtin (R := wants (fun r s₂ => r = .none ∧ ∃ h' tk, s₂ = { s with heap := h', toks := tk } ∧ SetKs w h' s.heap.objs.size (firstK all) ∧ ∀ b o, b < s.heap.objs.size → s.heap.get? b = some o → h'.get? b = some o) E) F.called_set.init.plain F.entry_set_init (check_set_init_1 hT ?_)) fun r₂ s₂ hr₂ => ?_
    · obtain ⟨⟨ocls, odict, odata, oslots⟩, hol, hcl, nl, hdl⟩ := hl
      simp only at hcl hdl
      subst hcl; subst hdl
      have hol' : (s.heap.push (newSet w)).get? l = some { cls := .type "list", dict := odict, data := .seq items nl, slots := oslots } := Heap.get?_push_of_some _ hol
      have hsls := F.sub_list_set; have hslf := F.sub_list_frozenset; have hne : (Value.type "list" == Value.type "dict") = false := by decide
      have hl1 : (s.heap.push (newSet w)).IsList l items := ⟨_, hol', rfl, nl, rfl⟩
      unfold Builtin.«set.__init__» noKeywords Builtin.Frozenset.updateFrom
      (generalize hPI : pyIter = PI; wp_walk; subst hPI)
      refine wpAny_pyIter_list hl1 (wpAny_bind (wpAny_runValue ?_))
      have hlS : l < s.heap.objs.size := Heap.lt_size hol
      have hh3 : A.in1.in1.in1.handled = none := by simp [hh]
      have hz : (s.heap.push (newSet w)).objs.size = s.heap.objs.size + 1 := Heap.size_push ..
      have hneI : l ≠ (s.heap.push (newSet w)).objs.size := fun z => absurd hlS (by rw [z, Heap.size_push]; exact Nat.not_lt_of_le (Nat.le_succ _))
      have hSf : s.heap.objs.size ∉ [(s.heap.push (newSet w)).objs.size, l] := by
        rw [Heap.size_push]
        simp only [List.mem_cons, List.not_mem_nil, or_false, not_or]
        exact ⟨fun z => absurd z (Nat.ne_of_lt (Nat.lt_succ_self _)), fun z => absurd hlS (by rw [← z]; exact Nat.lt_irrefl _)⟩
      have hval : ∀ (i : Nat) (v : Value), items[i]? = some v → ∃ k, all[i]? = some k ∧ keyIs k v = true := fun i v hv => by
        rw [← Array.getElem?_toList] at hv
        exact each_get hit hv
      refine ks_loop (B := s.heap.objs.size) (all := all) ((Walks.list hh3 _ l hneI items).toS) hSf hn hval (by omega) (fun s' s0 hm hS' e0 => ?_) (items.size - 0) 0 _ (by omega) (Nat.zero_le _) ⟨⟨_, Heap.get?_push_size _ rfl, rfl, rfl⟩, (hl1.push _)⟩ (ks_none (Heap.get?_push_of_some _ hS)) (fun _ z => z)
      subst e0
      obtain ⟨h', g', d', tk', os'⟩ := s'
      have eg : g' = s.gens := hm.gens
      have ed : d' = s.drawn := hm.drawn
      have eo : os' = s.os := hm.os
      subst eg; subst ed; subst eo
      refine (show wpAny _ _ _ _ _ _ from wpAny_pure (show wpAny _ _ (ret Value.none) _ _ _ from wpAny_pure ⟨rfl, h', tk', rfl, hS', fun b o hb e => ?_⟩))
      exact hm.heap b o (by rw [Heap.size_push]; simp only [List.mem_cons, List.not_mem_nil, or_false, not_or]; exact ⟨Nat.ne_of_lt hb, Nat.ne_of_lt (Nat.lt_succ_of_lt hb)⟩) (Heap.get?_push_of_some _ (Heap.get?_push_of_some _ e))
    · match r₂, hr₂ with
      | .error e, hr₂ => exact hr₂
      | .ok .next, hr₂ => exact hr₂.elim
      | .ok .brk, hr₂ => exact hr₂.elim
      | .ok .cont, hr₂ => exact hr₂.elim
      | .ok (.ret r), ⟨e1, h', tk, e2, hS', hk'⟩ =>
        subst e1; subst e2
        repeat (any_goals (first | assumption | wp_step))
        exact h _ _ hS' hk'
end
end Dt
set_option maxRecDepth 100000
set_option maxHeartbeats 4000000
/-! DatA: in, tuple * int, a tuple of the module. -/
namespace Dt
open PySem PySem.Spec L2
@[simp] def flD : D → Bool
  | .non => true
  | .bl _ => true
  | .int _ => true
  | .str _ => true
  | _ => false
@[simp] def eqF : D → D → Bool
  | .non, .non => true
  | .bl a, .bl b => a == b
  | .bl a, .int b => (if a then 1 else 0) == b
  | .int a, .bl b => a == (if b then 1 else 0)
  | .int a, .int b => a == b
  | .str a, .str b => a == b
  | _, _ => false
def inF (x : D) (ds : List D) : Bool := ds.any fun y => eqF y x
section
variable {w : World} {K : PySem.W.Frag} {H : Hp}
theorem flD_V {d : D} {v : V} (r : RD K H d v) (f : flD d = true) : flatV v = true := by
  cases d <;> first | (cases r; rfl) | cases f
theorem eqF_V {d e : D} {v u : V} (r : RD K H d v) (s : RD K H e u) (f : flD d = true) (g : flD e = true) : eqV v u = eqF d e := by
  cases d <;> first | (simp at f; done) | skip
  all_goals (cases e <;> first | (simp at g; done) | skip)
  all_goals (cases r; cases s; rfl)
theorem flDs_V : ∀ {ds : List D} {vs : List V}, RDs K H ds vs → ds.all flD = true → vs.all flatV = true
  | [], _, r, _ => by cases r; rfl
  | d :: ds, _, r, h => by
    obtain ⟨v, vs, rfl, r1, r2⟩ := r
    rw [List.all_cons, Bool.and_eq_true] at h
    rw [List.all_cons, flD_V r1 h.1, flDs_V r2 h.2]
    rfl
theorem inF_V {x : D} {v : V} (rx : RD K H x v) (fx : flD x = true) : ∀ {ds : List D} {vs : List V}, RDs K H ds vs → ds.all flD = true → inV v vs = inF x ds
  | [], _, r, _ => by cases r; rfl
  | d :: ds, _, r, h => by
    obtain ⟨w, vs, rfl, r1, r2⟩ := r
    rw [List.all_cons, Bool.and_eq_true] at h
    have e := inF_V rx fx r2 h.2
    unfold inV inF at e ⊢
    rw [List.any_cons, List.any_cons, eqF_V r1 rx h.1 fx, e]
end
@[simp] def dInF (neg : Bool) (d : D) (ds : List D) (S : DH) (Q : DK) : Prop := flD d = true ∧ ds.all flD = true ∧ Q (.bl (if neg then !inF d ds else inF d ds)) S
section
variable {X : Cx}
/-- tuple * int -/
@[simp] def dMulT : R2D := fun d e S Q => match d, e with
  | .tup xs, .int n => xs ≠ [] ∧ 2 ≤ n ∧ n ≤ 1000 ∧ xs.length ≤ 1000 ∧ Q (.tup (List.replicate n.toNat xs).flatten) S
  | _, _ => False
/-- a tuple of the module's own -/
theorem de_gtup {x : Str} {a : Addr} {pos : Pos} {ds : List D} {its : Array Value} {n : Nat} {od : Option Addr} {sl : Array (Option Value)} (hg : Gl X x) (hm : X.mg x = some (.ref a)) (hk : X.K.lookup a = some ⟨.type "tuple", od, .seq its n, sl⟩) (hz : its.size ≤ sizeLine) (hd : ∃ vs : List V, Vals vs its.toList ∧ ∀ H, RDs X.K H ds vs)
    (hdb : (x == ("__debug__" : Str)) = false := by decide) : DE X (.Name x pos) (dC (.tup ds)) := by
  obtain ⟨vs, h1, h2⟩ := hd
  exact de_c (pe_glob (v := .ref a) hg hm rfl hdb) fun H => ⟨a, vs, rfl, .inr ⟨_, its, n, hk, rfl, rfl, hz, h1⟩, h2 H⟩
end
/-- a promise that nobody asks -/
abbrev spNo : DSp := fun _ _ _ _ => False
@[simp] def prevSp (sp : Nat → DSp) : Nat → DSp
  | 0 => spNo
  | n + 1 => sp n
end Dt
set_option maxRecDepth 100000
set_option maxHeartbeats 4000000
/-! DatB: names, plain texts. -/
namespace Dt
open PySem PySem.Spec L2
abbrev LET : Str := "abcdefghijklmnopqrstuvwxyz"
def hit (d : D) : Bool := match d with | .str s => !(Builtin.Str.occurrences LET s 0 LET.length 1).isEmpty | _ => false
def isNm (d : D) : Bool := match d with | .str x => decide (1 ≤ x.length) && decide (x.length ≤ 8) && (x.cps.toList.map signD).all hit | _ => false
def fnd (d : D) : Int := match d with | .str s => Txt.find LET s | _ => 0
/-- a text of few plain signs -/
def Pl (n : Nat) (x : Str) : Prop := x.length ≤ n ∧ ∀ c ∈ x.cps.toList, c < 128
theorem Pl.mono {n m : Nat} {x : Str} (h : Pl n x) (l : n ≤ m) : Pl m x := ⟨Nat.le_trans h.1 l, h.2⟩
theorem Pl.app {n m : Nat} {x y : Str} (h : Pl n x) (k : Pl m y) : Pl (n + m) (x ++ y) := by
  have e : (x ++ y).cps = x.cps ++ y.cps := rfl
  refine ⟨?_, fun c hc => ?_⟩
  · have h1 : x.cps.size ≤ n := h.1
    have h2 : y.cps.size ≤ m := k.1
    show (x ++ y).cps.size ≤ n + m
    rw [e, Array.size_append]
    omega
  · rw [e, Array.toList_append] at hc
    rcases List.mem_append.mp hc with z | z
    · exact h.2 c z
    · exact k.2 c z
theorem fold_mem {c : Nat} {a : Array Nat} : ∀ (n : Nat) (b : Array Nat), c ∈ ((List.replicate n a).foldl (· ++ ·) b).toList → c ∈ b.toList ∨ c ∈ a.toList
  | 0, b, h => .inl h
  | n + 1, b, h => by
    rw [List.replicate_succ, List.foldl_cons] at h
    rcases fold_mem n _ h with z | z
    · rw [Array.toList_append] at z
      exact List.mem_append.mp z
    · exact .inr z
theorem fold_size {a : Array Nat} : ∀ (n : Nat) (b : Array Nat), ((List.replicate n a).foldl (· ++ ·) b).size = b.size + n * a.size
  | 0, b => by simp
  | n + 1, b => by
    rw [List.replicate_succ, List.foldl_cons, fold_size n, Array.size_append, Nat.succ_mul]
    omega
theorem Pl.mul {x : Str} (h : Pl 1 x) {n : Nat} (hn : n ≤ 9) : Pl 9 (Txt.mul x (n : Int)) := by
  unfold Txt.mul
  split
  · exact ⟨by decide, fun c hc => by cases hc⟩
  · split
    · exact h.mono (by decide)
    · refine ⟨?_, fun c hc => ?_⟩
      · show ((List.replicate ((n : Int)).toNat x.cps).foldl (· ++ ·) #[]).size ≤ 9
        rw [fold_size]
        have h1 : x.cps.size ≤ 1 := h.1
        have e : (n : Int).toNat = n := by omega
        rw [e]
        have := Nat.mul_le_mul hn h1
        simpa using this
      · rcases fold_mem _ _ hc with z | z
        · cases z
        · exact h.2 c z
theorem Pl.lit (s : String) (n : Nat) (h : (decide ((Str.ofString s).length ≤ n) && (Str.ofString s).cps.toList.all fun c => decide (c < 128)) = true) : Pl n (Str.ofString s) := by
  rw [Bool.and_eq_true] at h
  exact ⟨of_decide_eq_true h.1, fun c hc => of_decide_eq_true (List.all_eq_true.mp h.2 c hc)⟩
/-- all but p stands -/
def ExtB (p : Addr) (S S' : DH) : Prop := ∀ b o, b ≠ p → S b = some o → S' b = some o
theorem Pl.join : ∀ ys : List Str, (∀ y ∈ ys, Pl 1 y) → Pl ys.length (Txt.join (.ofString "") ys) := fun ys h => by
  exact (show Txt.join (.ofString "") ys = Str.join (.ofString "") ys from PySem.StrLaws.glued_eq_join ..) ▸ go ys h
where
  go : ∀ ys : List Str, (∀ y ∈ ys, Pl 1 y) → Pl ys.length (Str.join (.ofString "") ys)
  | [], _ => ⟨by decide, fun c hc => by cases hc⟩
  | [x], h => h x (List.mem_cons_self ..)
  | x :: z :: r, h => by
    have e : Pl 0 (Str.ofString "") := Pl.lit "" 0 (by decide +kernel)
    have k := ((h x (List.mem_cons_self ..)).app e).app (go (z :: r) fun y hy => h y (List.mem_cons_of_mem _ hy))
    exact k.mono (by simp; omega)
end Dt
set_option maxRecDepth 100000
set_option maxHeartbeats 4000000
/-! DatC: data within bounds. -/
namespace Dt
open PySem PySem.Spec L2
structure Wt (w dp : Nat) (p : PyData) : Prop where
  sh : p.showable = true
  dp : p.depth ≤ dp
  lf : p.leavesShort 13 = true
  cl : p.canLay0 = true
  wt : p.weight ≤ w
theorem Wt.mono {w dp w' dp' : Nat} {p : PyData} (h : Wt w dp p) (a : w ≤ w') (b : dp ≤ dp') : Wt w' dp' p := ⟨h.sh, Nat.le_trans h.dp b, h.lf, h.cl, Nat.le_trans h.wt a⟩
def Nz (w dp : Nat) (S : DH) (d : D) : Prop := ∃ p, Pd S d p ∧ Wt w dp p
section
variable {S S' : DH} {d : D} {w dp w' dp' n : Nat}
theorem Nz.mono (h : Nz w dp S d) (a : w ≤ w') (b : dp ≤ dp') : Nz w' dp' S d := let ⟨p, h1, h2⟩ := h; ⟨p, h1, h2.mono a b⟩
theorem Nz.ext (h : Nz w dp S d) (e : Ext S S') : Nz w dp S' d := let ⟨p, h1, h2⟩ := h; ⟨p, h1.ext e p d, h2⟩
mutual
theorem Pd.extB {S S' : DH} {q : Addr} (hq : ∀ ds, S q ≠ some (.lst ds)) (e : ExtB q S S') : ∀ (p : PyData) (d : D), Pd S d p → Pd S' d p
  | .none, _, h => by cases h; exact .non
  | .bool b, _, h => by cases h; exact .bl b
  | .int i, _, h => by cases h; exact .int i
  | .str x, _, h => by cases h; exact .str x
  | .tuple ps, _, h => by cases h with | tup hs => exact .tup (PdA.extB hq e ps _ hs)
  | .list ps, _, h => by
    cases h with
    | rol hs => exact .rol (PdA.extB hq e ps _ hs)
    | lst ea hs => exact .lst (e _ _ (fun z => hq _ (by rw [← z]; exact ea)) ea) (PdA.extB hq e ps _ hs)
  | .dict _, _, h => by cases h
theorem PdA.extB {S S' : DH} {q : Addr} (hq : ∀ ds, S q ≠ some (.lst ds)) (e : ExtB q S S') : ∀ (ps : List PyData) (ds : List D), PdA S ds ps → PdA S' ds ps
  | [], _, h => by cases h; exact .nil
  | p :: ps, _, h => by cases h with | cons h1 h2 => exact .cons (Pd.extB hq e p _ h1) (PdA.extB hq e ps _ h2)
end
theorem FeedOb.nl {n : Nat} {o : Ob} (h : FeedOb n o) {q : Addr} {S : DH} (e : S q = some o) : ∀ ds, S q ≠ some (.lst ds) := fun ds z => by
  obtain ⟨_, _, _, rfl, _⟩ := h
  rw [e] at z
  cases z
theorem Nz.extB {q : Addr} (h : Nz w dp S d) (hq : ∀ ds, S q ≠ some (.lst ds)) (e : ExtB q S S') : Nz w dp S' d := let ⟨p, h1, h2⟩ := h; ⟨p, h1.extB hq e p d, h2⟩
theorem Nz.non : Nz w dp S .non := ⟨.none, .non, rfl, Nat.zero_le _, rfl, rfl, Nat.zero_le _⟩
theorem Nz.bl (b : Bool) : Nz w dp S (.bl b) := ⟨.bool b, .bl b, rfl, Nat.zero_le _, rfl, rfl, Nat.zero_le _⟩
theorem Nz.int (i : Int) (h1 : PyData.showable (.int i) = true) (h2 : PyData.leavesShort 13 (.int i) = true) (h3 : PyData.weight (.int i) ≤ w) : Nz w dp S (.int i) := ⟨.int i, .int i, h1, Nat.zero_le _, h2, rfl, h3⟩
theorem Nz.str {x : Str} (h : Pl n x) (hn : n ≤ w) : Nz w dp S (.str x) := by
  refine ⟨.str x, .str x, rfl, Nat.zero_le _, ?_, ?_, Nat.le_trans h.1 hn⟩
  · simp only [PyData.leavesShort, List.all_eq_true, decide_eq_true_eq]
    exact fun c hc => Nat.lt_trans (h.2 c hc) (by decide)
  · show PyData.strOk x = true
    unfold PyData.strOk
    rw [← Array.all_toList, List.all_eq_true]
    exact fun c hc => decide_eq_true (Nat.lt_trans (h.2 c hc) (by decide))
theorem Nz.lit (s : String) (h : (decide ((Str.ofString s).length ≤ w) && (Str.ofString s).cps.toList.all fun c => decide (c < 128)) = true) : Nz w dp S (.str s) := .str (Pl.lit s w h) (Nat.le_refl _)
/-- all of a list -/
structure WtA (w dp : Nat) (ps : List PyData) : Prop where
  sh : PyData.showableAll ps = true
  dp : PyData.depthAll ps ≤ dp
  lf : PyData.leavesShortAll 13 ps = true
  cl : PyData.canLayAll0 ps = true
  wt : PyData.weightAll ps ≤ ps.length * (w + 1)
theorem NzA : ∀ {ds : List D}, (∀ d ∈ ds, Nz w dp S d) → ∃ ps, PdA S ds ps ∧ WtA w dp ps ∧ ps.length = ds.length
  | [], _ => ⟨[], .nil, ⟨rfl, Nat.zero_le _, rfl, rfl, Nat.zero_le _⟩, rfl⟩
  | d :: ds, h => by
    obtain ⟨ps, h1, h2, h3⟩ := NzA (ds := ds) fun e he => h e (List.mem_cons_of_mem _ he)
    obtain ⟨p, h4, h5⟩ := h d (List.mem_cons_self ..)
    refine ⟨p :: ps, .cons h4 h1, ⟨?_, ?_, ?_, ?_, ?_⟩, by simp [h3]⟩
    · simp only [PyData.showableAll, h5.sh, h2.sh, Bool.and_self]
    · simp only [PyData.depthAll]
      have := h5.dp; have := h2.dp
      omega
    · simp only [PyData.leavesShortAll, h5.lf, h2.lf, Bool.and_self]
    · simp only [PyData.canLayAll0, h5.cl, h2.cl, Bool.and_self]
    · simp only [PyData.weightAll, List.length_cons, Nat.succ_mul]
      have := h5.wt; have := h2.wt
      omega
theorem WtA.tup {ps : List PyData} (h : WtA w dp ps) (hw : ps.length * (w + 1) ≤ w') : Wt w' (dp + 1) (.tuple ps) := ⟨h.sh, Nat.succ_le_succ h.dp, h.lf, h.cl, Nat.le_trans h.wt hw⟩
theorem WtA.lst {ps : List PyData} (h : WtA w dp ps) (hw : ps.length * (w + 1) ≤ w') : Wt w' (dp + 1) (.list ps) := ⟨h.sh, Nat.succ_le_succ h.dp, h.lf, h.cl, Nat.le_trans h.wt hw⟩
theorem Nz.tup {ds : List D} (h : ∀ d ∈ ds, Nz w dp S d) (hn : ds.length ≤ n) (hw : n * (w + 1) ≤ w') : Nz w' (dp + 1) S (.tup ds) := by
  obtain ⟨ps, h1, h2, h3⟩ := NzA h
  exact ⟨.tuple ps, .tup h1, h2.tup (by rw [h3]; exact Nat.le_trans (Nat.mul_le_mul_right _ hn) hw)⟩
theorem Nz.lst {ds : List D} {a : Addr} (e : S a = some (.lst ds)) (h : ∀ d ∈ ds, Nz w dp S d) (hn : ds.length ≤ n) (hw : n * (w + 1) ≤ w') : Nz w' (dp + 1) S (.ref a) := by
  obtain ⟨ps, h1, h2, h3⟩ := NzA h
  exact ⟨.list ps, .lst e h1, h2.lst (by rw [h3]; exact Nat.le_trans (Nat.mul_le_mul_right _ hn) hw)⟩
theorem wts_kids : ∀ {ps : List PyData} {ds : List D}, PdA S ds ps → PyData.showableAll ps = true → PyData.depthAll ps ≤ dp → PyData.leavesShortAll 13 ps = true → PyData.canLayAll0 ps = true → PyData.weightAll ps ≤ w → ∀ d ∈ ds, Nz w dp S d
  | [], _, h, _, _, _, _, _ => by cases h; exact fun _ z => nomatch z
  | p :: ps, _, h, h1, h2, h3, h4, h5 => by
    cases h with
    | cons ha hb =>
      simp only [PyData.showableAll, PyData.depthAll, PyData.leavesShortAll, PyData.canLayAll0, PyData.weightAll, Bool.and_eq_true] at h1 h2 h3 h4 h5
      intro d hd
      rcases List.mem_cons.mp hd with rfl | z
      · exact ⟨p, ha, h1.1, by omega, h3.1, h4.1, by omega⟩
      · exact wts_kids hb h1.2 (by omega) h3.2 h4.2 (by omega) d z
theorem Nz.kids {ds : List D} (h : Nz w dp S (.tup ds)) : ∀ d ∈ ds, Nz w dp S d := by
  obtain ⟨p, h1, h2⟩ := h
  cases h1 with
  | tup hs => exact wts_kids hs h2.sh (Nat.le_trans (Nat.le_succ _) h2.dp) h2.lf h2.cl h2.wt
theorem Nz.ty (h : Nz w dp S d) : ∃ n, tyName d S = some n := by
  obtain ⟨p, h1, _⟩ := h
  cases h1 with
  | lst e _ => exact ⟨"list", tyName_lst S e⟩
  | _ => exact ⟨_, rfl⟩
theorem Nz.len {x : Str} (h : Nz w dp S (.str x)) : x.length ≤ w := by
  obtain ⟨p, h1, h2⟩ := h
  cases h1
  exact h2.wt
theorem Nz.shows (h : Nz w dp S d) (hw : w ≤ 2 ^ 20) (hd : dp ≤ 100) : ∃ p, Shows S d p := by
  obtain ⟨p, h1, h2⟩ := h
  exact ⟨p, h1, h2.sh, Nat.le_trans h2.dp hd, PyData.shown_fits (B := 13) (by decide) (by decide) h2.lf (Nat.le_trans h2.wt hw)⟩
theorem Nz.shaped (h : Nz w dp S d) (hd : dp ≤ 64) : ∃ p, Pd S d p ∧ SeqAt.shaped p = true := by
  obtain ⟨p, h1, h2⟩ := h
  exact ⟨p, h1, by unfold SeqAt.shaped; rw [h2.cl, decide_eq_true (Nat.le_trans h2.dp hd)]; rfl⟩
end
end Dt
set_option maxRecDepth 100000
set_option maxHeartbeats 4000000
/-! DatV: plain data (==, in, <, sorted by sorts of data); comprehensions whose list is a value. -/
namespace Dt
open PySem PySem.Spec L2 PySem.W PyProof.Rows

/-! ### plain data -/
mutual
def pl : D → Bool
  | .non => true
  | .int _ => true
  | .str x => PyData.strOk x
  | .tup ds => pls ds
  | .rol ds => pls ds
  | .bl _ => false
  | .ref _ => false
def pls : List D → Bool
  | [] => true
  | d :: ds => pl d && pls ds
end
mutual
def dep : D → Nat
  | .tup ds => deps ds + 1
  | .rol ds => deps ds + 1
  | _ => 0
def deps : List D → Nat
  | [] => 0
  | d :: ds => max (dep d) (deps ds)
end
mutual
theorem dep_P : ∀ d : D, (toP d).depth = dep d
  | .non | .bl _ | .int _ | .str _ | .ref _ => rfl
  | .tup ds => congrArg (· + 1) (deps_P ds)
  | .rol ds => congrArg (· + 1) (deps_P ds)
theorem deps_P : ∀ ds : List D, PyData.depthAll (toPs ds) = deps ds
  | [] => rfl
  | d :: ds => by
    show max (toP d).depth (PyData.depthAll (toPs ds)) = max (dep d) (deps ds)
    rw [dep_P d, deps_P ds]
end
mutual
theorem pl_imm : ∀ d : D, pl d = true → imm d = true
  | .non, _ | .int _, _ | .str _, _ => rfl
  | .tup ds, h => pls_imm ds h
  | .rol ds, h => pls_imm ds h
theorem pls_imm : ∀ ds : List D, pls ds = true → imms ds = true
  | [], _ => rfl
  | d :: ds, h => by
    have h' : (pl d && pls ds) = true := h
    rw [Bool.and_eq_true] at h'
    show (imm d && imms ds) = true
    rw [pl_imm d h'.1, pls_imm ds h'.2]
    rfl
end
mutual
theorem pl_lay : ∀ d : D, pl d = true → (toP d).canLay0 = true
  | .non, _ | .int _, _ => rfl
  | .str x, h => h
  | .tup ds, h => pls_lay ds h
  | .rol ds, h => pls_lay ds h
theorem pls_lay : ∀ ds : List D, pls ds = true → PyData.canLayAll0 (toPs ds) = true
  | [], _ => rfl
  | d :: ds, h => by
    have h' : (pl d && pls ds) = true := h
    rw [Bool.and_eq_true] at h'
    show ((toP d).canLay0 && PyData.canLayAll0 (toPs ds)) = true
    rw [pl_lay d h'.1, pls_lay ds h'.2]
    rfl
end
theorem beq_dec {α : Type} [BEq α] [LawfulBEq α] [DecidableEq α] (a b : α) : (a == b) = decide (a = b) := by
  by_cases h : a = b
  · rw [h]; simp
  · rw [decide_eq_false h]
    simp [h]
mutual
theorem eqv_P : ∀ d e : D, pl d = true → pl e = true → PyData.eqv (toP d) (toP e) = deq d e
  | .non, e, _, h => by cases e <;> first | rfl | (simp [pl] at h; done)
  | .int i, e, _, h => by cases e <;> first | rfl | (simp [pl] at h; done) | (simp [toP, PyData.eqv, deq]; done)
  | .str i, e, _, h => by cases e <;> first | rfl | (simp [pl] at h; done)
  | .tup ds, e, h0, h => by
    cases e <;> first | rfl | (simp [pl] at h; done) | skip
    exact eqvs_P ds _ h0 h
  | .rol ds, e, h0, h => by
    cases e <;> first | rfl | (simp [pl] at h; done) | skip
    exact eqvs_P ds _ h0 h
theorem eqvs_P : ∀ ds es : List D, pls ds = true → pls es = true → PyData.eqvAll (toPs ds) (toPs es) = deqs ds es
  | [], es, _, _ => by cases es <;> rfl
  | d :: ds, [], _, _ => rfl
  | d :: ds, e :: es, h, h' => by
    have k : (pl d && pls ds) = true := h
    have k' : (pl e && pls es) = true := h'
    rw [Bool.and_eq_true] at k k'
    show (PyData.eqv (toP d) (toP e) && PyData.eqvAll (toPs ds) (toPs es)) = (deq d e && deqs ds es)
    rw [eqv_P d e k.1 k'.1, eqvs_P ds es k.2 k'.2]
end
theorem deq_dec (d e : D) : deq d e = decide (d = e) := by
  by_cases h : d = e
  · rw [h, deq_self]; simp
  · cases q : deq d e with
    | false => simp [h]
    | true => exact absurd (of_deq _ _ q) h
/-- plain and not deep -/
def Sm (n : Nat) (d : D) : Prop := pl d = true ∧ dep d ≤ n
theorem Sm.mono {n m : Nat} {d : D} (h : Sm n d) (l : n ≤ m) : Sm m d := ⟨h.1, Nat.le_trans h.2 l⟩
theorem pls_iff : ∀ {ds : List D}, pls ds = true ↔ ∀ d ∈ ds, pl d = true
  | [] => by simp [pls]
  | d :: ds => by
    show (pl d && pls ds) = true ↔ _
    rw [Bool.and_eq_true, pls_iff (ds := ds)]
    simp
theorem deps_iff {n : Nat} : ∀ {ds : List D}, deps ds ≤ n ↔ ∀ d ∈ ds, dep d ≤ n
  | [] => by simp [deps]
  | d :: ds => by
    show max (dep d) (deps ds) ≤ n ↔ _
    rw [Nat.max_le, deps_iff (ds := ds)]
    simp
theorem sms_iff {n : Nat} {ds : List D} : (pls ds = true ∧ deps ds ≤ n) ↔ ∀ d ∈ ds, Sm n d := by
  rw [pls_iff, deps_iff]
  exact ⟨fun h d hd => ⟨h.1 d hd, h.2 d hd⟩, fun h => ⟨fun d hd => (h d hd).1, fun d hd => (h d hd).2⟩⟩
@[simp] theorem Sm_non {n : Nat} : Sm n .non := ⟨rfl, Nat.zero_le _⟩
@[simp] theorem Sm_int {n : Nat} {i : Int} : Sm n (.int i) := ⟨rfl, Nat.zero_le _⟩
@[simp] theorem Sm_str {n : Nat} {x : Str} : Sm n (.str x) ↔ PyData.strOk x = true := ⟨fun h => h.1, fun h => ⟨h, Nat.zero_le _⟩⟩
theorem Sm_tup {n : Nat} {ds : List D} : Sm (n + 1) (.tup ds) ↔ ∀ d ∈ ds, Sm n d := by
  rw [← sms_iff]
  exact ⟨fun h => ⟨h.1, Nat.le_of_succ_le_succ h.2⟩, fun h => ⟨h.1, Nat.succ_le_succ h.2⟩⟩
theorem Sm_rol {n : Nat} {ds : List D} : Sm (n + 1) (.rol ds) ↔ ∀ d ∈ ds, Sm n d := by
  rw [← sms_iff]
  exact ⟨fun h => ⟨h.1, Nat.le_of_succ_le_succ h.2⟩, fun h => ⟨h.1, Nat.succ_le_succ h.2⟩⟩
theorem Sm.kids {n : Nat} {ds : List D} (h : Sm n (.tup ds)) : ∀ d ∈ ds, Sm n d := fun d hd => ⟨pls_iff.mp h.1 d hd, deps_iff.mp (Nat.le_trans (Nat.le_succ _) h.2) d hd⟩
theorem Sm.pd {n : Nat} {d : D} (h : Sm n d) (S : DH) : Pd S d (toP d) := imm_pd S d (pl_imm d h.1)
theorem Sm.shaped {n : Nat} {d : D} (h : Sm n d) (hn : n ≤ 64) : SeqAt.shaped (toP d) = true := by
  unfold SeqAt.shaped
  rw [pl_lay d h.1, dep_P d, decide_eq_true (Nat.le_trans h.2 hn)]
  rfl
/-- the items of a list, or all of it -/
theorem seqD_pd {S : DH} {d : D} {ds : List D} (e : seqD S d = some ds) (h : ∀ x ∈ ds, Sm 60 x) : Pd S d (toP (.rol ds)) ∧ SeqAt.shaped (toP (.rol ds)) = true := by
  have hs : Sm 61 (.rol ds) := Sm_rol.mpr h
  refine ⟨?_, hs.shaped (by decide)⟩
  cases d with
  | rol xs => cases e; exact hs.pd S
  | ref a =>
    simp only [seqD_ref] at e
    split at e
    · rename_i xs ea
      cases e
      exact .lst ea (imms_pd S ds (pls_imm ds hs.1))
    · cases e
  | _ => simp at e
section
variable {S : DH} {Q : DK} {neg : Bool} {d e : D}
/-- == of lists of plain data -/
theorem dEq_seq {xs ys : List D} (hd : seqD S d = some xs) (he : seqD S e = some ys) (h1 : ∀ x ∈ xs, Sm 60 x) (h2 : ∀ x ∈ ys, Sm 60 x) (h : Q (.bl (if neg then !decide (xs = ys) else decide (xs = ys))) S) : dEq neg d e S Q := by
  have go : dEqG neg d e S Q := by
    obtain ⟨p1, s1⟩ := seqD_pd hd h1
    obtain ⟨p2, s2⟩ := seqD_pd he h2
    have hx : pl (.rol xs) = true := (Sm_rol (n := 60) (ds := xs)).mpr h1 |>.1
    have hy : pl (.rol ys) = true := (Sm_rol (n := 60) (ds := ys)).mpr h2 |>.1
    refine ⟨_, _, p1, p2, s1, s2, ?_⟩
    rw [eqv_P _ _ hx hy, deq_dec]
    simp only [D.rol.injEq]
    exact h
  cases d with
  | rol _ => cases e <;> first | exact go | (simp at he)
  | ref _ => cases e <;> first | exact go | (simp at he)
  | _ => simp at hd
end

/-! ### sorts of data -/
inductive Ty where
  | int | str | tup (ts : List Ty) | hom (t : Ty) | hom1 (t : Ty) | lst (t : Ty)
mutual
def hasTy : Ty → D → Bool
  | .int, .int _ => true
  | .str, .str x => PyData.strOk x
  | .tup ts, .tup ds => hasTys ts ds
  | .hom t, .tup ds => ds.all (hasTy t)
  | .hom1 t, .tup ds => !ds.isEmpty && ds.all (hasTy t)
  | .lst t, .rol ds => ds.all (hasTy t)
  | _, _ => false
def hasTys : List Ty → List D → Bool
  | [], [] => true
  | t :: ts, d :: ds => hasTy t d && hasTys ts ds
  | _, _ => false
end
mutual
def tyDep : Ty → Nat
  | .tup ts => tysDep ts + 1
  | .hom t => tyDep t + 1
  | .hom1 t => tyDep t + 1
  | .lst t => tyDep t + 1
  | _ => 0
def tysDep : List Ty → Nat
  | [] => 0
  | t :: ts => max (tyDep t) (tysDep ts)
end
mutual
theorem hasTy_sm : ∀ (t : Ty) (d : D), hasTy t d = true → Sm (tyDep t) d
  | .int, d, h => by cases d <;> first | exact Sm_int | (simp [hasTy] at h; done)
  | .str, d, h => by cases d <;> first | exact Sm_str.mpr h | (simp [hasTy] at h; done)
  | .tup ts, d, h => by cases d <;> first | exact Sm_tup.mpr (hasTys_sm ts _ h) | (simp [hasTy] at h; done)
  | .hom t, d, h => by cases d <;> first | (simp [hasTy] at h; exact Sm_tup.mpr fun x hx => hasTy_sm t x (h x hx)) | (simp [hasTy] at h; done)
  | .hom1 t, d, h => by cases d <;> first | (simp [hasTy] at h; exact Sm_tup.mpr fun x hx => hasTy_sm t x (h.2 x hx)) | (simp [hasTy] at h; done)
  | .lst t, d, h => by cases d <;> first | (simp [hasTy] at h; exact Sm_rol.mpr fun x hx => hasTy_sm t x (h x hx)) | (simp [hasTy] at h; done)
theorem hasTys_sm : ∀ (ts : List Ty) (ds : List D), hasTys ts ds = true → ∀ d ∈ ds, Sm (tysDep ts) d
  | [], ds, h => by
    cases ds with
    | nil => exact fun _ z => nomatch z
    | cons _ _ => simp [hasTys] at h
  | t :: ts, ds, h => by
    cases ds with
    | nil => simp [hasTys] at h
    | cons d ds =>
      simp [hasTys] at h
      intro x hx
      rcases List.mem_cons.mp hx with rfl | hx
      · exact (hasTy_sm t x h.1).mono (Nat.le_max_left ..)
      · exact (hasTys_sm ts ds h.2 x hx).mono (Nat.le_max_right ..)
end
theorem alikeAll_hom {ds es : List D} (h : ∀ d ∈ ds, ∀ e ∈ es, alike (toP d) (toP e) = true) : alikeAll (toPs ds) (toPs es) = true := by
  induction ds generalizing es with
  | nil => rfl
  | cons d ds ih =>
    cases es with
    | nil => rfl
    | cons e es =>
      show (alike (toP d) (toP e) && alikeAll (toPs ds) (toPs es)) = true
      rw [h d (List.mem_cons_self ..) e (List.mem_cons_self ..), ih fun x hx y hy => h x (List.mem_cons_of_mem _ hx) y (List.mem_cons_of_mem _ hy)]
      rfl
mutual
theorem hasTy_alike : ∀ (t : Ty) (d e : D), hasTy t d = true → hasTy t e = true → alike (toP d) (toP e) = true
  | .int, d, e, h, h' => by cases d <;> first | (simp [hasTy] at h; done) | (cases e <;> first | rfl | (simp [hasTy] at h'; done))
  | .str, d, e, h, h' => by cases d <;> first | (simp [hasTy] at h; done) | (cases e <;> first | rfl | (simp [hasTy] at h'; done))
  | .tup ts, d, e, h, h' => by cases d <;> first | (simp [hasTy] at h; done) | (cases e <;> first | exact hasTys_alike ts _ _ h h' | (simp [hasTy] at h'; done))
  | .hom t, d, e, h, h' => by
    cases d <;> first | (simp [hasTy] at h; done) | (cases e <;> first | (simp [hasTy] at h h'; exact alikeAll_hom fun x hx y hy => hasTy_alike t x y (h x hx) (h' y hy)) | (simp [hasTy] at h'; done))
  | .hom1 t, d, e, h, h' => by
    cases d <;> first | (simp [hasTy] at h; done) | (cases e <;> first | (simp [hasTy] at h h'; exact alikeAll_hom fun x hx y hy => hasTy_alike t x y (h.2 x hx) (h'.2 y hy)) | (simp [hasTy] at h'; done))
  | .lst t, d, e, h, h' => by
    cases d <;> first | (simp [hasTy] at h; done) | (cases e <;> first | (simp [hasTy] at h h'; exact alikeAll_hom fun x hx y hy => hasTy_alike t x y (h x hx) (h' y hy)) | (simp [hasTy] at h'; done))
theorem hasTys_alike : ∀ (ts : List Ty) (ds es : List D), hasTys ts ds = true → hasTys ts es = true → alikeAll (toPs ds) (toPs es) = true
  | [], ds, es, h, h' => by cases ds <;> first | rfl | (simp [hasTys] at h; done)
  | t :: ts, ds, es, h, h' => by
    cases ds with
    | nil => rfl
    | cons d ds =>
      cases es with
      | nil => rfl
      | cons e es =>
        simp [hasTys] at h h'
        show (alike (toP d) (toP e) && alikeAll (toPs ds) (toPs es)) = true
        rw [hasTy_alike t d e h.1 h'.1, hasTys_alike ts ds es h.2 h'.2]
        rfl
end
/-- x < y -/
def ltD (x y : D) : Bool := dataLt (toP x) (toP y)
theorem ltD_irrefl (x : D) : ltD x x = false := PyProof.Rows.lex_irrefl _
theorem ltD_trans {x y z : D} (h : ltD x y = true) (h' : ltD y z = true) : ltD x z = true := PyProof.Rows.lex_trans _ _ _ h h'
theorem ltD_neg {x y z : D} (h : ltD x z = true) : ltD x y = true ∨ ltD y z = true := PyProof.Rows.lex_negTrans _ _ _ h
theorem ltD_asymm {x y : D} (h : ltD x y = true) : ltD y x = false := by
  cases e : ltD y x with
  | false => rfl
  | true =>
    have := ltD_trans h e
    rw [ltD_irrefl] at this
    cases this
theorem ltD_tri {t : Ty} {x y : D} (hx : hasTy t x = true) (hy : hasTy t y = true) (h : ltD x y = false) (h' : ltD y x = false) : x = y := by
  have e : keyToks (toP x) = keyToks (toP y) := PyProof.Rows.lex_total _ _ h h'
  have sx := hasTy_sm t x hx
  have sy := hasTy_sm t y hy
  have q := toks_eqv (toP x) (toP y) (hasTy_alike t x y hx hy)
  rw [eqv_P x y sx.1 sy.1] at q
  cases z : deq x y with
  | true => exact of_deq _ _ z
  | false =>
    have k := q.2 z [] [.inl 0]
    rw [← e, PyProof.Rows.lex_irrefl, List.append_nil] at k
    have : ∀ l : List (Int ⊕ List Nat), PyProof.Rows.lexLt PyProof.Rows.itemOrd l (l ++ [.inl 0]) = true := fun l => by
      induction l with
      | nil => rfl
      | cons a l ih => rw [List.cons_append, PyProof.Rows.lex_self]; exact ih
    rw [this] at k
    cases k
theorem ltD_int (i j : Int) : ltD (.int i) (.int j) = decide (i < j) := dataLt_int i j
/-- what may be sorted -/
def sortTy : Ty → Bool
  | .int => true
  | .str => true
  | .tup (t :: ts) => decide (tyDep (.tup (t :: ts)) ≤ 50)
  | .hom1 t => decide (tyDep (.hom1 t) ≤ 50)
  | _ => false
theorem sortTy_dep {t : Ty} (h : sortTy t = true) : tyDep t ≤ 50 := by
  cases t with
  | tup ts => cases ts <;> simp [sortTy] at h; exact h
  | hom1 t => exact of_decide_eq_true h
  | int => exact Nat.zero_le _
  | str => exact Nat.zero_le _
  | hom t => cases h
  | lst t => cases h
theorem sortable_ty {t : Ty} {ds : List D} (h : sortTy t = true) (hd : ∀ d ∈ ds, hasTy t d = true) : Sortable (ds.map toP) := by
  have no : (∀ d, hasTy t d = true → toP d ≠ .none ∧ ∀ xs, toP d ≠ .tuple xs) → Sortable (ds.map toP) := fun k => .inr fun p hp => by
    obtain ⟨d, hd', rfl⟩ := List.mem_map.mp hp
    exact k d (hd d hd')
  have yes : (∀ d, hasTy t d = true → ∃ x r, toP d = .tuple (x :: r)) → Sortable (ds.map toP) := fun k => .inl fun p hp => by
    obtain ⟨d, hd', rfl⟩ := List.mem_map.mp hp
    exact k d (hd d hd')
  cases t with
  | int => exact no fun d z => by cases d <;> first | (simp [hasTy] at z; done) | exact ⟨(fun y => nomatch y), fun _ y => nomatch y⟩
  | str => exact no fun d z => by cases d <;> first | (simp [hasTy] at z; done) | exact ⟨(fun y => nomatch y), fun _ y => nomatch y⟩
  | hom t => cases h
  | lst t => cases h
  | hom1 t =>
    refine yes fun d z => ?_
    cases d <;> first | (simp [hasTy] at z; done) | skip
    rename_i xs
    cases xs with
    | nil => simp [hasTy] at z
    | cons x xs => exact ⟨toP x, toPs xs, rfl⟩
  | tup ts =>
    cases ts with
    | nil => cases h
    | cons t ts =>
      refine yes fun d z => ?_
      cases d <;> first | (simp [hasTy] at z; done) | skip
      rename_i xs
      cases xs with
      | nil => simp [hasTy, hasTys] at z
      | cons x xs => exact ⟨toP x, toPs xs, rfl⟩
/-- sorted as the language sorts -/
def srtD (ds : List D) : List D := ds.mergeSort fun a b => !ltD b a
theorem srtD_eq (ds : List D) : ds.mergeSort (dataLe false toP) = srtD ds := rfl
theorem srt_perm (ds : List D) : (srtD ds).Perm ds := List.mergeSort_perm ..
theorem srt_mem {ds : List D} {d : D} : d ∈ srtD ds ↔ d ∈ ds := (srt_perm ds).mem_iff
@[simp] theorem srt_len (ds : List D) : (srtD ds).length = ds.length := List.length_mergeSort _
theorem srt_sorted (ds : List D) : (srtD ds).Pairwise fun a b => ltD b a = false := by
  have := List.pairwise_mergeSort (le := fun a b : D => !ltD b a) (fun a b c h1 h2 => by
    cases e : ltD c a with
    | false => rfl
    | true =>
      rcases ltD_neg (y := b) e with z | z
      · rw [z] at h2; cases h2
      · rw [z] at h1; cases h1) (fun a b => by
    cases e : ltD b a with
    | false => rfl
    | true => rw [ltD_asymm e]; rfl) ds
  exact this.imp fun h => by simpa using h
/-- one sorted list of the same things -/
theorem sorted_one {t : Ty} : ∀ {as bs : List D}, (∀ d ∈ as, hasTy t d = true) → as.Pairwise (fun a b => ltD b a = false) → bs.Pairwise (fun a b => ltD b a = false) → as.Perm bs → as = bs
  | [], bs, _, _, _, p => p.symm.eq_nil.symm
  | a :: as, bs, ht, h1, h2, p => by
    cases bs with
    | nil => exact p.eq_nil
    | cons b bs =>
      have hb : hasTy t b = true := ht b (p.mem_iff.mpr (List.mem_cons_self ..))
      have ha : hasTy t a = true := ht a (List.mem_cons_self ..)
      obtain ⟨h1a, h1b⟩ := List.pairwise_cons.mp h1
      obtain ⟨h2a, h2b⟩ := List.pairwise_cons.mp h2
      have e : a = b := by
        rcases List.mem_cons.mp (p.mem_iff.mp (List.mem_cons_self (a := a) (l := as))) with z | z
        · exact z
        · rcases List.mem_cons.mp (p.mem_iff.mpr (List.mem_cons_self (a := b) (l := bs))) with y | y
          · exact y.symm
          · exact ltD_tri ha hb (h2a a z) (h1a b y)
      subst e
      rw [sorted_one (fun d hd => ht d (List.mem_cons_of_mem _ hd)) h1b h2b (List.perm_cons a |>.mp p)]
theorem srt_one {t : Ty} {as bs : List D} (ht : ∀ d ∈ as, hasTy t d = true) (p : as.Perm bs) : srtD as = srtD bs :=
  sorted_one (fun d hd => ht d (srt_mem.mp hd)) (srt_sorted as) (srt_sorted bs) ((srt_perm as).trans (p.trans (srt_perm bs).symm))
/-! ### sorted -/
def cSrt (ds : List D) (k : List D → Prop) : Prop := (∃ t, sortTy t = true ∧ ∀ d ∈ ds, hasTy t d = true) ∧ k (srtD ds)
def cSorted : RCD := fun ds S Q => match ds with
  | [d] => opt (seqD S d) fun xs => cSrt xs fun ys => newO S (.lst ys) fun p S' => Q (.ref p) S'
  | _ => False
@[simp] def cSortedF : RCD := fun ds S Q => match ds with
  | [d] => opt (seqD S d) fun xs => cSrt xs fun ys => Q (.rol ys) S
  | _ => False
section
variable {X : Cx}
theorem each_rel {K : PySem.W.Frag} {H : Hp} : ∀ {xs : List V} {us : List Value} {ds : List D}, Vals xs us → RDs K H ds xs → EachIs (fun u d => ∃ x, RelV x u ∧ RD K H d x) us ds
  | _, _, [], r, rd => by cases rd; cases r; exact .nil
  | _, _, d :: ds, r, rd => by
    obtain ⟨v, vs, rfl, h1, h2⟩ := rd
    cases r with
    | cons a b => exact .cons ⟨v, a, h1⟩ (each_rel b h2)
theorem rel_each {K : PySem.W.Frag} {H : Hp} : ∀ {us : List Value} {ds : List D}, EachIs (fun u d => ∃ x, RelV x u ∧ RD K H d x) us ds → ∃ xs, Vals xs us ∧ RDs K H ds xs
  | _, _, .nil => ⟨[], .nil, .nil⟩
  | _, _, .cons ⟨x, a, b⟩ t => by
    obtain ⟨xs, h1, h2⟩ := rel_each t
    exact ⟨x :: xs, .cons a h1, RDs.cons b h2⟩
theorem each_and {α β : Type} {R : α → β → Prop} {p : β → Prop} : ∀ {us : List α} {ds : List β}, EachIs R us ds → (∀ d ∈ ds, p d) → EachIs (fun u d => R u d ∧ p d) us ds
  | _, _, .nil, _ => .nil
  | _, _, .cons a t, h => .cons ⟨a, h _ (List.mem_cons_self ..)⟩ (each_and t fun d hd => h d (List.mem_cons_of_mem _ hd))
theorem cd_sorted (hu : X.A.units + 64 < cLine) : CallD X (.builtin "sorted") cSorted := by
  refine ⟨fun ds S Q Q' k h => ?_, fun pins s σ H vs us Q I rv ⟨ds, S, rep, rd, h⟩ => ?_⟩
  · match ds, h with
    | [d], h => exact opt_mono (fun _ h => ⟨h.1, fun p hp => k _ _ (h.2 p hp)⟩) h
  · match ds, h with
    | [d], h =>
      obtain ⟨ds, e, ⟨t, ht, hd⟩, h⟩ := opt_ex h
      obtain ⟨v, rfl, r⟩ := rds1 rd
      obtain ⟨a, xs, rfl, sq, rd⟩ := seqD_rd rep r e
      rw [Vals.ref1 rv]
      obtain ⟨its, rv, hl, hz⟩ := I.list sq.l
      have e := each_rel rv rd
      have sm : ∀ d ∈ ds, Sm 50 d := fun d z => (hasTy_sm t d (hd d z)).mono (sortTy_dep ht)
      have er : EachIs (fun u d => ∃ as, Reads s.heap u (toP d) as) its ds := by
        refine EachIs.mono (fun u d z => ?_) (each_and e sm)
        obtain ⟨⟨x, a1, a2⟩, a3⟩ := z
        exact Dp.reads I (toP d) x u ((a3.pd S).dp rep _ _ _ a2) a1
      have hlen : ds.length ≤ sizeLine := by rw [rd.length]; exact hz
      refine sorted_data hl.isList e er (AllAlike.of' hd) (sortable_ty ht hd) hlen (fun b hb => by have := (sm b hb).2; rw [dep_P]; omega) fun out o1 o2 => ?_
      obtain ⟨ys, r1, r2⟩ := rel_each o2
      obtain ⟨ep, he'⟩ := sortedAll_at s.heap its out.toArray
      have hn : H (s.heap.objs.size + 1) = none := I.hok.fresh (Nat.le_succ _)
      have hyl : ys.length ≤ sizeLine := by rw [← r2.length]; exact Nat.le_trans (Nat.le_of_eq (srt_len ds)) hlen
      have le : LeH H (upd H (s.heap.objs.size + 1) (.lst ys)) := LeH.new hn
      refine ⟨.ref _, upd H (s.heap.objs.size + 1) (.lst ys), I.laid (t' := s.toks) (fun _ _ => sortedAll_old) (Nat.le_succ _) ⟨hyl, out, ep, r1, he'⟩, rfl, ?_⟩
      exact h (s.heap.objs.size + 1) (rep.free hn) _ _ le (rep.new hn ⟨ys, upd_same, r2.le le⟩) rfl
where
  AllAlike.of' {t : Ty} {ds : List D} (hd : ∀ d ∈ ds, hasTy t d = true) : AllAlike (ds.map toP) := fun p hp q hq => by
    obtain ⟨d, h1, rfl⟩ := List.mem_map.mp hp
    obtain ⟨e, h2, rfl⟩ := List.mem_map.mp hq
    exact hasTy_alike t d e (hd d h1) (hd e h2)
end
/-! ### < of data -/
def rOrd (b : Bool) : R2D := fun d e S Q => match d, e with
  | .int i, .int j => Q (.bl (if b then decide (j < i) else decide (i < j))) S
  | d, e => (∃ t, tyDep t ≤ 50 ∧ hasTy t d = true ∧ hasTy t e = true) ∧ Q (.bl (if b then ltD e d else ltD d e)) S
@[simp] theorem rOrd_int {b : Bool} {i j : Int} {S : DH} {Q : DK} : rOrd b (.int i) (.int j) S Q = Q (.bl (if b then decide (j < i) else decide (i < j))) S := rfl
theorem rOrd_ty {b : Bool} {d e : D} {S : DH} {Q : DK} (t : Ty) (ht : tyDep t ≤ 50) (hd : hasTy t d = true) (he : hasTy t e = true) (h : Q (.bl (if b then ltD e d else ltD d e)) S) : rOrd b d e S Q := by
  unfold rOrd
  split
  · rw [ltD_int, ltD_int] at h
    exact h
  · exact ⟨⟨t, ht, hd, he⟩, h⟩
theorem rOrd_mono (b : Bool) : Mono2 (rOrd b) := fun x y S Q Q' k h => by
  unfold rOrd at h ⊢
  split at h
  · exact k _ _ h
  · exact ⟨h.1, k _ _ h.2⟩
section
variable {X : Cx}
theorem hasTy_none {t : Ty} {d : D} (h : hasTy t d = true) : toP d ≠ .none := by
  cases t <;> cases d <;> first | (simp [hasTy] at h; done) | exact fun z => nomatch z
theorem od_ord (b : Bool) (op : CmpOp) (he : op = if b then .Gt else .Lt) (hu : X.A.units + 64 < cLine) : OpD X (compareOp op) (rOrd b) := by
  refine ⟨rOrd_mono b, fun pins s σ H x y v u Q I rx ry ⟨d, e, S, rep, rd, re, h⟩ => ?_⟩
  subst he
  unfold rOrd at h
  split at h
  · cases rd; cases re
    cases b
    · exact op_lt pins s σ H _ _ v u Q I rx ry ⟨_, _, rfl, rfl, h _ H (LeH.refl H) rep rfl⟩
    · exact op_gt pins s σ H _ _ v u Q I rx ry ⟨_, _, rfl, rfl, h _ H (LeH.refl H) rep rfl⟩
  · obtain ⟨⟨t, ht, hd, hE⟩, h⟩ := h
    have sd := hasTy_sm t d hd
    have se := hasTy_sm t e hE
    obtain ⟨as, ra⟩ := Dp.reads I _ x v ((sd.pd S).dp rep _ d x rd) rx
    obtain ⟨bs, rb⟩ := Dp.reads I _ y u ((se.pd S).dp rep _ e y re) ry
    have hal := hasTy_alike t d e hd hE
    have hun : X.A.units + min (toP d).depth (toP e).depth < cLine := by
      have := Nat.min_le_left (toP d).depth (toP e).depth
      rw [dep_P] at this
      have := sd.2
      rw [dep_P]
      omega
    cases b
    · exact lt_data ra rb hal (hasTy_none hd) hun ⟨.bl _, H, I, rfl, h _ H (LeH.refl H) rep rfl⟩
    · exact gt_data ra rb hal (hasTy_none hd) hun ⟨.bl _, H, I, rfl, h _ H (LeH.refl H) rep rfl⟩
theorem od_ltD (hu : X.A.units + 64 < cLine) : OpD X (compareOp .Lt) (rOrd false) := od_ord false .Lt rfl hu
end
/-! ### in: plain data in lists -/
/-- b: d is among ds -/
def InR (d : D) (ds : List D) (b : Bool) : Prop := (flD d = true ∧ ds.all flD = true ∧ b = inF d ds) ∨ (Sm 60 d ∧ (∀ e ∈ ds, Sm 60 e) ∧ b = decide (d ∈ ds))
def dInQ (neg : Bool) (d : D) (ds : List D) (S : DH) (Q : DK) : Prop := ∃ b, InR d ds b ∧ Q (.bl (if neg then !b else b)) S
theorem dInQ_sm {neg : Bool} {d : D} {ds : List D} {S : DH} {Q : DK} (hd : Sm 60 d) (hs : ∀ e ∈ ds, Sm 60 e) (h : Q (.bl (if neg then !decide (d ∈ ds) else decide (d ∈ ds))) S) : dInQ neg d ds S Q := ⟨_, .inr ⟨hd, hs, rfl⟩, h⟩
theorem eqF_pl : ∀ {d e : D}, flD d = true → flD e = true → pl d = true → pl e = true → eqF e d = decide (d = e) := fun {d e} f g h k => by
  cases d <;> first | (simp at f; done) | (simp [pl] at h; done) | skip
  all_goals (cases e <;> first | (simp at g; done) | (simp [pl] at k; done) | rfl | skip)
  all_goals
    rw [eqF, beq_dec]
    simp [eq_comm]
theorem inF_pl {d : D} {ds : List D} (f : flD d = true) (g : ds.all flD = true) (h : pl d = true) (k : ∀ e ∈ ds, pl e = true) : inF d ds = decide (d ∈ ds) := by
  rw [Bool.eq_iff_iff]
  unfold inF
  rw [List.any_eq_true, decide_eq_true_eq]
  constructor
  · rintro ⟨e, he, q⟩
    rw [eqF_pl f (List.all_eq_true.mp g e he) h (k e he), decide_eq_true_eq] at q
    rw [q]
    exact he
  · intro hd
    exact ⟨d, hd, by rw [eqF_pl f f h h]; simp⟩
@[simp] theorem dInQ_fl {neg : Bool} {d : D} {ds : List D} {S : DH} {Q : DK} (f : flD d = true) (g : ds.all flD = true) : dInQ neg d ds S Q = Q (.bl (if neg then !inF d ds else inF d ds)) S := by
  refine propext ⟨fun ⟨b, r, q⟩ => ?_, fun q => ⟨_, .inl ⟨f, g, rfl⟩, q⟩⟩
  rcases r with ⟨_, _, rfl⟩ | ⟨h, k, rfl⟩
  · exact q
  · rw [inF_pl f g h.1 fun e he => (k e he).1]
    exact q
theorem dInQ_mono {neg : Bool} {d : D} {ds : List D} {S : DH} {Q Q' : DK} (k : ∀ d S', Q d S' → Q' d S') (h : dInQ neg d ds S Q) : dInQ neg d ds S Q' := let ⟨b, r, q⟩ := h; ⟨b, r, k _ _ q⟩
theorem inP_dec {d : D} {ds : List D} (hd : pl d = true) (hs : ∀ e ∈ ds, pl e = true) : inP (toP d) (toPs ds) = decide (d ∈ ds) := by
  induction ds with
  | nil => rfl
  | cons e ds ih =>
    show (PyData.eqv (toP e) (toP d) || inP (toP d) (toPs ds)) = _
    rw [eqv_P e d (hs e (List.mem_cons_self ..)) hd, ih fun x hx => hs x (List.mem_cons_of_mem _ hx), deq_dec]
    simp [eq_comm]
end Dt
set_option maxRecDepth 100000
set_option maxHeartbeats 4000000
/-! DatT: sorted(set(e)). -/
namespace Dt
open PySem PySem.Spec PySem.W L2 PyProof.Rows
def setHO (w : World) (p : Addr) (ks : List Key) : HO := .ext fun h => SetKs w h p ks
theorem SetKs.there {w : World} {h : Heap} {a : Addr} {ks : List Key} (R : SetKs w h a ks) : ∃ o, h.get? a = some o := by
  obtain ⟨o, _, _, _, _, ho, _⟩ := R
  exact ⟨o, ho⟩
theorem setHO_ok {P : Program} {w : World} {H : Hp} {h : Heap} {a : Addr} {ks : List Key} (R : SetKs w h a ks) : ObjOk P w H h a (setHO w a ks) :=
  ⟨R, R.there, fun h1 h2 z k => z.at k⟩
theorem setHO_at {P : Program} {w : World} {H : Hp} {h : Heap} {a : Addr} {ks : List Key} (hok : HOk P w H h) (e : H a = some (setHO w a ks)) : SetKs w h a ks := by
  have x : ObjOk P w H h a (.ext fun h => SetKs w h a ks) := hok a _ e
  exact x.1
theorem each_keyV (P : Program) (w : World) : ∀ {all : List Key} {us : List Value}, Vals (all.map kV) us → EachIs (fun v k => keyIs k v = true) us all
  | [], _, r => by cases r; exact .nil
  | k :: all, _, r => by
    cases r with
    | cons a b => exact .cons (kV_is (P := P) (w := w) a) (each_keyV P w b)
section
variable {X : Cx}
def rSetKs (K : PySem.W.Frag) (w : World) : List V → Hp → VK → Prop := fun vs H Q => ∃ (a : Addr) (all : List Key), vs = [.ref a] ∧ SqL K H a (all.map kV) ∧ all.length + 1 < scanBound ∧ ∀ p, H p = none → Q (.ref p) (upd H p (setHO w p (firstK all)))
theorem cr_setKs (hc : X.calm = true) : CallR X (.type "set") (rSetKs X.K X.w) := by
  intro pins s σ H vs us Q I r ⟨a, all, e, sq, hb, q⟩
  subst e
  obtain ⟨its, rv, hl, hz⟩ := I.list sq
  rw [Vals.ref1 r]
  refine call_ks (I.ok.hd hc) hl.isList (by simpa using each_keyV X.prog X.w rv) hb fun h' tk S k => ?_
  exact ⟨.ref _, upd H s.heap.objs.size (setHO X.w s.heap.objs.size (firstK all)), I.laid (t' := tk) (fun b u e => k b u (Heap.lt_size e) e) (Nat.le_refl _) (setHO_ok S), rfl, q _ (I.hok.fresh (Nat.le_refl _))⟩
/-- a key as data -/
def keyP : Key → PyData
  | .inl i => .int i
  | .inr x => .str x
def rSortKs (w : World) : List V → Hp → VK → Prop := fun vs H Q => ∃ (p : Addr) (ks : List Key), vs = [.ref p] ∧ H p = some (setHO w p ks) ∧ AllAlike (ks.map keyP) ∧ ∀ bs : List Key, bs.Perm ks → ∀ q, H q = none → Q (.ref q) (upd H q (.lst ((bs.mergeSort (dataLe false keyP)).map kV)))
theorem keyP_reads {h : Heap} {k : Key} {v : Value} (e : keyIs k v = true) : Reads h v (keyP k) [] := by
  rcases keyIs_shape e with ⟨i, t, rfl, rfl⟩ | ⟨x, t, rfl, rfl⟩
  · exact .int _ _
  · exact .str _ _
theorem keyP_depth (k : Key) : (keyP k).depth = 0 := by cases k <;> rfl
theorem keyP_sort (ks : List Key) : Sortable (ks.map keyP) := Sortable.others fun k => by
  cases k
  · exact ⟨(fun z => nomatch z), (fun _ z => nomatch z)⟩
  · exact ⟨(fun z => nomatch z), (fun _ z => nomatch z)⟩
theorem alike_perm {bs ks : List Key} (p : bs.Perm ks) (h : AllAlike (ks.map keyP)) : AllAlike (bs.map keyP) := fun d hd d' hd' =>
  h d ((p.map keyP).mem_iff.mp hd) d' ((p.map keyP).mem_iff.mp hd')
theorem each_perm {α β : Type} {R : α → β → Prop} {l l' : List α} (p : l'.Perm l) : ∀ {ks : List β}, EachIs R l ks → ∃ ks', ks'.Perm ks ∧ EachIs R l' ks' := by
  induction p with
  | nil => exact fun h => ⟨_, List.Perm.refl _, h⟩
  | cons x p ih =>
    intro ks h
    cases h with
    | cons a t =>
      obtain ⟨ks', p', h'⟩ := ih t
      exact ⟨_ :: ks', p'.cons _, .cons a h'⟩
  | swap x y l =>
    intro ks h
    cases h with
    | cons a t =>
      cases t with
      | cons b t => exact ⟨_, List.Perm.swap .., .cons b (.cons a t)⟩
  | trans p1 p2 ih1 ih2 =>
    intro ks h
    obtain ⟨ks1, q1, h1⟩ := ih2 h
    obtain ⟨ks2, q2, h2⟩ := ih1 h1
    exact ⟨ks2, q2.trans q1, h2⟩
theorem each_map2 {α β γ : Type} {R : α → γ → Prop} (f : β → α) : ∀ {l : List β} {ks : List γ}, EachIs (fun e k => R (f e) k) l ks → EachIs R (l.map f) ks
  | _, _, .nil => .nil
  | _, _, .cons a t => .cons a (each_map2 f t)
theorem vals_keys : ∀ {us : List Value} {ks : List Key}, EachIs (fun v k => keyIs k v = true) us ks → Vals (ks.map kV) us
  | _, _, .nil => .nil
  | _, _, .cons (b := k) a t => .cons (by rcases keyIs_shape a with ⟨i, t, rfl, rfl⟩ | ⟨x, t, rfl, rfl⟩ <;> exact ⟨_, rfl⟩) (vals_keys t)
theorem cr_sortKs (hc : X.calm = true) (hu : X.A.units + 64 < cLine) : CallR X (.builtin "sorted") (rSortKs X.w) := by
  intro pins s σ H vs us Q I r ⟨p, ks, e, hp, hal, q⟩
  subst e
  rw [Vals.ref1 r]
  obtain ⟨o, es, ep, t, l, ho, hex, hd, pe, re, nd, hb, hf, hr, hl⟩ := setHO_at I.hok hp
  refine Calls.call_function_entry kind_sorted plain_sorted entry_sorted (args_sorted1 _) ?_
  unfold Builtin.«sorted»
  refine wpAny_bind (m := checkCount "sorted" 1 1 _) (wpAny_pure (wpAny_bind (collect_set (A := X.A.in1) (I.ok.hd hc) ⟨o, ho, hex.1, hd⟩ hf hb hr hl fun s1 out k1 hz g1 o1 pm => ?_)))
  obtain ⟨bs, pb, eb⟩ := each_perm (pm.trans (pe.map (·.2))) (each_map2 (R := fun v k => keyIs k v = true) (fun e : Int × Value => e.2) (re.mono fun _ _ z => z.1))
  have hlen : out.length ≤ sizeLine := by
    rw [pm.length_eq, List.length_map, Array.length_toList]
    exact fits_of_scanBound hb
  refine wpAny_bind (wpAny_newList ?_ hlen)
  have hoL : (s1.heap.push (seqObj "list" out.toArray 0)).get? s1.heap.objs.size = some (seqObj "list" out.toArray 0) := Heap.get?_push_size _ rfl
  refine wpAny_bind (wpAny_holding (list_sort_data (R := fun v k => keyIs k v = true) (enc := keyP) (bs := bs) hoL eb (eb.mono fun v k z => ⟨[], keyP_reads z, List.not_mem_nil⟩) (alike_perm pb hal) (keyP_sort bs) (by rw [← eb.length]; exact hlen)
    (fun b _ => by rw [keyP_depth]; show X.A.units + 1 + 1 + 0 < cLine; omega) fun out2 n2 e2 => ?_))
  obtain ⟨c, he⟩ := sortedHeap_at (vs := out) (out := out2.toArray) hoL
  have hn : H s1.heap.objs.size = none := I.hok.fresh hz
  have hl2 : ((bs.mergeSort (dataLe false keyP)).map kV).length ≤ sizeLine := by
    rw [List.length_map, List.length_mergeSort, ← eb.length]
    exact hlen
  have kp : ∀ b u, s.heap.get? b = some u → (sortedHeap (s1.heap.push (seqObj "list" out.toArray 0)) s1.heap.objs.size out out2.toArray).get? b = some u := fun b u e => by
    have z := k1 b u e
    have lt := Heap.lt_size z
    rw [sortedHeap_old (Nat.ne_of_lt lt) (by rw [Heap.size_push]; exact Nat.lt_succ_of_lt lt)]
    exact Heap.get?_push_of_some _ z
  refine wpAny_pure ⟨_, rfl, .ref s1.heap.objs.size, _, ?_, rfl, q bs pb s1.heap.objs.size hn⟩
  obtain ⟨hp1, ge1, dr1, tk1, os1⟩ := s1
  cases g1
  cases o1
  have J : Inv X pins σ (upd H hp1.objs.size (.lst ((bs.mergeSort (dataLe false keyP)).map kV))) { s with heap := sortedHeap (hp1.push (seqObj "list" out.toArray 0)) hp1.objs.size out out2.toArray, drawn := dr1, toks := tk1 } :=
    I.call (ch := []) (Un.laid kp hz hn) (I.hok.laid kp hz ⟨hl2, out2, c, vals_keys e2, he⟩) I.bare (fun _ z => nomatch z)
  exact J
def keyD : Key → D
  | .inl i => .int i
  | .inr x => .str x
theorem keyD_rd {K : PySem.W.Frag} {H : Hp} {k : Key} {v : V} : RD K H (keyD k) v ↔ v = kV k := by
  cases k <;> exact Iff.rfl
theorem rds_keys {K : PySem.W.Frag} {H : Hp} : ∀ {all : List Key} {xs : List V}, RDs K H (all.map keyD) xs → xs = all.map kV
  | [], _, r => by cases r; rfl
  | k :: all, _, r => by
    obtain ⟨v, r', rfl, h1, h2⟩ := r
    rw [keyD_rd.mp h1, rds_keys h2]
    rfl
theorem keys_rds {K : PySem.W.Frag} {H : Hp} : ∀ all : List Key, RDs K H (all.map keyD) (all.map kV)
  | [] => .nil
  | k :: all => RDs.cons (keyD_rd.mpr rfl) (keys_rds all)
theorem fold_key {k : Key} : ∀ (all acc : List Key), k ∈ all.foldl addK acc → k ∈ acc ∨ k ∈ all
  | [], acc, h => .inl h
  | j :: all, acc, h => by
    rcases fold_key all (addK acc j) h with z | z
    · unfold addK at z
      split at z
      · exact .inl z
      · rcases List.mem_append.mp z with z | z
        · exact .inl z
        · exact .inr (by rw [List.mem_singleton.mp z]; exact List.mem_cons_self)
    · exact .inr (List.mem_cons_of_mem _ z)
theorem alike_first {all : List Key} (h : AllAlike (all.map keyP)) : AllAlike ((firstK all).map keyP) := fun d hd d' hd' => by
  have up : ∀ x, x ∈ (firstK all).map keyP → x ∈ all.map keyP := fun x hx => by
    obtain ⟨k, hk, rfl⟩ := List.mem_map.mp hx
    rcases fold_key all [] hk with z | z
    · cases z
    · exact List.mem_map.mpr ⟨k, z, rfl⟩
  exact h d (up d hd) d' (up d' hd')
/-- sorted(set(e)) -/
def dSortSet (t : DTE) : DTE := fun E τ S Q => t E τ S fun d S1 => ∃ all : List Key, (d = .rol (all.map keyD) ∨ ∃ a, d = .ref a ∧ S1 a = some (.lst (all.map keyD))) ∧ all.length + 1 < scanBound ∧ AllAlike (all.map keyP) ∧
  ∀ bs : List Key, bs.Perm (firstK all) → newO S1 (.lst ((bs.mergeSort (dataLe false keyP)).map keyD)) fun p S' => Q (.ref p) S'
variable {x y : Str} {e : Expr} {p p' pos pos' : Pos} {t : DTE}
end
end Dt
set_option maxRecDepth 100000
set_option maxHeartbeats 4000000
/-! DatW: in; comprehensions whose list is a value; dicts' methods. -/
namespace Dt
open PySem PySem.Spec L2 PySem.W PyProof.Rows

/-! ### in -/
@[simp] def dIn (neg : Bool) : R2D := fun d e S Q => match e with
  | .tup ds => dInF neg d ds S Q
  | .rol ds => dInQ neg d ds S Q
  | .ref a => (match S a with
    | some (.lst ds) => dInQ neg d ds S Q
    | some (.dK kvs) => opt (dkey d) fun k => Q (.bl (if neg then !(lk kvs k).isSome else (lk kvs k).isSome)) S
    | some (.dN kvs) => okT d = true ∧ Q (.bl (if neg then !(lk kvs d).isSome else (lk kvs d).isSome)) S
    | _ => False)
  | _ => False
theorem dIn_mono (neg : Bool) : Mono2 (dIn neg) := fun x y S Q Q' k h => by
  cases y with
  | tup ds => exact ⟨h.1, h.2.1, k _ _ h.2.2⟩
  | rol ds => exact dInQ_mono k h
  | ref a =>
    revert h
    show (match S a with | some (.lst ds) => _ | some (.dK kvs) => _ | some (.dN kvs) => _ | _ => False) → (match S a with | some (.lst ds) => _ | some (.dK kvs) => _ | some (.dN kvs) => _ | _ => False)
    split
    · exact fun h => dInQ_mono k h
    · exact fun h => opt_mono (fun _ z => k _ _ z) h
    · exact fun h => ⟨h.1, k _ _ h.2⟩
    · exact fun h => h
  | _ => exact h.elim
section
variable {X : Cx}
theorem od_in_neg (neg : Bool) (op : CmpOp) (he : op = if neg then .NotIn else .In) (hu : X.A.units + 120 < cLine) : OpR X (compareOp op) (upO X.w X.K (dIn neg)) := by
  rintro pins s σ H x y v u Q I rx ry ⟨d, e, S, rep, rd, re, h⟩
  have go : rIn X.K neg x y H Q → wpAny (model X.prog X.w) X.A (compareOp op v u) (EP X pins σ Q) X.xe s := fun z => by
    subst he
    cases neg
    · exact op_in_seq pins s σ H x y v u Q I rx ry z
    · exact op_notIn_seq pins s σ H x y v u Q I rx ry z
  have lst : ∀ {ds : List D}, seqD S e = some ds → dInQ neg d ds S (fun z S' => ∀ v H', LeH H H' → Rep X.w X.K S' H' → RD X.K H' z v → Q v H') → wpAny (model X.prog X.w) X.A (compareOp op v u) (EP X pins σ Q) X.xe s := fun {ds} es ⟨b, r, q⟩ => by
    rcases r with ⟨f, g, rfl⟩ | ⟨hd, hs, rfl⟩
    · obtain ⟨p, xs, rfl, sq, rs⟩ := seqD_rd rep re es
      exact go ⟨p, xs, rfl, .inl sq.l, flD_V rd f, flDs_V rs g, by rw [inF_V rd f rs g]; exact q _ H (LeH.refl H) rep rfl⟩
    · obtain ⟨p2, s2⟩ := seqD_pd es hs
      rw [← inP_dec hd.1 fun e he => (hs e he).1] at q
      subst he
      cases neg
      · exact (od_inL (X := X) (by omega)).run pins s σ H x y v u Q I rx ry ⟨d, e, S, rep, rd, re, _, _, hd.pd S, p2, hd.shaped (by decide), s2, q⟩
      · exact (od_ninL (X := X) (by omega)).run pins s σ H x y v u Q I rx ry ⟨d, e, S, rep, rd, re, _, _, hd.pd S, p2, hd.shaped (by decide), s2, q⟩
  cases e with
  | tup ds =>
    obtain ⟨p, xs, rfl, sq, rs⟩ : ∃ p xs, y = V.ref p ∧ SqT X.K H p xs ∧ RDs X.K H ds xs := re
    exact go ⟨p, xs, rfl, .inr sq, flD_V rd h.1, flDs_V rs h.2.1, by rw [inF_V rd h.1 rs h.2.1]; exact h.2.2 _ H (LeH.refl H) rep rfl⟩
  | rol ds => exact lst rfl h
  | ref a =>
    revert h
    show (match S a with | some (.lst ds) => _ | some (.dK kvs) => _ | some (.dN kvs) => _ | _ => False) → _
    split
    · rename_i ds ea
      exact lst (by simp [ea])
    · rename_i kvs ea
      intro h
      cases re
      obtain ⟨ws, e0, rk⟩ : ∃ ws, H a = some (.dK ws) ∧ RKs X.K H kvs ws := rep a _ ea
      obtain ⟨k, ek, h⟩ := opt_ex h
      have ey := dkey_rd ek rd
      subst ey
      cases ry
      have g : DGet H a (kV k) (valV ws k) := DGet.k e0
      subst he
      cases neg
      · exact d_in (by omega) I g rx fun s3 I3 => ⟨.bl _, H, I3, rfl, by rw [rk.isSome k]; exact h _ H (LeH.refl H) rep rfl⟩
      · exact d_notIn (by omega) I g rx fun s3 I3 => ⟨.bl _, H, I3, rfl, by rw [rk.isSome k]; exact h _ H (LeH.refl H) rep rfl⟩
    · rename_i kvs ea
      rintro ⟨hk, h⟩
      cases re
      cases ry
      obtain ⟨xs, dd, rx', hsys, hl, nd, mu⟩ := dn_open I (rep a _ ea)
      obtain ⟨nk, b, ek, _, rfl, rfl, his⟩ := okT_key I hk rd rx
      rw [← rx'.isSome ek] at h
      subst he
      cases neg
      · exact in_keyed (knd := nestedKind X.prog X.w) (show X.A.units + 1 + 8 < cLine by omega) his hsys ⟨xs, dd, rfl⟩ ⟨.bl _, H, I.tok _, rfl, by rw [valueAt_pairsH, Option.isSome_map]; exact h _ H (LeH.refl H) rep rfl⟩
      · exact notIn_keyed (knd := nestedKind X.prog X.w) (show X.A.units + 1 + 8 < cLine by omega) his hsys ⟨xs, dd, rfl⟩ ⟨.bl _, H, I.tok _, rfl, by rw [valueAt_pairsH, Option.isSome_map]; exact h _ H (LeH.refl H) rep rfl⟩
    · exact fun h => h.elim
  | _ => exact h.elim
theorem od_in (hu : X.A.units + 120 < cLine) : OpD X (compareOp .In) (dIn false) := ⟨dIn_mono false, od_in_neg false .In rfl hu⟩
theorem od_nin (hu : X.A.units + 120 < cLine) : OpD X (compareOp .NotIn) (dIn true) := ⟨dIn_mono true, od_in_neg true .NotIn rfl hu⟩
end
/-! ### comprehensions whose list is a value -/
theorem lcF_inv {g : DTG} {tt : DTT} {te : DTE} {E : DW} {τ : DSt} {G : DH → Prop} {ds : List D} {S : DH} {Q : DK} (I : Nat → List D → DH → Prop) (h0 : I 0 [] S)
    (hG : ∀ i acc S1 p, i ≤ ds.length → I i acc S1 → S1 p = none → G (upo S1 p (.lst acc)))
    (hs : ∀ i d acc S1 p (N : DH → Prop), ds[i]? = some d → I i acc S1 → S1 p = none → acc.length < 16777216 → (∀ acc' S2, S2 p = none → I (i + 1) acc' S2 → acc'.length ≤ acc.length + 1 → N (upo S2 p (.lst acc'))) →
      g d τ (upo S1 p (.lst acc)) fun τ1 S2 => tt E τ1 S2 fun b S3 => if b = true then te E τ1 S3 fun y S4 => (match S4 p with | some (.lst acc) => acc.length < 16777216 ∧ N (upo S4 p (.lst (acc ++ [y]))) | _ => False) else N S3)
    (hl : ds.length < sizeLine) (hd : ∀ acc S1, I ds.length acc S1 → Q (.rol acc) S1) : newO S (.lst []) fun p S1 => dLcL g tt te E τ G p (fzK Q (.ref p)) ds S1 := by
  intro p hp
  have go : ∀ (m i : Nat) (acc : List D) (S1 : DH), i + m = ds.length → acc.length ≤ i → S1 p = none → I i acc S1 → dLcL g tt te E τ G p (fzK Q (.ref p)) (ds.drop i) (upo S1 p (.lst acc)) := by
    intro m
    induction m with
    | zero =>
      intro i acc S1 e _ hp1 hi
      have e' : i = ds.length := by omega
      subst e'
      rw [List.drop_length]
      exact ⟨hG _ _ _ _ (Nat.le_refl _) hi hp1, fzK_new hp1 (hd _ _ hi)⟩
    | succ m ih =>
      intro i acc S1 e ha hp1 hi
      have hlt : i < ds.length := by omega
      have ed : ds[i]? = some ds[i] := List.getElem?_eq_getElem hlt
      rw [drop_at ed]
      refine ⟨hG _ _ _ _ (by omega) hi hp1, ?_⟩
      have := hs i _ acc S1 p (dLcL g tt te E τ G p (fzK Q (.ref p)) (ds.drop (i + 1))) ed hi hp1 (by rw [line_lt] at hl; omega) fun acc' S2 h2 hi2 hle => ih (i + 1) acc' S2 (by omega) (by omega) h2 hi2
      simp only [line_lt] at this ⊢
      exact this
  have := go ds.length 0 [] S (by omega) (Nat.le_refl _) hp h0
  rwa [List.drop_zero] at this
/-- [f d for d in ds if c d], where nothing changes -/
theorem lcF_of {g : DTG} {tt : DTT} {te : DTE} {E : DW} {τ : DSt} {G : DH → Prop} {ds : List D} {S : DH} {Q : DK} (c : D → Bool) (f : D → D)
    (hG : ∀ p acc, S p = none → G (upo S p (.lst acc)))
    (hs : ∀ d ∈ ds, ∀ acc p (N : DH → Prop), S p = none → acc.length < 16777216 → (c d = true → N (upo S p (.lst (acc ++ [f d])))) → (c d = false → N (upo S p (.lst acc))) →
      g d τ (upo S p (.lst acc)) fun τ1 S2 => tt E τ1 S2 fun b S3 => if b = true then te E τ1 S3 fun y S4 => (match S4 p with | some (.lst acc) => acc.length < 16777216 ∧ N (upo S4 p (.lst (acc ++ [y]))) | _ => False) else N S3)
    (hl : ds.length < sizeLine) (hq : Q (.rol ((ds.filter c).map f)) S) : newO S (.lst []) fun p S1 => dLcL g tt te E τ G p (fzK Q (.ref p)) ds S1 := by
  refine lcF_inv (fun i acc S1 => S1 = S ∧ acc = ((ds.take i).filter c).map f) ⟨rfl, rfl⟩ (fun i acc S1 p _ ⟨e, _⟩ hp => by subst e; exact hG p acc hp) (fun i d acc S1 p N ed ⟨e1, e2⟩ hp ha hN => ?_) hl fun acc S1 ⟨e1, e2⟩ => ?_
  · subst e1
    refine hs d (List.mem_of_getElem? ed) acc p N hp ha (fun hc => hN _ _ hp ⟨rfl, ?_⟩ (by simp)) fun hc => hN _ _ hp ⟨rfl, ?_⟩ (by simp)
    · rw [List.take_succ, ed, e2]
      simp [hc]
    · rw [List.take_succ, ed, e2]
      simp [hc]
  · subst e1 e2
    rw [List.take_length]
    exact hq
/-- [f d for d in ds], where nothing changes -/
theorem lcF_map {g : DTG} {te : DTE} {E : DW} {τ : DSt} {G : DH → Prop} {ds : List D} {S : DH} {Q : DK} (f : D → D)
    (hG : ∀ p acc, S p = none → G (upo S p (.lst acc)))
    (hs : ∀ d ∈ ds, ∀ acc p (N : DH → Prop), S p = none → acc.length < 16777216 → N (upo S p (.lst (acc ++ [f d]))) →
      g d τ (upo S p (.lst acc)) fun τ1 S2 => te E τ1 S2 fun y S4 => (match S4 p with | some (.lst acc) => acc.length < 16777216 ∧ N (upo S4 p (.lst (acc ++ [y]))) | _ => False))
    (hl : ds.length < sizeLine) (hq : Q (.rol (ds.map f)) S) : newO S (.lst []) fun p S1 => dLcL g dYes te E τ G p (fzK Q (.ref p)) ds S1 := by
  have hf : ds.filter (fun _ => true) = ds := List.filter_eq_self.mpr fun _ _ => rfl
  refine lcF_of (fun _ => true) f hG (fun d hd acc p N hp ha h1 _ => ?_) hl (by rw [hf]; exact hq)
  simpa only [dYes, if_true] using hs d hd acc p N hp ha (h1 rfl)
/-! ### sorted(set(e)) -/
/-- sorted, each once -/
def ssD (ds : List D) : List D := srtD ds.eraseDups
theorem ss_mem {ds : List D} {d : D} : d ∈ ssD ds ↔ d ∈ ds := by unfold ssD; rw [srt_mem, List.mem_eraseDups]
theorem nodup_eraseDups {α : Type} [BEq α] [LawfulBEq α] : ∀ (n : Nat) (l : List α), l.length ≤ n → l.eraseDups.Nodup
  | _, [], _ => by simp
  | 0, _ :: _, h => by simp at h
  | n + 1, a :: l, h => by
    rw [List.eraseDups_cons]
    refine List.nodup_cons.mpr ⟨fun z => ?_, nodup_eraseDups n _ (Nat.le_trans (List.length_filter_le ..) (by simpa using h))⟩
    rw [List.mem_eraseDups] at z
    simpa using (List.mem_filter.mp z).2
theorem ss_nodup (ds : List D) : (ssD ds).Nodup := (srt_perm _).nodup_iff.mpr (nodup_eraseDups _ _ (Nat.le_refl _))
theorem perm_of_mem {α : Type} [DecidableEq α] {as bs : List α} (ha : as.Nodup) (hb : bs.Nodup) (h : ∀ x, x ∈ as ↔ x ∈ bs) : as.Perm bs := by
  rw [List.perm_iff_count]
  intro x
  rw [ha.count, hb.count]
  simp [h x]
/-- a list that rises, with just these things -/
theorem ss_is {t : Ty} {as bs : List D} (ht : ∀ d ∈ as, hasTy t d = true) (nd : bs.Nodup) (hs : bs.Pairwise fun a b => ltD b a = false) (h : ∀ x, x ∈ as ↔ x ∈ bs) : ssD as = bs :=
  sorted_one (t := t) (fun d hd => ht d (ss_mem.mp hd)) (srt_sorted _) hs (perm_of_mem (ss_nodup as) nd fun x => by rw [ss_mem, h])
theorem fold_mem2 {k : Key} : ∀ (all acc : List Key), k ∈ acc ∨ k ∈ all → k ∈ all.foldl addK acc
  | [], acc, h => h.elim id fun z => nomatch z
  | j :: all, acc, h => by
    refine fold_mem2 all (addK acc j) ?_
    rcases h with h | h
    · left
      unfold addK
      split
      · exact h
      · exact List.mem_append_left _ h
    · rcases List.mem_cons.mp h with rfl | h
      · left
        unfold addK
        split
        · rename_i z
          exact any_key.mp z
        · exact List.mem_append_right _ (List.mem_singleton.mpr rfl)
      · exact .inr h
theorem first_mem {k : Key} {all : List Key} : k ∈ firstK all ↔ k ∈ all := ⟨fun h => (fold_key all [] h).elim (fun z => nomatch z) id, fun h => fold_mem2 all [] (.inr h)⟩
theorem addK_nodup {ks : List Key} {k : Key} (h : ks.Nodup) : (addK ks k).Nodup := by
  unfold addK
  split
  · exact h
  · rename_i z
    exact List.nodup_append.mpr ⟨h, List.nodup_cons.mpr ⟨List.not_mem_nil, .nil⟩, fun a ha b hb e => z (any_key.mpr (by rw [← List.mem_singleton.mp hb, ← e]; exact ha))⟩
theorem first_nodup (all : List Key) : (firstK all).Nodup := by
  have go : ∀ (all acc : List Key), acc.Nodup → (all.foldl addK acc).Nodup := fun all => by
    induction all with
    | nil => exact fun _ h => h
    | cons k all ih => exact fun acc h => ih _ (addK_nodup h)
  exact go all [] .nil
theorem keyD_inj {a b : Key} (h : keyD a = keyD b) : a = b := by
  cases a <;> cases b <;> simp [keyD] at h <;> rw [h]
theorem keyP_D (k : Key) : keyP k = toP (keyD k) := by cases k <;> rfl
theorem nodup_mapD {ks : List Key} (h : ks.Nodup) : (ks.map keyD).Nodup := by
  rw [List.nodup_iff_pairwise_ne, List.pairwise_map]
  exact (List.nodup_iff_pairwise_ne.mp h).imp fun h e => h (keyD_inj e)
theorem keys_of {t : Ty} (ht : t = .int ∨ t = .str) : ∀ {xs : List D}, (∀ d ∈ xs, hasTy t d = true) → ∃ all : List Key, xs = all.map keyD
  | [], _ => ⟨[], rfl⟩
  | d :: xs, h => by
    obtain ⟨all, e⟩ := keys_of ht (xs := xs) fun x hx => h x (List.mem_cons_of_mem _ hx)
    have hd := h d (List.mem_cons_self ..)
    rcases ht with rfl | rfl
    · cases d <;> first | (simp [hasTy] at hd; done) | exact ⟨_ :: all, by rw [e]; exact List.map_cons (f := keyD) (a := Sum.inl _) |>.symm⟩
    · cases d <;> first | (simp [hasTy] at hd; done) | exact ⟨_ :: all, by rw [e]; exact List.map_cons (f := keyD) (a := Sum.inr _) |>.symm⟩
def scTy (b : Bool) : Ty := if b then .int else .str
@[simp] def dSortSetM (t : DTE) : DTE := fun E τ S Q => t E τ S fun d S1 => opt (seqD S1 d) fun xs => (∃ b, ∀ d ∈ xs, hasTy (scTy b) d = true) ∧ xs.length + 1 < scanBound ∧ newO S1 (.lst (ssD xs)) fun p S' => Q (.ref p) S'
@[simp] def dSortSetF (t : DTE) : DTE := fun E τ S Q => t E τ S fun d S1 => opt (seqD S1 d) fun xs => (∃ b, ∀ d ∈ xs, hasTy (scTy b) d = true) ∧ xs.length + 1 < scanBound ∧ Q (.rol (ssD xs)) S1
theorem key_sorted {t : Ty} {bs : List Key} : ((bs.mergeSort (dataLe false keyP)).map keyD).Pairwise fun a b => ltD b a = false := by
  rw [List.pairwise_map]
  have e : (dataLe false keyP) = fun a b : Key => !ltD (keyD b) (keyD a) := by
    funext a b
    show (!dataLt (keyP b) (keyP a)) = _
    rw [keyP_D, keyP_D]
    rfl
  rw [e]
  have := List.pairwise_mergeSort (le := fun a b : Key => !ltD (keyD b) (keyD a)) (fun a b c h1 h2 => by
    cases e : ltD (keyD c) (keyD a) with
    | false => rfl
    | true =>
      rcases ltD_neg (y := keyD b) e with z | z
      · rw [z] at h2; cases h2
      · rw [z] at h1; cases h1) (fun a b => by
    cases e : ltD (keyD b) (keyD a) with
    | false => rfl
    | true => rw [ltD_asymm e]; rfl) bs
  exact this.imp fun h => by simpa using h
section
variable {X : Cx} {x y : Str} {e : Expr} {p p' pos pos' : Pos} {t : DTE}
end
end Dt
set_option maxRecDepth 100000
set_option maxHeartbeats 4000000
/-! DatX: y = [..] whose list is a value; ends of defs. -/
namespace Dt
open PySem PySem.Spec L2 PySem.W PyProof.Rows
theorem hu64 {A : Around} (h : A.units + 120 < cLine) : A.units + 64 < cLine := by omega
/-- what a def's body ends in -/
abbrev dEnd (Q : DK) (E : DXK) : DEnds := { nx := fun _ S' => Rt Q .non S', rt := Rt Q, xe := fun C fs _ S' => ∃ S'', Sub S'' S' ∧ E C fs S'' }
theorem fzK_at {X : Cx} {pins : List (Addr × Obj)} {σ : L2.St} {s : Shared} {S : DH} {H : Hp} {d : D} {v : V} {Q : DK} (I : Inv X pins σ H s) (r : Rep X.w X.K S H) (rd : RD X.K H d v) (h : fzK Q d S) :
    ∃ d' S' H', Inv X pins σ H' s ∧ LeH H H' ∧ Rep X.w X.K S' H' ∧ RD X.K H' d' v ∧ Q d' S' := by
  cases d with
  | ref a =>
    obtain rfl : v = .ref a := rd
    revert h
    show (match S a with | some (.lst ds) => _ | _ => False) → _
    split
    · rename_i ds ea
      intro h
      obtain ⟨xs, eh, rs⟩ : ∃ xs, H a = some (.lst xs) ∧ RDs X.K H ds xs := r a _ ea
      obtain ⟨o, I1⟩ := inv_frz I eh
      exact ⟨.rol ds, delo S a, _, I1, LeH.frz eh, rep_frz r eh, ⟨a, xs, rfl, .inl ⟨o, upd_same⟩, rs.le (LeH.frz eh)⟩, h⟩
    · exact fun h => h.elim
  | _ => exact ⟨_, S, H, I, LeH.refl H, r, rd, h⟩
section
variable {X : Cx} {tg iter elt : Expr} {ifs : List Expr} {scope : Scope} {own : List (Str × Nat)} {pos spos py : Pos} {ti : DTI} {g : DTG} {tt : DTT} {te : DTE}
theorem ds_setLcF {i : Nat} {y : Str} (hc : X.calm = true) (hN : X.N.Nodup) (hy : X.N[i]? = some y) (hyl : X.env.scope.names.lookup y = some .local)
    (hsw : swapsWith (.ListComp elt [⟨tg, iter, ifs, 0⟩] scope pos) (some (.Name y py)) spos.line X.env = pure true) (hi : DI X tg iter ti) (ok : BlkOk X.N X.env.scope scope own) (B : Blk X scope (own.map (·.2)) elt tg ifs g tt te)
    (hs : ∀ x, foldedSetIterable iter X.env x = pure x := by intro _; rfl) : DS X (.Assign [.Name y py] (.ListComp elt [⟨tg, iter, ifs, 0⟩] scope pos) spos) (dAsg (dFz (dLc ti g tt te (own.map (·.2)))) (dGN i)) := by
  have h0 := ds_setLc (g := g) (tt := tt) (te := te) hc hN hy hyl hsw hi ok B hs
  have m0 := dLc_mono hi B
  refine ⟨fun A B' τ S le q => m0 _ _ _ _ _ _ le.xe (fzK_mono fun _ _ z => le.nx _ _ z) q, ⟨fun pins s σ H D I ⟨E, τ, S, w, r, q⟩ => ?_⟩⟩
  have hlen : i < τ.length := by
    rw [r.st.len, I.len]
    exact (List.getElem?_eq_some_iff.mp hy).1
  refine PySem.wpAny_mono (h0.run.run pins s σ H { D with nx := fun σ' H' => ∃ τ' S' d, LeH H H' ∧ Rel X.w X.K τ' S' σ' H' ∧ τ' = τ.set i (some d) ∧ fzK (fun d S' => ∀ σ' H', LeH H H' → Rel X.w X.K (τ.set i (some d)) S' σ' H' → D.nx σ' H') d S' } I ⟨E, τ, S, w, r, ?_⟩) (fun fl s' hs => ?_) fun e s' hs => hs
  · exact m0 _ _ _ _ _ _ (fun _ _ _ _ z => z) (fun d S' z => show (dnE X.w X.K H _ E).nx _ _ from fun σ' H' le r' => ⟨_, S', d, le, r', rfl, z⟩) q
  · cases fl with
    | next =>
      obtain ⟨σ', H', J, τ', S', d, le, r', rfl, z⟩ := hs
      obtain ⟨v, ev, rv⟩ := r'.st.get i d (by rw [List.getElem?_set]; simp [hlen])
      obtain ⟨d', S2, H2, J2, le2, rp2, rd2, q2⟩ := fzK_at J r'.rep rv z
      refine ⟨σ', H2, J2, q2 σ' H2 (le.trans le2) ⟨⟨by simpa using r'.st.len, fun j e he => ?_⟩, rp2⟩⟩
      by_cases hj : i = j
      · subst hj
        rw [List.getElem?_set, if_pos rfl, if_pos hlen] at he
        cases he
        exact ⟨v, ev, rd2⟩
      · rw [List.getElem?_set, if_neg hj] at he
        obtain ⟨u, eu, ru⟩ := r'.st.get j e (by rw [List.getElem?_set, if_neg hj]; exact he)
        exact ⟨u, eu, ru.le le2⟩
    | ret u => exact hs
    | brk => exact hs
    | cont => exact hs
end
end Dt
set_option maxRecDepth 100000
set_option maxHeartbeats 4000000
/-! DatY: texts, cuts, names. -/
namespace Dt
open PySem PySem.Spec L2
section
variable {α : Type} {x y z : α} {xs : List α}
@[simp] theorem atI_0 : atI (x :: xs) 0 = some x := atI_nat (j := 0) rfl
@[simp] theorem atI_1 : atI (x :: y :: xs) 1 = some y := atI_nat (j := 1) rfl
@[simp] theorem atI_2 : atI (x :: y :: z :: xs) 2 = some z := atI_nat (j := 2) rfl
end
/-- a name -/
def Nm (y : Str) : Prop := 1 ≤ y.length ∧ y.length ≤ 8 ∧ ∀ c ∈ y.cps.toList, 97 ≤ c ∧ c ≤ 122
theorem Nm.pl {y : Str} (h : Nm y) : Pl 8 y := ⟨h.2.1, fun c hc => Nat.lt_of_le_of_lt (h.2.2 c hc).2 (by decide)⟩
@[simp] theorem cutD_drop (ds : List D) (k : Nat) : cutD ds (some (k : Int)) none = ds.drop k := by
  unfold cutD
  rw [HT.sIx_nat, HT.sIx_none]
  rcases Nat.le_total k ds.length with h | h
  · rw [Nat.min_eq_left h]
    exact List.take_of_length_le (by simp)
  · rw [Nat.min_eq_right h, List.drop_eq_nil_of_le (Nat.le_refl _), List.drop_eq_nil_of_le h]
    simp
@[simp] theorem cutD_take (ds : List D) (k : Nat) : cutD ds none (some (k : Int)) = ds.take k := by
  unfold cutD
  rw [HT.sIx_nat, HT.sIx_none, List.drop_zero, Nat.sub_zero]
  rcases Nat.le_total k ds.length with h | h
  · rw [Nat.min_eq_left h]
  · rw [Nat.min_eq_right h, List.take_of_length_le (Nat.le_refl _), List.take_of_length_le h]
@[simp] theorem cutD_drop1 (ds : List D) (k : Nat) : cutD ds (some ((k : Int) + 1)) none = ds.drop (k + 1) := cutD_drop ds (k + 1)
@[simp] theorem cutD_take1 (ds : List D) (k : Nat) : cutD ds none (some ((k : Int) + 1)) = ds.take (k + 1) := cutD_take ds (k + 1)
theorem dSeq_gen {a b : DTS} {A : DEnds} {τ : DSt} {S : DH} (h : ∀ R, R = b → dSeq a R A τ S) : dSeq a b A τ S := h b rfl
theorem dIf_gen {c : DTT} {a b : DTS} {A : DEnds} {τ : DSt} {S : DH} (h : ∀ R1 R2, R1 = a → R2 = b → dIf c R1 R2 A τ S) : dIf c a b A τ S := h a b rfl rfl
theorem dSeqIf_gen {c : DTT} {a b r : DTS} {A : DEnds} {τ : DSt} {S : DH} (h : ∀ R1 R2 R, R1 = a → R2 = b → R = r → dSeq (dIf c R1 R2) R A τ S) : dSeq (dIf c a b) r A τ S := h a b r rfl rfl rfl
theorem dFor_gen {ti : DTI} {g : DTG} {tb : DTS} {A : DEnds} {τ : DSt} {S : DH} (h : ∀ B, B = tb → dFor ti g B A τ S) : dFor ti g tb A τ S := h tb rfl
theorem dSeqFor_gen {ti : DTI} {g : DTG} {tb r : DTS} {A : DEnds} {τ : DSt} {S : DH} (h : ∀ B R, B = tb → R = r → dSeq (dFor ti g B) R A τ S) : dSeq (dFor ti g tb) r A τ S := h tb r rfl rfl
end Dt
set_option maxRecDepth 100000
set_option maxHeartbeats 4000000
/-! DatI: instances: o.f, o.f = e, C(..). -/
namespace Dt
open PySem PySem.Spec L2
/-- o.f -/
def dFldK (C : Addr) (f : Str) (Q : DK) : DK := fun d S1 => match d with
  | .ref a => (match S1 a with | some (.ins C' fs) => C' = C ∧ opt (fs.lookup f) fun v => Q v S1 | _ => False)
  | _ => False
@[simp] theorem dFldK_ref {C a : Addr} {f : Str} {Q : DK} {S : DH} : dFldK C f Q (.ref a) S = (match S a with | some (.ins C' fs) => C' = C ∧ opt (fs.lookup f) fun v => Q v S | _ => False) := rfl
@[simp] def dFld (C : Addr) (f : Str) (ta : DTE) : DTE := fun E τ S Q => ta E τ S (dFldK C f Q)
section
variable {X : Cx} {k : Nat} {f C : Addr} {fd : FuncData} {ps : List Str} {sp : DSp} {x m : Str} {p pos apos pos' : Pos} {e o value : Expr} {es : List Expr} {ta tv : DTE} {t : DTA}
/-- o.f = e -/
def putFD (f : Str) (v : D) : List (Str × D) → List (Str × D)
  | [] => [(f, v)]
  | (g, x) :: r => if g = f then (g, v) :: r else (g, x) :: putFD f v r
theorem RKs.len {κ : Type} {K : PySem.W.Frag} {H : Hp} : ∀ {fs : List (κ × D)} {ws : List (κ × V)}, RKs K H fs ws → fs.length = ws.length
  | [], _, h => by cases h; rfl
  | _ :: _, _, h => by
    obtain ⟨y, s, rfl, h1, h2⟩ := h
    rw [List.length_cons, List.length_cons, RKs.len h2]
def dPutFK (C : Addr) (f : Str) (y : D) (N : DH → Prop) : D → DH → Prop := fun d S2 => match d with
  | .ref a => (match S2 a with | some (.ins C' fs) => C' = C ∧ fs.length < 1000 ∧ N (upo S2 a (.ins C (putFD f y fs))) | _ => False)
  | _ => False
@[simp] theorem dPutFK_ref {C a : Addr} {f : Str} {y : D} {N : DH → Prop} {S : DH} : dPutFK C f y N (.ref a) S = (match S a with | some (.ins C' fs) => C' = C ∧ fs.length < 1000 ∧ N (upo S a (.ins C (putFD f y fs))) | _ => False) := rfl
@[simp] def dPutF (C : Addr) (f : Str) (ta tv : DTE) : DTS := fun A τ S => tv A.xe τ S fun y S1 => ta A.xe τ S1 (dPutFK C f y (A.nx τ))
/-- C(..) -/
@[simp] def dMake (C : Addr) (sp : DSp) (t : DTA) : DTE := fun E τ S Q => t E τ S fun ds S1 => ∀ x, S1 x = none → sp (.ref x :: ds) (upo S1 x (.ins C [])) (fun d S' => d = .non ∧ Q (.ref x) S') fun C fs S' => E C fs τ S'
end
end Dt
set_option maxRecDepth 100000
set_option maxHeartbeats 4000000
/-! DatJ: a dict's keys as a row: sorted(d), list(d); the methods of dicts. -/
namespace Dt
open PySem PySem.Spec L2 PySem.W PyProof.Rows
@[simp] def keysO (o : Ob) : Option (List D) := match o with
  | .dK kvs => some (kvs.map fun kv => keyD kv.1)
  | .dN kvs => some (kvs.map (·.1))
  | _ => none
@[simp] def keysD (S : DH) (d : D) : Option (List D) := match d with | .ref a => (S a).bind keysO | _ => none
section
variable {X : Cx} {pins : List (Addr × Obj)} {σ : L2.St} {H : Hp} {s : Shared} {a : Addr}
theorem pairs_vals {P : Program} {w : World} : ∀ {es : List DictEntry} {vs : List (Key × Value)}, Pairs (mixKind P w) es vs → Vals (vs.map fun p => kV p.1) (es.map (·.key))
  | _, _, .nil => .nil
  | _, _, .cons h1 h2 t => by
    rw [List.map_cons, List.map_cons]
    refine .cons ?_ (pairs_vals t)
    rcases keyIs_shape h1 with ⟨i, t, ek, ev⟩ | ⟨z, t, ek, ev⟩
    · rw [ek, ev]; exact ⟨t, rfl⟩
    · rw [ek, ev]; exact ⟨t, rfl⟩
theorem keys_raw (I : Inv X pins σ H s) {ob : Ob} {ks : List D} (r : ROb X.w X.K H a ob) (e : keysO ob = some ks) :
    ∃ es ep xs, s.heap.DictRaw a es ep ∧ (a == sysModules) = false ∧ es.size ≤ sizeLine ∧ Vals xs (es.toList.map (·.key)) ∧ RDs X.K H ks xs := by
  cases ob with
  | dK kvs =>
    cases e
    obtain ⟨ws, e0, rk⟩ : ∃ ws, H a = some (.dK ws) ∧ RKs X.K H kvs ws := r
    obtain ⟨z, lo, vs, kv, o, es, ep, h1, h2, h3, h4, h5, h6⟩ := dk_of I.hok e0
    have hl : kvs.length = ws.length := rk.length
    have hl2 : ws.length = vs.length := Paired.length kv
    have hl3 : es.toList.length = vs.length := h5.length
    have e1 : (kvs.map fun q => keyD q.1) = (vs.map fun p => p.1).map keyD := by
      have go : ∀ {kvs : List (Key × D)} {ws : List (Key × V)} {vs : List (Key × Value)}, RKs X.K H kvs ws → KV ws vs → (kvs.map fun q => keyD q.1) = (vs.map fun p => p.1).map keyD := by
        intro kvs
        induction kvs with
        | nil => intro ws vs r k; cases r; cases k; rfl
        | cons q kvs ih =>
          intro ws vs r k
          obtain ⟨v, s', rfl, _, r2⟩ := r
          cases k with
          | cons a b => rw [List.map_cons, List.map_cons, List.map_cons, ih r2 b, ← a.1]
      exact go rk kv
    refine ⟨es, ep, _, ⟨o, h1, h2, h3⟩, lo, by simp at hl3; omega, pairs_vals h5, ?_⟩
    rw [e1]
    have e2 : (vs.map fun p => kV p.1) = (vs.map fun p => p.1).map kV := by rw [List.map_map]; rfl
    rw [e2]
    exact keys_rds _
  | dN kvs =>
    cases e
    obtain ⟨xs, ⟨o, es, ep, h1, h2, h3, h4, h5, h6⟩, rx, hs, hz, _⟩ := dn_open I r
    have go : ∀ {kvs : List (D × D)} {xs : List (NestedKey × Addr × Value)}, RX X.K H kvs xs → ∃ ys, Vals ys (xs.map fun x => Value.ref x.2.1) ∧ RDs X.K H (kvs.map (·.1)) ys := by
      intro kvs
      induction kvs with
      | nil => intro xs r; cases r; exact ⟨[], .nil, .nil⟩
      | cons q kvs ih =>
        intro xs r
        obtain ⟨nk, b, u, s', rfl, ⟨_, _, r1, _⟩, r2⟩ := r
        obtain ⟨ys, g1, g2⟩ := ih r2
        exact ⟨.ref b :: ys, .cons rfl g1, RDs.cons r1 g2⟩
    obtain ⟨ys, g1, g2⟩ := go rx
    have hl : es.size = xs.length := by
      have := congrArg List.length h4
      simpa using this
    refine ⟨es, ep, ys, ⟨o, h1, h2, h3⟩, hs, by rw [hl, ← rx.length]; exact hz, ?_, g2⟩
    rw [h4, List.map_map]
    exact g1
  | lst ds => cases e
  | ins C fs => cases e
  | exc _ _ => cases e
  | xd _ => cases e
  | ex0 _ => cases e
  | ex1 _ _ => cases e
  | xm _ => cases e
  | fK _ => cases e
  | fN _ => cases e
theorem items_keys {es : Array DictEntry} {acc : Array Value} (h : ItemsOf (fun i v => ∃ hi : i < es.size, v = es[i].key) acc es.size) : acc.toList = es.toList.map (·.key) := by
  obtain ⟨h1, h2⟩ := h
  refine List.ext_getElem? fun i => ?_
  rw [List.getElem?_map, Array.getElem?_toList, Array.getElem?_toList]
  cases e : acc[i]? with
  | none =>
    have : es.size ≤ i := by
      have := Array.getElem?_eq_none_iff.mp e
      omega
    rw [Array.getElem?_eq_none_iff.mpr this]
    rfl
  | some v =>
    obtain ⟨hi, ev⟩ := h2 i v e
    rw [Array.getElem?_eq_getElem hi, ev]
    rfl
end
/-! ### sorted of a sequence, of a dict -/
@[simp] def cSortA : RCD := fun ds S Q => match ds with
  | [d] => (opt (seqD S d) fun xs => cSrt xs fun ys => newO S (.lst ys) fun p S' => Q (.ref p) S') ∨ (opt (keysD S d) fun xs => cSrt xs fun ys => newO S (.lst ys) fun p S' => Q (.ref p) S')
  | _ => False
@[simp] def cSortAF : RCD := fun ds S Q => match ds with
  | [d] => (opt (seqD S d) fun xs => cSrt xs fun ys => Q (.rol ys) S) ∨ (opt (keysD S d) fun xs => cSrt xs fun ys => Q (.rol ys) S)
  | _ => False
theorem keysD_ex {S : DH} {d : D} {ks : List D} (h : keysD S d = some ks) : ∃ a ob, d = .ref a ∧ S a = some ob ∧ keysO ob = some ks := by
  cases d <;> first | (cases h; done) | skip
  rename_i a
  show ∃ a' ob, _
  have h' : (S a).bind keysO = some ks := h
  cases e : S a with
  | none => rw [e] at h'; cases h'
  | some ob => rw [e] at h'; exact ⟨a, ob, rfl, e, h'⟩
section
variable {X : Cx}
theorem cd_sortA (hc : X.calm = true) (hu : X.A.units + 64 < cLine) : CallD X (.builtin "sorted") cSortA := by
  refine ⟨fun ds S Q Q' k h => ?_, fun pins s σ H vs us Q I rv ⟨ds, S, rep, rd, h⟩ => ?_⟩
  · match ds, h with
    | [d], h => exact h.imp (opt_mono (fun _ h => ⟨h.1, fun p hp => k _ _ (h.2 p hp)⟩)) (opt_mono (fun _ h => ⟨h.1, fun p hp => k _ _ (h.2 p hp)⟩))
  · match ds, h with
    | [d], .inl h => exact (cd_sorted hu).run pins s σ H vs us Q I rv ⟨[d], S, rep, rd, h⟩
    | [d], .inr h =>
      obtain ⟨ks, e, ⟨t, ht, hd⟩, hQ⟩ := opt_ex h
      obtain ⟨a, ob, rfl, ea, ek⟩ := keysD_ex e
      obtain ⟨v, rfl, r⟩ := rds1 rd
      cases r
      rw [Vals.ref1 rv]
      obtain ⟨es, ep, xs, dr, lo, hz, vx, rx⟩ := keys_raw I (rep a ob ea) ek
      refine Calls.call_function_entry kind_sorted plain_sorted entry_sorted (args_sorted1 _) ?_
      unfold Builtin.«sorted»
      refine wpAny_bind (m := checkCount "sorted" 1 1 _) (wpAny_pure ?_)
      refine wpAny_bind (kdu_collect (A := X.A.in1) (KdlSrc.rawDict lo) (I.ok.hd hc) dr hz fun h' tk acc hk hacc => ?_)
      have eacc := items_keys hacc
      have I1 : Inv X pins σ H { s with heap := h', toks := tk } := I.kept hk
      have hal : acc.toList.length = ks.length := by rw [eacc, ← vx.length, rx.length]
      have hks : ks.length ≤ sizeLine := by rw [← hal, Array.length_toList, hacc.1]; exact hz
      rw [← eacc] at vx
      have ee := each_rel vx rx
      have sm : ∀ d ∈ ks, Sm 50 d := fun d z => (hasTy_sm t d (hd d z)).mono (sortTy_dep ht)
      refine wpAny_bind (wpAny_newList ?_ (by rw [hal]; exact hks))
      have hoL : (h'.push (seqObj "list" acc.toList.toArray 0)).get? h'.objs.size = some (seqObj "list" acc.toList.toArray 0) := Heap.get?_push_size _ rfl
      have er : EachIs (fun u d => ∃ as, Reads (sortingHeap (h'.push (seqObj "list" acc.toList.toArray 0)) h'.objs.size acc.toList) u (toP d) as) acc.toList ks := by
        refine EachIs.mono (fun u d z => ?_) (each_and ee sm)
        obtain ⟨⟨x, a1, a2⟩, a3⟩ := z
        obtain ⟨as, ra⟩ := Dp.reads I1 (toP d) x u ((a3.pd S).dp rep _ _ _ a2) a1
        exact ⟨as, Reads.keeps (fun b o q => sortingHeap_old (Nat.ne_of_lt (Heap.lt_size q)) (Heap.get?_push_of_some _ q)) ra⟩
      show wpAny _ _ _ _ _ { s with heap := h'.push (seqObj "list" acc.toList.toArray 0), toks := tk }
      have Srt := SortsAt.data (prog := X.prog) (w := X.w) (A := X.A.in1.in1) (s := { s with heap := sortingHeap (h'.push (seqObj "list" acc.toList.toArray 0)) h'.objs.size acc.toList, toks := tk }) (each_map (R := fun v d => ∃ as, Reads (sortingHeap (h'.push (seqObj "list" acc.toList.toArray 0)) h'.objs.size acc.toList) v d as) toP er) (cd_sorted.AllAlike.of' hd) (sortable_ty ht hd) (bound_map (A := X.A.in1.in1) fun b hb => by
        have h2 := (sm b hb).2
        show X.A.units + 2 + _ < _
        rw [dep_P]; omega)
      refine wpAny_bind (wpAny_holding (wpAny_call_entry slot_list_sort ⟨_, hoL, rfl⟩ entry_list_sort
        (list_sort_vals (s := { s with heap := h'.push (seqObj "list" acc.toList.toArray 0), toks := tk }) hoL Srt (by rw [hal]; exact hks) ⟨_, rfl, ?_⟩) (args_list_sort _)))
      have out := sortVals_data (R := fun u d => ∃ x, RelV x u ∧ RD X.K H d x) false ee er (cd_sorted.AllAlike.of' hd)
      rw [srtD_eq] at out
      obtain ⟨ys, r1, r2⟩ := rel_each out
      obtain ⟨e', he'⟩ := sortedHeap_at (vs := acc.toList) (out := (sortVals (dataKind (sortingHeap (h'.push (seqObj "list" acc.toList.toArray 0)) h'.objs.size acc.toList) (ks.map toP)) false acc.toList acc.toList).toArray) hoL
      have hn : H h'.objs.size = none := I1.hok.fresh (Nat.le_refl _)
      have hyl : ys.length ≤ sizeLine := by rw [← r2.length]; exact Nat.le_trans (Nat.le_of_eq (srt_len ks)) hks
      have le : LeH H (upd H h'.objs.size (.lst ys)) := LeH.new hn
      refine wpAny_pure ⟨_, rfl, .ref h'.objs.size, upd H h'.objs.size (.lst ys), I1.laid (t' := tk) (fun b u q => ?_) (Nat.le_refl _) ⟨hyl, _, e', r1, he'⟩, rfl, ?_⟩
      · have hb : b < h'.objs.size := Heap.lt_size q
        show (sortedHeap _ _ _ _).get? b = _
        rw [sortedHeap_old (Nat.ne_of_lt hb) (by rw [size_push']; exact Nat.lt_succ_of_lt hb)]
        exact Heap.get?_push_of_some _ q
      · exact hQ h'.objs.size (rep.free hn) _ _ le (rep.new hn ⟨ys, upd_same, r2.le le⟩) rfl
theorem cd_sortAF (hc : X.calm = true) (hu : X.A.units + 64 < cLine) : CallD X (.builtin "sorted") cSortAF := (cd_fz (cd_sortA hc hu)).sub (fun ds S Q Q' k h => by
    unfold cSortAF at h ⊢
    split at h
    · exact h.imp (opt_mono (fun _ h => ⟨h.1, k _ _ h.2⟩)) (opt_mono (fun _ h => ⟨h.1, k _ _ h.2⟩))
    · exact h) fun ds S Q h => by
    unfold cSortAF at h
    unfold cFz cSortA
    split at h
    · exact h.imp (opt_mono (fun _ h => ⟨h.1, fun p hp => fzK_new hp h.2⟩)) (opt_mono (fun _ h => ⟨h.1, fun p hp => fzK_new hp h.2⟩))
    · exact h
/-! ### list of a sequence, of a dict -/
@[simp] def cListA : RCD := fun ds S Q => match ds with
  | [d] => cList [d] S Q ∨ (opt (keysD S d) fun ys => newO S (.lst ys) fun p S' => Q (.ref p) S')
  | _ => False
@[simp] def cListAF : RCD := fun ds S Q => match ds with
  | [d] => cListF [d] S Q ∨ (opt (keysD S d) fun ys => Q (.rol ys) S)
  | _ => False
theorem cd_listA (hc : X.calm = true) : CallD X (.type "list") cListA := by
  refine ⟨fun ds S Q Q' k h => ?_, fun pins s σ H vs us Q I rv ⟨ds, S, rep, rd, h⟩ => ?_⟩
  · match ds, h with
    | [d], h => exact h.imp ((cd_list (X := X)).mono _ _ _ _ k) (opt_mono (fun _ h => fun p hp => k _ _ (h p hp)))
  · match ds, h with
    | [d], .inl h => exact cd_list.run pins s σ H vs us Q I rv ⟨[d], S, rep, rd, h⟩
    | [d], .inr h =>
      obtain ⟨ks, e, hQ⟩ := opt_ex h
      obtain ⟨a, ob, rfl, ea, ek⟩ := keysD_ex e
      obtain ⟨v, rfl, r⟩ := rds1 rd
      cases r
      rw [Vals.ref1 rv]
      obtain ⟨es, ep, xs, dr, lo, hz, vx, rx⟩ := keys_raw I (rep a ob ea) ek
      refine kdl_call (KdlSrc.rawDict lo) (I.ok.hd hc) dr hz fun h' tk acc c' hk hD hacc => ?_
      have eacc := items_keys hacc
      have hn : H s.heap.objs.size = none := I.hok.fresh (Nat.le_refl _)
      have le : LeH H (upd H s.heap.objs.size (.lst xs)) := LeH.new hn
      rw [← eacc] at vx
      have hyl : xs.length ≤ sizeLine := by rw [vx.length, Array.length_toList, hacc.1]; exact hz
      exact ⟨.ref s.heap.objs.size, upd H s.heap.objs.size (.lst xs), I.laid (t' := tk) hk (Nat.le_refl _) ⟨hyl, acc.toList, c', vx, by rw [Array.toArray_toList]; exact hD⟩, rfl,
        hQ s.heap.objs.size (rep.free hn) _ _ le (rep.new hn ⟨xs, upd_same, rx.le le⟩) rfl⟩
theorem cd_listAF (hc : X.calm = true) : CallD X (.type "list") cListAF := (cd_fz (cd_listA hc)).sub (fun ds S Q Q' k h => by
    unfold cListAF at h ⊢
    split at h
    · exact h.imp ((cd_listF (X := X)).mono _ _ _ _ k) (opt_mono (fun _ h => k _ _ h))
    · exact h) fun ds S Q h => by
    unfold cListAF at h
    unfold cFz cListA
    split at h
    · rename_i d
      refine h.imp (fun z => ?_) (opt_mono (fun _ h => fun p hp => fzK_new hp h))
      unfold cListF at z
      unfold cList
      split at z
      · rename_i e; cases e; exact fun p hp => fzK_new hp z
      · rename_i d' _ e
        cases e
        obtain ⟨xs, e, q⟩ := opt_ex z
        clear z
        cases d with
        | rol ys => cases e; exact fun p hp => fzK_new hp q
        | ref a =>
          revert e
          show (match S a with | some (.lst xs) => some xs | _ => none) = some xs → (match S a with | some (.lst xs) => _ | _ => False)
          split
          · intro e; cases e; exact fun p hp => fzK_new hp q
          · intro e; cases e
        | _ => cases e
      · exact z.elim
    · exact h
end
/-! ### get, pop, setdefault of dicts -/
@[simp] def lkO (ob : Ob) (k : D) : Option (Option D) := match ob with
  | .dK kvs => (dkey k).map fun kk => lk kvs kk
  | .dN kvs => if okT k = true then some (lk kvs k) else none
  | _ => none
@[simp] def drO (ob : Ob) (k : D) : Option Ob := match ob with
  | .dK kvs => (dkey k).map fun kk => .dK (dr kvs kk)
  | .dN kvs => if okT k = true then some (.dN (dr kvs k)) else none
  | _ => none
@[simp] def mDGet : RMD := fun d ds S Q => match d with
  | .ref a => opt (S a) fun ob => match ds with
    | [k] => opt (lkO ob k) fun o => Q (o.getD .non) S
    | [k, x] => opt (lkO ob k) fun o => Q (o.getD x) S
    | _ => False
  | _ => False
@[simp] def mDPop : RMD := fun d ds S Q => match d with
  | .ref a => opt (S a) fun ob => match ds with
    | [k] => opt (lkO ob k) fun o => opt o fun x => opt (drO ob k) fun ob' => Q x (upo S a ob')
    | [k, x] => opt (lkO ob k) fun o => (match o with | some y => opt (drO ob k) fun ob' => Q y (upo S a ob') | none => Q x S)
    | _ => False
  | _ => False
@[simp] def mDSet : RMD := fun d ds S Q => match d with
  | .ref a => opt (S a) fun ob => match ds with
    | [k, x] => opt (lkO ob k) fun o => (match o with | some y => Q y S | none => opt (putO ob k x) fun ob' => Q x (upo S a ob'))
    | _ => False
  | _ => False
section
variable {X : Cx} {pins : List (Addr × Obj)} {σ : L2.St} {H : Hp} {s : Shared} {a : Addr}
end
/-! ### a, b = a tuple or a list -/
@[simp] def dGTupA (n : Nat) (t : DTGs) : DTG := fun d τ S Q => match d with
  | .tup ds => ds.length = n ∧ t ds τ S Q
  | d => opt (seqD S d) fun ds => ds.length = n ∧ t ds τ S Q
section
variable {X : Cx} {pos : Pos} {ts : DTGs}
theorem dg_tupA {es : List Expr} {k : Nat} {n : Nat} (hc : X.calm = true) (h : DGs X es ts) (hn : (assignEach es X.env).length = n := by rfl) (hst : (assignEach es X.env).findIdx? (·.1) = none := by rfl) : DG X (.Tuple es k pos) (dGTupA n ts) := by
  have two : PG X (.Tuple es k pos) fun v σ H Q => gTup X.K n (upGs X ts) v σ H Q ∨ gLst X.K n (upGs X ts) v σ H Q :=
    ⟨fun pins s σ H v u Q I r q => q.elim ((pg_tup hc h.run hn hst).run pins s σ H v u Q I r) ((pg_lst hc h.run hn hst).run pins s σ H v u Q I r)⟩
  refine ⟨fun d τ S Q Q' k q => ?_, pG_imp two fun v σ H Q ⟨d, τ, S, r, rd, q⟩ => ?_⟩
  · have o : ∀ d : D, (opt (seqD S d) fun ds => ds.length = n ∧ ts ds τ S Q) → (opt (seqD S d) fun ds => ds.length = n ∧ ts ds τ S Q') := fun d q => opt_mono (fun _ q => ⟨q.1, h.mono _ _ _ _ _ k q.2⟩) q
    cases d with
    | tup ds => exact ⟨q.1, h.mono _ _ _ _ _ k q.2⟩
    | non => exact o .non q
    | bl b => exact o (.bl b) q
    | int b => exact o (.int b) q
    | str b => exact o (.str b) q
    | rol b => exact o (.rol b) q
    | ref b => exact o (.ref b) q
  · have lst : ∀ {d : D}, RD X.K H d v → (opt (seqD S d) fun ds => ds.length = n ∧ ts ds τ S fun τ' S' => ∀ σ' H', LeH H H' → Rel X.w X.K τ' S' σ' H' → Q σ' H') → gLst X.K n (upGs X ts) v σ H Q := fun rd q => by
      obtain ⟨ds, e, q⟩ := opt_ex q
      obtain ⟨a, xs, rfl, sq, rs⟩ := seqD_rd r.rep rd e
      exact ⟨a, xs, rfl, sq.l, by rw [← rs.length]; exact q.1, ds, τ, S, r, rs, q.2⟩
    cases d with
    | tup ds =>
      obtain ⟨p, xs, rfl, sq, rds⟩ : ∃ p xs, v = V.ref p ∧ SqT X.K H p xs ∧ RDs X.K H ds xs := rd
      exact .inl ⟨p, xs, rfl, sq, by rw [← rds.length]; exact q.1, ds, τ, S, r, rds, q.2⟩
    | non => exact .inr (lst rd q)
    | bl _ => exact .inr (lst rd q)
    | int _ => exact .inr (lst rd q)
    | str _ => exact .inr (lst rd q)
    | rol _ => exact .inr (lst rd q)
    | ref _ => exact .inr (lst rd q)
end
end Dt
set_option maxRecDepth 100000
set_option maxHeartbeats 4000000
/-! DatK: set(t) of a tuple, sorted(set(t)). -/
namespace Dt
open PySem PySem.Spec L2 PySem.W PyProof.Rows
section
variable {P : Program} {w : World} {A : Around} {E : Value → Shared → Prop} {s : Shared} {a : Addr} {ks : List Key}
set_option maxHeartbeats 8000000 in
/-- set(xs): ints and texts -/
theorem call_ksT {l : Addr} {items : Array Value} {all : List Key} {Q : Value → Shared → Prop} (hh : A.handled = none) (hl : s.heap.IsTuple l items) (hit : EachIs (fun v k => keyIs k v = true) items.toList all) (hb : all.length + 1 < scanBound)
    (h : ∀ (h' : Heap) (tk : Nat), SetKs w h' s.heap.objs.size (firstK all) → (∀ b o, b < s.heap.objs.size → s.heap.get? b = some o → h'.get? b = some o) → Q (.ref s.heap.objs.size) { s with heap := h', toks := tk }) :
    wpAny (model P w) A (call (.type "set") [.ref l]) Q E s := by
  have hn : items.size = all.length := by rw [← Array.length_toList, hit.length]
  obtain ⟨c, tl, hmro⟩ := F.called_set.mro
  have hmade := F.called_set.made; have hsub := F.called_set.sub
  refine wpAny_call (codeAny_of_tree (show wpAny _ _ (callAny (.type "set") _) _ _ _ from wpAny_pure ⟨Code.quiet_builtin _ (by decide +kernel), codeAny_builtin F.entry_type_call ?_⟩))
  rw [Around.under_plain (weight_type_call_type "set" [.ref l] []) rfl]
  have h1 := F.called_set.notType; have h2 := F.called_set.canCreate; have hct := F.typeCall_set_1 (.ref l)
  repeat (any_goals (first | assumption | wp_step))
  refine codeAny_mono (code_set_led1 (.ref l) (E := E) (Q₁ := fun obj s₁ => obj = .ref s.heap.objs.size ∧ s₁ = { s with heap := s.heap.push (newSet w) }) ⟨rfl, rfl⟩) fun r s₁ hr => ?_
  match r, hr with
  | .error e, hr => exact hr
  | .ok .next, hr => exact hr.elim
  | .ok .brk, hr => exact hr.elim
  | .ok .cont, hr => exact hr.elim
  | .ok (.ret obj), ⟨e1, e2⟩ =>
    subst e1; subst e2
    have hS : (s.heap.push (newSet w)).get? s.heap.objs.size = some (newSet w) := Heap.get?_push_size _ rfl
    have hT : Shared.TypeIs { s with heap := s.heap.push (newSet w) } (.ref s.heap.objs.size) "set" := ⟨_, hS, rfl⟩
    have hli := F.called_set.init.lookup; have hbi := F.called_set.init.bind (.ref s.heap.objs.size)
    repeat (any_goals (first | assumption | wp_step))
    refine codeAny_mono (codeAny_call_builtin (R := wants (fun r s₂ => r = .none ∧ ∃ h' tk, s₂ = { s with heap := h', toks := tk } ∧ SetKs w h' s.heap.objs.size (firstK all) ∧ ∀ b o, b < s.heap.objs.size → s.heap.get? b = some o → h'.get? b = some o) E) F.called_set.init.plain F.entry_set_init (check_set_init_1 hT ?_)) fun r₂ s₂ hr₂ => ?_
    · obtain ⟨⟨ocls, odict, odata, oslots⟩, hol, hcl, nl, hdl⟩ := hl
      simp only at hcl hdl
      subst hcl; subst hdl
      have hol' : (s.heap.push (newSet w)).get? l = some { cls := .type "tuple", dict := odict, data := .seq items nl, slots := oslots } := Heap.get?_push_of_some _ hol
      have hsls := F.sub_tuple_set; have hslf := F.sub_tuple_frozenset; have hne : (Value.type "tuple" == Value.type "dict") = false := by decide
      have hl1 : (s.heap.push (newSet w)).IsTuple l items := ⟨_, hol', rfl, nl, rfl⟩
      unfold Builtin.«set.__init__» noKeywords Builtin.Frozenset.updateFrom
      (generalize hPI : pyIter = PI; wp_walk; subst hPI)
      refine wpAny_pyIter_tuple hl1 (wpAny_bind (wpAny_runValue ?_))
      have hlS : l < s.heap.objs.size := Heap.lt_size hol
      have hh3 : A.in1.in1.in1.handled = none := by simp [hh]
      have hz : (s.heap.push (newSet w)).objs.size = s.heap.objs.size + 1 := Heap.size_push ..
      have hneI : l ≠ (s.heap.push (newSet w)).objs.size := fun z => absurd hlS (by rw [z, Heap.size_push]; exact Nat.not_lt_of_le (Nat.le_succ _))
      have hSf : s.heap.objs.size ∉ [(s.heap.push (newSet w)).objs.size, l] := by
        rw [Heap.size_push]
        simp only [List.mem_cons, List.not_mem_nil, or_false, not_or]
        exact ⟨fun z => absurd z (Nat.ne_of_lt (Nat.lt_succ_self _)), fun z => absurd hlS (by rw [← z]; exact Nat.lt_irrefl _)⟩
      have hval : ∀ (i : Nat) (v : Value), items[i]? = some v → ∃ k, all[i]? = some k ∧ keyIs k v = true := fun i v hv => by
        rw [← Array.getElem?_toList] at hv
        exact each_get hit hv
      refine ks_loop (B := s.heap.objs.size) (all := all) ((Walks.tuple hh3 _ l hneI items).toS) hSf hn hval (by omega) (fun s' s0 hm hS' e0 => ?_) (items.size - 0) 0 _ (by omega) (Nat.zero_le _) ⟨⟨_, Heap.get?_push_size _ rfl, rfl, rfl⟩, (hl1.push _)⟩ (ks_none (Heap.get?_push_of_some _ hS)) (fun _ z => z)
      subst e0
      obtain ⟨h', g', d', tk', os'⟩ := s'
      have eg : g' = s.gens := hm.gens
      have ed : d' = s.drawn := hm.drawn
      have eo : os' = s.os := hm.os
      subst eg; subst ed; subst eo
      refine (show wpAny _ _ _ _ _ _ from wpAny_pure (show wpAny _ _ (ret Value.none) _ _ _ from wpAny_pure ⟨rfl, h', tk', rfl, hS', fun b o hb e => ?_⟩))
      exact hm.heap b o (by rw [Heap.size_push]; simp only [List.mem_cons, List.not_mem_nil, or_false, not_or]; exact ⟨Nat.ne_of_lt hb, Nat.ne_of_lt (Nat.lt_succ_of_lt hb)⟩) (Heap.get?_push_of_some _ (Heap.get?_push_of_some _ e))
    · match r₂, hr₂ with
      | .error e, hr₂ => exact hr₂
      | .ok .next, hr₂ => exact hr₂.elim
      | .ok .brk, hr₂ => exact hr₂.elim
      | .ok .cont, hr₂ => exact hr₂.elim
      | .ok (.ret r), ⟨e1, h', tk, e2, hS', hk'⟩ =>
        subst e1; subst e2
        repeat (any_goals (first | assumption | wp_step))
        exact h _ _ hS' hk'
end
end Dt

namespace Dt
open PySem PySem.Spec L2 PySem.W PyProof.Rows
/-- the row of a tuple or a list -/
def rowD (S : DH) (d : D) : Option (List D) := match d with | .tup xs => some xs | d => seqD S d
@[simp] theorem rowD_tup (S : DH) (xs : List D) : rowD S (.tup xs) = some xs := rfl
@[simp] theorem rowD_rol (S : DH) (xs : List D) : rowD S (.rol xs) = some xs := rfl
@[simp] theorem rowD_ref (S : DH) (a : Addr) : rowD S (.ref a) = (match S a with | some (.lst xs) => some xs | _ => none) := rfl
section
variable {X : Cx}
def rSetKsA (K : PySem.W.Frag) (w : World) : List V → Hp → VK → Prop := fun vs H Q => ∃ (a : Addr) (all : List Key), vs = [.ref a] ∧ (SqL K H a (all.map kV) ∨ SqT K H a (all.map kV)) ∧ all.length + 1 < scanBound ∧ ∀ p, H p = none → Q (.ref p) (upd H p (setHO w p (firstK all)))
theorem cr_setKsA (hc : X.calm = true) : CallR X (.type "set") (rSetKsA X.K X.w) := by
  intro pins s σ H vs us Q I r ⟨a, all, e, sq, hb, q⟩
  subst e
  rcases sq with sq | sq
  · exact cr_setKs hc pins s σ H _ us Q I r ⟨a, all, rfl, sq, hb, q⟩
  · obtain ⟨its, rv, hl, hz⟩ := I.tuple sq
    rw [Vals.ref1 r]
    refine call_ksT (I.ok.hd hc) (show s.heap.IsTuple a its.toArray from hl) (by simpa using each_keyV X.prog X.w rv) hb fun h' tk S k => ?_
    exact ⟨.ref _, upd H s.heap.objs.size (setHO X.w s.heap.objs.size (firstK all)), I.laid (t' := tk) (fun b u e => k b u (Heap.lt_size e) e) (Nat.le_refl _) (setHO_ok S), rfl, q _ (I.hok.fresh (Nat.le_refl _))⟩
variable {x y : Str} {e : Expr} {p p' pos pos' : Pos} {t : DTE}
@[simp] def dSortSetA (t : DTE) : DTE := fun E τ S Q => t E τ S fun d S1 => opt (rowD S1 d) fun xs => (∃ b, ∀ d ∈ xs, hasTy (scTy b) d = true) ∧ xs.length + 1 < scanBound ∧ newO S1 (.lst (ssD xs)) fun p S' => Q (.ref p) S'
@[simp] def dSortSetAF (t : DTE) : DTE := fun E τ S Q => t E τ S fun d S1 => opt (rowD S1 d) fun xs => (∃ b, ∀ d ∈ xs, hasTy (scTy b) d = true) ∧ xs.length + 1 < scanBound ∧ Q (.rol (ssD xs)) S1
theorem de_sortSetA (hc : X.calm = true) (hu : X.A.units + 64 < cLine) (hgs : Gl X "sorted") (hms : X.mg "sorted" = none) (hgt : Gl X "set") (hmt : X.mg "set" = none) (hbs : bootBuiltins "sorted" = some (.builtin "sorted")) (hbt : bootBuiltins "set" = some (.type "set")) (he : DE X e t)
    (h1 : starEach [e] X.env = (false, eval e X.env) :: starEach [] X.env := by rfl) (h2 : starEach [Expr.Call (.Name "set" p') [e] [] pos'] X.env = (false, eval (Expr.Call (.Name "set" p') [e] [] pos') X.env) :: starEach [] X.env := by rfl) :
    DE X (.Call (.Name "sorted" p) [.Call (.Name "set" p') [e] [] pos'] [] pos) (dSortSetA t) := by
  refine ⟨fun E E' τ S Q Q' hE k q => he.mono _ _ _ _ _ _ hE (fun d S1 q => opt_mono (fun _ q => ⟨q.1, q.2.1, fun p hp => k _ _ (q.2.2 p hp)⟩) q) q, pE_imp (pe_callB (cr_sortKs hc hu) hgs hms hbs (pa_cons (pe_callTy (cr_setKsA hc) hgt hmt hbt (pa_cons he.run pa_nil h1) (by decide) (by decide) h1 rfl) pa_nil h2) (by decide) (by decide) h2 rfl) fun σ H Q ⟨E, τ, S, w, rl, q⟩ => ?_⟩
  refine he.to w rl q fun d S1 v H1 le w1 r1 rd q => ?_
  obtain ⟨xs, ex, ⟨b, hb⟩, hl, q⟩ := opt_ex q
  have ht : scTy b = .int ∨ scTy b = .str := by cases b; exact .inr rfl; exact .inl rfl
  obtain ⟨all, rfl⟩ := keys_of ht hb
  have hal : AllAlike (all.map keyP) := fun p hp q hq => by
    obtain ⟨j, hj, rfl⟩ := List.mem_map.mp hp
    obtain ⟨k, hk, rfl⟩ := List.mem_map.mp hq
    rw [keyP_D, keyP_D]
    exact hasTy_alike _ _ _ (hb _ (List.mem_map_of_mem hj)) (hb _ (List.mem_map_of_mem hk))
  obtain ⟨a, rfl, sq⟩ : ∃ a, v = .ref a ∧ (SqL X.K H1 a (all.map kV) ∨ SqT X.K H1 a (all.map kV)) := by
    cases d with
    | tup ds =>
      cases ex
      obtain ⟨a, ys, rfl, sq, rs⟩ : ∃ a ys, v = V.ref a ∧ SqT X.K H1 a ys ∧ RDs X.K H1 (all.map keyD) ys := rd
      exact ⟨a, rfl, .inr (rds_keys rs ▸ sq)⟩
    | rol ds =>
      cases ex
      obtain ⟨a, ys, rfl, sq, rs⟩ : ∃ a ys, v = V.ref a ∧ SqR X.K H1 a ys ∧ RDs X.K H1 (all.map keyD) ys := rd
      exact ⟨a, rfl, .inl (rds_keys rs ▸ sq.l)⟩
    | ref a =>
      simp only [rowD_ref] at ex
      split at ex
      · rename_i ys ea
        cases ex
        obtain ⟨zs, e0, rs⟩ : ∃ zs, H1 a = some (.lst zs) ∧ RDs X.K H1 (all.map keyD) zs := r1.rep a _ ea
        exact ⟨a, rd, .inl (rds_keys rs ▸ .of e0)⟩
      · cases ex
    | non => cases ex
    | bl _ => cases ex
    | int _ => cases ex
    | str _ => cases ex
  refine ⟨a, all, rfl, sq, by simpa using hl, fun p hp => ⟨p, firstK all, rfl, upd_same, alike_first hal, fun bs pb q' hq => ?_⟩⟩
  have rg := r1.rep.garb (u := setHO X.w p (firstK all)) hp
  have e : (bs.mergeSort (dataLe false keyP)).map keyD = ssD (all.map keyD) := by
    refine (ss_is (t := scTy b) hb (nodup_mapD ((List.mergeSort_perm ..).nodup_iff.mpr (pb.nodup_iff.mpr (first_nodup all)))) (key_sorted (t := .int)) fun x => ?_).symm
    rw [List.mem_map, List.mem_map]
    constructor
    · rintro ⟨k, hk, rfl⟩
      exact ⟨k, (List.mergeSort_perm ..).mem_iff.mpr (pb.mem_iff.mpr (first_mem.mpr hk)), rfl⟩
    · rintro ⟨k, hk, rfl⟩
      exact ⟨k, first_mem.mp (pb.mem_iff.mp ((List.mergeSort_perm ..).mem_iff.mp hk)), rfl⟩
  exact q q' (rg.free hq) _ _ (le.trans ((LeH.new hp).trans (LeH.new hq))) (rg.new hq ⟨_, upd_same, by rw [← e]; exact keys_rds _⟩) rfl
theorem de_sortSetAF (hc : X.calm = true) (hu : X.A.units + 64 < cLine) (hgs : Gl X "sorted") (hms : X.mg "sorted" = none) (hgt : Gl X "set") (hmt : X.mg "set" = none) (hbs : bootBuiltins "sorted" = some (.builtin "sorted")) (hbt : bootBuiltins "set" = some (.type "set")) (he : DE X e t)
    (h1 : starEach [e] X.env = (false, eval e X.env) :: starEach [] X.env := by rfl) (h2 : starEach [Expr.Call (.Name "set" p') [e] [] pos'] X.env = (false, eval (Expr.Call (.Name "set" p') [e] [] pos') X.env) :: starEach [] X.env := by rfl) :
    DE X (.Call (.Name "sorted" p) [.Call (.Name "set" p') [e] [] pos'] [] pos) (dSortSetAF t) :=
  (de_fz (de_sortSetA hc hu hgs hms hgt hmt hbs hbt he h1 h2)).sub (fun E E' τ S Q Q' hE k q => he.mono _ _ _ _ _ _ hE (fun d S1 q => opt_mono (fun _ q => ⟨q.1, q.2.1, k _ _ q.2.2⟩) q) q) fun E τ S Q q => he.mono _ _ _ _ _ _ (fun _ _ _ _ z => z) (fun d S1 q => opt_mono (fun _ q => ⟨q.1, q.2.1, fun p hp => fzK_new hp q.2.2⟩) q) q
end
end Dt
set_option maxRecDepth 100000
set_option maxHeartbeats 4000000
/-! DatZ: what repr takes; patterns as trees. -/
namespace Dt
open PySem PySem.Spec L2
/-! ### repr -/
mutual
/-- may be shown -/
def rp : D → Bool
  | .non => true
  | .bl _ => true
  | .int i => decide (i.natAbs.log2 < 1920) && decide ((PyData.shown (.int i)).length ≤ 13)
  | .str x => PyData.strOk x
  | .tup ds => rps ds
  | .rol ds => rps ds
  | .ref _ => false
def rps : List D → Bool
  | [] => true
  | d :: ds => rp d && rps ds
end
mutual
def wgt : D → Nat
  | .str x => x.length
  | .int i => i.natAbs.log2 + 1
  | .tup ds => wgts ds
  | .rol ds => wgts ds
  | _ => 0
def wgts : List D → Nat
  | [] => 0
  | d :: ds => wgt d + 1 + wgts ds
end
mutual
theorem rp_show : ∀ d : D, rp d = true → imm d = true ∧ (toP d).showable = true ∧ (toP d).leavesShort 13 = true ∧ (toP d).weight ≤ wgt d
  | .non, _ => ⟨rfl, rfl, rfl, Nat.le_refl _⟩
  | .bl _, _ => ⟨rfl, rfl, rfl, Nat.le_refl _⟩
  | .int i, h => by
    simp only [rp, Bool.and_eq_true, decide_eq_true_eq] at h
    refine ⟨rfl, by simpa [toP, PyData.showable] using h.1, by simpa [toP, PyData.leavesShort] using h.2, ?_⟩
    show (if (i == 0) = true then 0 else i.natAbs.log2 + 1) ≤ _
    split
    · exact Nat.zero_le _
    · exact Nat.le_refl _
  | .str x, h => by
    refine ⟨rfl, rfl, ?_, Nat.le_refl _⟩
    show (x.cps.toList.all fun c => decide (c < 16 ^ 8)) = true
    have h' : x.cps.all (· < 0x110000) = true := h
    rw [← Array.all_toList, List.all_eq_true] at h'
    rw [List.all_eq_true]
    exact fun c hc => decide_eq_true (Nat.lt_trans (of_decide_eq_true (h' c hc)) (by decide))
  | .tup ds, h => rps_show ds h
  | .rol ds, h => rps_show ds h
theorem rps_show : ∀ ds : List D, rps ds = true → imms ds = true ∧ PyData.showableAll (toPs ds) = true ∧ PyData.leavesShortAll 13 (toPs ds) = true ∧ PyData.weightAll (toPs ds) ≤ wgts ds
  | [], _ => ⟨rfl, rfl, rfl, Nat.le_refl _⟩
  | d :: ds, h => by
    have h' : (rp d && rps ds) = true := h
    rw [Bool.and_eq_true] at h'
    obtain ⟨a1, a2, a3, a4⟩ := rp_show d h'.1
    obtain ⟨b1, b2, b3, b4⟩ := rps_show ds h'.2
    refine ⟨?_, ?_, ?_, ?_⟩
    · show (imm d && imms ds) = true
      rw [a1, b1]; rfl
    · show ((toP d).showable && PyData.showableAll (toPs ds)) = true
      rw [a2, b2]; rfl
    · show ((toP d).leavesShort 13 && PyData.leavesShortAll 13 (toPs ds)) = true
      rw [a3, b3]; rfl
    · show (toP d).weight + 1 + PyData.weightAll (toPs ds) ≤ wgt d + 1 + wgts ds
      omega
end
structure Rp (d : D) : Prop where
  rp : rp d = true
  w : wgt d ≤ 2 ^ 20
  d : dep d ≤ 100
mutual
theorem Vw.pd {S : DH} {F : List Addr} : ∀ {d e : D}, Vw S F d e → imm e = true → Pd S d (toP e)
  | _, _, .same d, h => imm_pd S d h
  | _, _, .lst h1 _ h3, h => .lst h1 (Vws.pd h3 h)
  | _, _, .tup hs, h => .tup (Vws.pd hs h)
  | _, _, .rol hs, h => .rol (Vws.pd hs h)
theorem Vws.pd {S : DH} {F : List Addr} : ∀ {ds es : List D}, Vws S F ds es → imms es = true → PdA S ds (toPs es)
  | _, _, .nil, _ => .nil
  | _, _, .cons (e := e) (es := es) h1 h2, h => by
    have h' : (imm e && imms es) = true := h
    rw [Bool.and_eq_true] at h'
    exact .cons (Vw.pd h1 h'.1) (Vws.pd h2 h'.2)
end
/-! ### patterns -/
inductive Pt where
  | stay | step (on : Bool) (w : Str) | mark (at_ : Bool) (m : Str) | seq (then_ : Bool) (ps : List Pt) | many (p : Pt)
mutual
def ptD : Pt → D
  | .stay => .tup [.str "stay"]
  | .step b w => .tup [.str "step", .str (if b then "on" else "back"), .str w]
  | .mark b m => .tup [.str (if b then "at" else "off"), .str m]
  | .seq b ps => .tup [.str (if b then "then" else "either"), .tup (ptDs ps)]
  | .many p => .tup [.str "many", ptD p]
def ptDs : List Pt → List D
  | [] => []
  | p :: ps => ptD p :: ptDs ps
end
theorem ptDs_map (ps : List Pt) : ptDs ps = ps.map ptD := by
  induction ps with
  | nil => rfl
  | cons p ps ih => show ptD p :: ptDs ps = _; rw [ih]; rfl
namespace Pt
def kids : Pt → List Pt
  | .seq _ ps => ps
  | .many p => [p]
  | _ => []
def isLeaf : Pt → Bool
  | .seq _ _ => false
  | .many _ => false
  | _ => true
mutual
/-- a pattern and all within it, the outer ones ahead -/
def all : Pt → List Pt
  | .seq b ps => .seq b ps :: alls ps
  | .many p => .many p :: all p
  | .stay => [.stay]
  | .step b w => [.step b w]
  | .mark b m => [.mark b m]
def alls : List Pt → List Pt
  | [] => []
  | p :: ps => all p ++ alls ps
end
mutual
/-- the same, the inner ones ahead -/
def post : Pt → List Pt
  | .seq b ps => posts ps ++ [.seq b ps]
  | .many p => post p ++ [.many p]
  | .stay => [.stay]
  | .step b w => [.step b w]
  | .mark b m => [.mark b m]
def posts : List Pt → List Pt
  | [] => []
  | p :: ps => post p ++ posts ps
end
mutual
/-- how many within one another -/
def deep : Pt → Nat
  | .seq _ ps => deeps ps + 1
  | .many p => deep p + 1
  | _ => 1
def deeps : List Pt → Nat
  | [] => 0
  | p :: ps => max (deep p) (deeps ps)
end
theorem deep_seq (b : Bool) (ps : List Pt) : deep (.seq b ps) = deeps ps + 1 := rfl
theorem deep_many (p : Pt) : deep (.many p) = deep p + 1 := rfl
theorem deeps_nil : deeps [] = 0 := rfl
theorem deeps_cons (p : Pt) (ps : List Pt) : deeps (p :: ps) = max (deep p) (deeps ps) := rfl
theorem all_seq (b : Bool) (ps : List Pt) : all (.seq b ps) = .seq b ps :: alls ps := rfl
theorem all_many (p : Pt) : all (.many p) = .many p :: all p := rfl
theorem alls_nil : alls [] = [] := rfl
theorem alls_cons (p : Pt) (ps : List Pt) : alls (p :: ps) = all p ++ alls ps := rfl
theorem alls_flat (ps : List Pt) : alls ps = ps.flatMap all := by
  induction ps with
  | nil => rfl
  | cons p ps ih => show all p ++ alls ps = _; rw [ih]; rfl
theorem all_kids (p : Pt) : all p = p :: p.kids.flatMap all := by
  cases p <;> simp [all, kids, alls_flat]
mutual
theorem post_all : ∀ p : Pt, (post p).Perm (all p)
  | .seq b ps => by
    show (posts ps ++ [Pt.seq b ps]).Perm (Pt.seq b ps :: alls ps)
    exact (List.perm_append_singleton _ _).trans ((posts_alls ps).cons _)
  | .many p => by
    show (post p ++ [Pt.many p]).Perm (Pt.many p :: all p)
    exact (List.perm_append_singleton _ _).trans ((post_all p).cons _)
  | .stay => List.Perm.refl _
  | .step _ _ => List.Perm.refl _
  | .mark _ _ => List.Perm.refl _
theorem posts_alls : ∀ ps : List Pt, (posts ps).Perm (alls ps)
  | [] => List.Perm.refl _
  | p :: ps => (post_all p).append (posts_alls ps)
end
theorem self_all (p : Pt) : p ∈ all p := by rw [all_kids]; exact List.mem_cons_self
theorem all_pos (p : Pt) : 1 ≤ (all p).length := List.length_pos_of_mem (self_all p)
/-- names are names -/
def okP (P : Str → Prop) : Pt → Prop := fun p => ∀ q ∈ all p, match q with | .step _ w => w = "*" ∨ P w | .mark _ m => P m | _ => True
end Pt
theorem nm_ok {x : Str} (h : Nm x) : PyData.strOk x = true := by
  unfold PyData.strOk
  rw [← Array.all_toList, List.all_eq_true]
  exact fun c hc => decide_eq_true (Nat.lt_of_le_of_lt (h.2.2 c hc).2 (by decide))
theorem ok_lit (s : String) (h : PyData.strOk (Str.ofString s) = true := by decide +kernel) : PyData.strOk (Str.ofString s) = true := h
theorem okP_kids {P : Str → Prop} {p q : Pt} (h : p.okP P) (hq : q ∈ p.kids) : q.okP P := fun r hr => h r (by
  rw [Pt.all_kids]
  exact List.mem_cons_of_mem _ (List.mem_flatMap.mpr ⟨q, hq, hr⟩))
mutual
theorem pt_sm : ∀ (p : Pt), p.okP Nm → Sm (2 * p.deep) (ptD p)
  | .stay, _ => by
    refine Sm_tup.mpr fun d hd => ?_
    rw [List.mem_singleton.mp hd]
    exact Sm_str.mpr (ok_lit "stay")
  | .step b w, h => by
    refine Sm_tup.mpr fun d hd => ?_
    have hw := h _ (Pt.self_all _)
    simp only [List.mem_cons, List.not_mem_nil, or_false] at hd
    rcases hd with rfl | rfl | rfl
    · exact Sm_str.mpr (ok_lit "step")
    · cases b
      · exact Sm_str.mpr (ok_lit "back")
      · exact Sm_str.mpr (ok_lit "on")
    · rcases hw with rfl | hw
      · exact Sm_str.mpr (ok_lit "*")
      · exact Sm_str.mpr (nm_ok hw)
  | .mark b m, h => by
    refine Sm_tup.mpr fun d hd => ?_
    have hw := h _ (Pt.self_all _)
    simp only [List.mem_cons, List.not_mem_nil, or_false] at hd
    rcases hd with rfl | rfl
    · cases b
      · exact Sm_str.mpr (ok_lit "off")
      · exact Sm_str.mpr (ok_lit "at")
    · exact Sm_str.mpr (nm_ok hw)
  | .seq b ps, h => by
    show Sm (2 * (Pt.deeps ps + 1)) _
    rw [show 2 * (Pt.deeps ps + 1) = (2 * Pt.deeps ps + 1) + 1 by omega]
    have hs := pts_sm ps fun q hq => okP_kids h hq
    refine Sm_tup.mpr fun d hd => ?_
    simp only [List.mem_cons, List.not_mem_nil, or_false] at hd
    rcases hd with rfl | rfl
    · cases b
      · exact Sm_str.mpr (ok_lit "either")
      · exact Sm_str.mpr (ok_lit "then")
    · exact Sm_tup.mpr hs
  | .many p, h => by
    show Sm (2 * (Pt.deep p + 1)) _
    rw [show 2 * (Pt.deep p + 1) = (2 * Pt.deep p + 1) + 1 by omega]
    have hs := pt_sm p (okP_kids h (List.mem_singleton.mpr rfl))
    refine Sm_tup.mpr fun d hd => ?_
    simp only [List.mem_cons, List.not_mem_nil, or_false] at hd
    rcases hd with rfl | rfl
    · exact Sm_str.mpr (ok_lit "many")
    · exact hs.mono (by omega)
theorem pts_sm : ∀ (ps : List Pt), (∀ p ∈ ps, p.okP Nm) → ∀ d ∈ ptDs ps, Sm (2 * Pt.deeps ps) d
  | [], _, _, hd => nomatch hd
  | p :: ps, h, d, hd => by
    have e : Pt.deeps (p :: ps) = max p.deep (Pt.deeps ps) := rfl
    rcases List.mem_cons.mp hd with rfl | hd
    · exact (pt_sm p (h p (List.mem_cons_self ..))).mono (by rw [e]; omega)
    · exact (pts_sm ps (fun q hq => h q (List.mem_cons_of_mem _ hq)) d hd).mono (by rw [e]; omega)
end
mutual
theorem pt_rp : ∀ (p : Pt), p.okP Nm → rp (ptD p) = true ∧ wgt (ptD p) ≤ 31 * p.all.length - 1
  | .stay, _ => ⟨by decide +kernel, by decide +kernel⟩
  | .step b w, h => by
    have hw := h _ (Pt.self_all _)
    have h1 : PyData.strOk w = true ∧ w.length ≤ 8 := by
      rcases hw with rfl | hw
      · exact ⟨ok_lit "*", by decide +kernel⟩
      · exact ⟨nm_ok hw, hw.2.1⟩
    refine ⟨?_, ?_⟩
    · cases b <;> simp only [ptD, rp, rps, h1.1, Bool.and_true, if_true, Bool.false_eq_true, if_false] <;> decide +kernel
    · have e : ∀ x y : Str, wgt (.tup [.str x, .str y, .str w]) = x.length + 1 + (y.length + 1 + (w.length + 1 + 0)) := fun _ _ => rfl
      show wgt (.tup [_, _, _]) ≤ 31 * 1 - 1
      rw [e]
      have l1 : (Str.ofString "step").length = 4 := by decide +kernel
      have l2 : (if b = true then (Str.ofString "on") else (Str.ofString "back")).length ≤ 4 := by cases b <;> decide +kernel
      have := h1.2
      omega
  | .mark b m, h => by
    have hw : Nm m := h _ (Pt.self_all _)
    refine ⟨?_, ?_⟩
    · cases b <;> simp only [ptD, rp, rps, nm_ok hw, Bool.and_true, if_true, Bool.false_eq_true, if_false] <;> decide +kernel
    · have e : ∀ x : Str, wgt (.tup [.str x, .str m]) = x.length + 1 + (m.length + 1 + 0) := fun _ => rfl
      show wgt (.tup [_, _]) ≤ 31 * 1 - 1
      rw [e]
      have l2 : (if b = true then (Str.ofString "at") else (Str.ofString "off")).length ≤ 4 := by cases b <;> decide +kernel
      have := hw.2.1
      omega
  | .seq b ps, h => by
    obtain ⟨h1, h2⟩ := pts_rp ps fun q hq => okP_kids h hq
    refine ⟨?_, ?_⟩
    · cases b <;> simp only [ptD, rp, rps, h1, Bool.and_true, if_true, Bool.false_eq_true, if_false] <;> decide +kernel
    · have e : ∀ x : Str, wgt (.tup [.str x, .tup (ptDs ps)]) = x.length + 1 + (wgts (ptDs ps) + 1 + 0) := fun _ => rfl
      show wgt (.tup [_, _]) ≤ 31 * ((Pt.alls ps).length + 1) - 1
      rw [e]
      have l2 : (if b = true then (Str.ofString "then") else (Str.ofString "either")).length ≤ 6 := by cases b <;> decide +kernel
      omega
  | .many p, h => by
    obtain ⟨h1, h2⟩ := pt_rp p (okP_kids h (List.mem_singleton.mpr rfl))
    refine ⟨?_, ?_⟩
    · simp only [ptD, rp, rps, h1, Bool.and_true]
      decide +kernel
    · have e : ∀ x : Str, wgt (.tup [.str x, ptD p]) = x.length + 1 + (wgt (ptD p) + 1 + 0) := fun _ => rfl
      show wgt (.tup [_, _]) ≤ 31 * ((Pt.all p).length + 1) - 1
      rw [e]
      have l2 : (Str.ofString "many").length = 4 := by decide +kernel
      omega
theorem pts_rp : ∀ (ps : List Pt), (∀ p ∈ ps, p.okP Nm) → rps (ptDs ps) = true ∧ wgts (ptDs ps) ≤ 31 * (Pt.alls ps).length
  | [], _ => ⟨rfl, Nat.le_refl _⟩
  | p :: ps, h => by
    obtain ⟨a1, a2⟩ := pt_rp p (h p (List.mem_cons_self ..))
    obtain ⟨b1, b2⟩ := pts_rp ps fun q hq => h q (List.mem_cons_of_mem _ hq)
    refine ⟨?_, ?_⟩
    · show (rp (ptD p) && rps (ptDs ps)) = true
      rw [a1, b1]; rfl
    · show wgt (ptD p) + 1 + wgts (ptDs ps) ≤ 31 * (Pt.all p ++ Pt.alls ps).length
      have := p.all_pos
      rw [List.length_append]
      omega
end
end Dt
set_option maxRecDepth 100000
set_option maxHeartbeats 4000000
/-! Sh: what many laws have: draws, names, leaves, patterns. -/
namespace Sh
open PySem PySem.Spec L2 Dt
def sp_l_names : DSp := fun ds S Q _ => ∃ (p : Addr) (m n : Nat) (o : Ob), ds = [.ref p, .int (m : Nat)] ∧ m ≤ 8 ∧ S p = some o ∧ FeedOb n o ∧ n < 2 ^ 90 ∧
  ∀ (ys : List Str) (o' : Ob), ys.length = m → (∀ y ∈ ys, Nm y) → ys.Nodup → FeedOb (n + 12) o' → Q (.rol (ys.map D.str)) (upo S p o')
/-- words and marks by draws -/
structure Nms (ws ms : List Str) : Prop where
  w1 : 1 ≤ ws.length
  w8 : ws.length ≤ 8
  m1 : 1 ≤ ms.length
  m8 : ms.length ≤ 8
  w : ∀ w ∈ ws, Nm w
  m : ∀ m ∈ ms, Nm m
abbrev nmsD (e0 : D) (ws ms : List Str) : D := .rol [e0, .rol (ws.map D.str), .rol (ms.map D.str)]
def IsLf (ws ms : List Str) (d : D) : Prop := d = .tup [.str "stay"] ∨ (∃ a m : Str, (a = "at" ∨ a = "off") ∧ m ∈ ms ∧ d = .tup [.str a, .str m]) ∨ ∃ s w : Str, (s = "on" ∨ s = "back") ∧ (w = "*" ∨ w ∈ ws) ∧ d = .tup [.str "step", .str s, .str w]
def sp_l_leaf : DSp := fun ds S Q _ => ∃ (p : Addr) (e0 : D) (ws ms : List Str) (n : Nat) (o : Ob), ds = [.ref p, nmsD e0 ws ms] ∧ Nms ws ms ∧ S p = some o ∧ FeedOb n o ∧ n < 2 ^ 90 ∧
  ∀ (d : D) (o' : Ob), IsLf ws ms d → FeedOb (n + 3) o' → Q d (upo S p o')
theorem sp_l_leaf_mono : SpMono sp_l_leaf := fun ds S Q Q' E E' k _ ⟨p, e0, ws, ms, n, o, h1, h2, h3, h4, h5, h⟩ => ⟨p, e0, ws, ms, n, o, h1, h2, h3, h4, h5, fun d o' a b => k _ _ (h d o' a b)⟩
/-- patterns of so much within one another -/
def IsPat (ws ms : List Str) : Nat → D → Prop
  | 0, d => IsLf ws ms d
  | n + 1, d => IsLf ws ms d ∨ (∃ e, d = .tup [.str "many", e] ∧ IsPat ws ms n e) ∨ ∃ (h : Str) (es : List D), d = .tup [.str h, .tup es] ∧ (h = "then" ∨ h = "either") ∧ es.length ≤ 3 ∧ ∀ e ∈ es, IsPat ws ms n e
def costP : Nat → Nat
  | 0 => 4
  | n + 1 => 5 + 3 * costP n
def sp_l_pattern (k : Nat) : DSp := fun ds S Q _ => ∃ (p : Addr) (e0 : D) (j : Nat) (ws ms : List Str) (n : Nat) (o : Ob), ds = [.ref p, nmsD e0 ws ms, .int (j : Nat)] ∧ Nms ws ms ∧ j ≤ k ∧ S p = some o ∧ FeedOb n o ∧ n + costP k < 2 ^ 90 ∧
  ∀ (d : D) (o' : Ob), IsPat ws ms k d → FeedOb (n + costP k) o' → Q d (upo S p o')
def t_l_cell_at : DTS := (dSeq (dIf (dTest (dOp rLt (dVar 1) (dCB cLen (dCons (dVar 0) dNil))))
      (dRet (dOp dIxS (dVar 0) (dVar 1)))
      dNx)
    (dSeq (dAsg (dC (.int 0)) (dGN 2))
    (dSeq (dIf (dTest (dOp rGt (dCB cLen (dCons (dVar 0) dNil)) (dC (.int 0))))
      (dAsg (dOp dIxS (dVar 0) (dOp rMod (dVar 1) (dCB cLen (dCons (dVar 0) dNil)))) (dGN 2))
      dNx)
    (dRet (dOp dAddF (dOp dAddF (dOp dMul (dOp rMod (dVar 2) (dC (.int 1000003))) (dC (.int 48271))) (dOp dMul (dC (.int 7919)) (dVar 1))) (dC (.int 1)))))))
abbrev N_l_cell_at : List Str := ["_law_script", "_law_k", "_law_seed"]
def t_l_feed : DTS := (dRet (dDisp [("left", (dCB cMax2 (dCons (dC (.int 0)) (dCons (dOp rSub (dVar 0) (dOp rPow (dC (.int 10)) (dC (.int 18)))) dNil)))), ("seed", (dOp rMod (dVar 0) (dC (.int 1000003)))), ("drawn", (dC (.int 0)))]))
abbrev N_l_feed : List Str := ["_law_cell"]
def t_l_next : DTS := (dSeq (dPut (dVar 0) (dC (.str "drawn")) (dOp dAddF (dOp dIxS (dVar 0) (dC (.str "drawn"))) (dC (.int 1))))
    (dSeq (dIf (dTest (dOp rGt (dOp dIxS (dVar 0) (dC (.str "left"))) (dC (.int 0))))
      (dSeq (dAsg (dOp rMod (dOp dIxS (dVar 0) (dC (.str "left"))) (dVar 1)) (dGN 2))
    (dSeq (dPut (dVar 0) (dC (.str "left")) (dOp rFdiv (dOp dIxS (dVar 0) (dC (.str "left"))) (dVar 1)))
    (dRet (dVar 2))))
      dNx)
    (dSeq (dAsg (dOp rMod (dOp dMul (dOp dAddF (dOp dIxS (dVar 0) (dC (.str "seed"))) (dC (.int 1))) (dOp dAddF (dOp dMul (dOp dIxS (dVar 0) (dC (.str "drawn"))) (dOp dIxS (dVar 0) (dC (.str "drawn")))) (dC (.int 48271)))) (dC (.int 65537))) (dGN 3))
    (dSeq (dAsg (dOp rMod (dOp dAddF (dOp dMul (dVar 3) (dVar 3)) (dOp dMul (dC (.int 30269)) (dOp dIxS (dVar 0) (dC (.str "drawn"))))) (dC (.int 65521))) (dGN 4))
    (dRet (dOp rMod (dOp rMod (dOp dAddF (dOp dMul (dVar 4) (dVar 4)) (dOp dMul (dC (.int 40503)) (dVar 3))) (dC (.int 65519))) (dVar 1)))))))
abbrev N_l_next : List Str := ["_law_feed_here", "_law_many", "_law_found", "_law_one", "_law_two"]
def t_l_names : DTS := (dSeq (dAsg (dC (.str "abcdefghijklmnopqrstuvwxyz")) (dGN 2))
    (dSeq (dAsg (dBM "str" mJoin (dC (.str "")) (dCons (dFz (dLc (dRng1 (dCons (dC (.int 8)) dNil)) (dGN 9) dYes (dOp dIxS (dVar 2) (dCall sp_l_next (dCons (dVar 0) (dCons (dC (.int 26)) dNil)))) [9])) dNil)) (dGN 3))
    (dSeq (dAsg (dCall sp_l_next (dCons (dVar 0) (dCons (dC (.int 3)) dNil))) (dGN 4))
    (dSeq (dAsg (dCall sp_l_next (dCons (dVar 0) (dCons (dC (.int 8)) dNil))) (dGN 5))
    (dSeq (dIf (dTest (dOp (dEq false) (dVar 4) (dC (.int 0))))
      (dAsg (dLc (dRng1 (dCons (dC (.int 8)) dNil)) (dGN 9) dYes (dSlF (dVar 3) dNoP (dSoP (dOp dAddF (dVar 9) (dC (.int 1))))) [9]) (dGN 6))
      (dIf (dTest (dOp (dEq false) (dVar 4) (dC (.int 1))))
      (dAsg (dLst (dCons (dC (.str "on")) (dCons (dC (.str "back")) (dCons (dC (.str "at")) (dCons (dC (.str "off")) (dCons (dC (.str "stay")) (dCons (dC (.str "many")) (dCons (dC (.str "then")) (dCons (dC (.str "either")) dNil))))))))) (dGN 6))
      (dSeq (dAsg (dCall sp_l_next (dCons (dVar 0) (dCons (dOp dAddF (dVar 5) (dC (.int 1))) dNil))) (dGN 7))
    (dSeq (dAsg (dCall sp_l_next (dCons (dVar 0) (dCons (dC (.int 26)) dNil))) (dGN 8))
    (dSeq (dAsg (dLst dNil) (dGN 6))
    (dFor (dRng1 (dCons (dC (.int 8)) dNil)) (dGN 9)
      (dSeq (dAsg (dOp dIxS (dVar 2) (dOp rMod (dOp dAddF (dVar 8) (dOp dMul (dC (.int 5)) (dVar 9))) (dC (.int 26)))) (dGN 10))
    (dDrop (dBM "list" mAppend (dVar 6) (dCons (dOp dAddF (dOp dAddF (dSlF (dVar 3) dNoP (dSoP (dVar 7))) (dVar 10)) (dSlF (dVar 3) (dSoP (dOp dAddF (dVar 7) (dC (.int 1)))) (dSoP (dOp dAddF (dVar 5) (dC (.int 1)))))) dNil))))))))))
    (dRet (dSlF (dOp dAddF (dSlF (dVar 6) (dSoP (dVar 5)) dNoP) (dSlF (dVar 6) dNoP (dSoP (dVar 5)))) dNoP (dSoP (dVar 1)))))))))
abbrev N_l_names : List Str := ["_law_feed_here", "_law_many", "_law_letters", "_law_word", "_law_way", "_law_turn", "_law_names_here", "_law_place", "_law_start", "_law_k", "_law_sign"]
def t_l_leaf : DTS := (dSeq (dAsg (dCall sp_l_next (dCons (dVar 0) (dCons (dC (.int 8)) dNil))) (dGN 2))
    (dSeq (dIf (dTest (dOp (dEq false) (dVar 2) (dC (.int 0))))
      (dRet (dTup (dCons (dC (.str "stay")) dNil)))
      dNx)
    (dSeq (dIf (dTest (dOp rLt (dVar 2) (dC (.int 3))))
      (dRet (dTup (dCons (dOp dIxS (dLstF (dCons (dC (.str "at")) (dCons (dC (.str "off")) dNil))) (dOp rSub (dVar 2) (dC (.int 1)))) (dCons (dOp dIxS (dOp dIxS (dVar 1) (dC (.int 2))) (dCall sp_l_next (dCons (dVar 0) (dCons (dCB cLen (dCons (dOp dIxS (dVar 1) (dC (.int 2))) dNil)) dNil)))) dNil))))
      dNx)
    (dSeq (dAsg (dOp dIxS (dOp dAddF (dLstF (dCons (dC (.str "*")) dNil)) (dOp dIxS (dVar 1) (dC (.int 1)))) (dCall sp_l_next (dCons (dVar 0) (dCons (dOp dAddF (dC (.int 1)) (dCB cLen (dCons (dOp dIxS (dVar 1) (dC (.int 1))) dNil))) dNil)))) (dGN 3))
    (dRet (dTup (dCons (dC (.str "step")) (dCons (dOp dIxS (dLstF (dCons (dC (.str "on")) (dCons (dC (.str "on")) (dCons (dC (.str "back")) dNil)))) (dCall sp_l_next (dCons (dVar 0) (dCons (dC (.int 3)) dNil)))) (dCons (dVar 3) dNil)))))))))
abbrev N_l_leaf : List Str := ["_law_feed_here", "_law_names_here", "_law_way", "_law_word"]
def t_l_pattern (spR : DSp) : DTS := (dSeq (dAsg (dCall sp_l_next (dCons (dVar 0) (dCons (dC (.int 8)) dNil))) (dGN 3))
    (dSeq (dIf (dOr (dTest (dOp (dEq false) (dVar 2) (dC (.int 0)))) (dTest (dOp rLt (dVar 3) (dC (.int 2)))))
      (dRet (dCall sp_l_leaf (dCons (dVar 0) (dCons (dVar 1) dNil))))
      dNx)
    (dSeq (dIf (dTest (dOp rLt (dVar 3) (dC (.int 4))))
      (dRet (dTup (dCons (dC (.str "many")) (dCons (dCall spR (dCons (dVar 0) (dCons (dVar 1) (dCons (dOp rSub (dVar 2) (dC (.int 1))) dNil)))) dNil))))
      dNx)
    (dSeq (dAsg (dOp dIxS (dLstF (dCons (dC (.int 2)) (dCons (dC (.int 1)) (dCons (dC (.int 3)) (dCons (dC (.int 0)) (dCons (dC (.int 2)) (dCons (dC (.int 2)) dNil))))))) (dCall sp_l_next (dCons (dVar 0) (dCons (dC (.int 6)) dNil)))) (dGN 4))
    (dSeq (dAsg (dCB cTuple (dCons (dFz (dLc (dRng1 (dCons (dVar 4) dNil)) (dGN 6) dYes (dCall spR (dCons (dVar 0) (dCons (dVar 1) (dCons (dOp rSub (dVar 2) (dC (.int 1))) dNil)))) [6])) dNil)) (dGN 5))
    (dRet (dTup (dCons (dOp dIxS (dLstF (dCons (dC (.str "then")) (dCons (dC (.str "either")) dNil))) (dOp rMod (dVar 3) (dC (.int 2)))) (dCons (dVar 5) dNil)))))))))
abbrev N_l_pattern : List Str := ["_law_feed_here", "_law_names_here", "_law_deep", "_law_way", "_law_many", "_law_parts", "_law_k"]
theorem atI_map {ns : List Int} {k : Nat} (h : k < ns.length) : atI (ns.map D.int) (k : Int) = some (.int (ns.getD k 0)) := by
  refine atI_nat ?_
  simp [h]
theorem r_l_cell_at (ds S Q E) (h : sp_l_cell_at ds S Q E) : t_l_cell_at (dEnd Q E) (dstart N_l_cell_at ds) S := by
  obtain ⟨ns, k, rfl, h2, h⟩ := h
  have b1 : ∀ x : Int, Bd 20 (x % 1000003) := fun x => Bd.mod (by decide) (by unfold Bd; decide)
  have c1 := fun x => (b1 x).cm (show Bd 17 48271 by unfold Bd; decide)
  have c2 := (show Bd 17 7919 by unfold Bd; decide).cm (show Bd 100 (k : Int) by unfold Bd; omega)
  simp [t_l_cell_at, dstart]
  unfold cellZ at h
  by_cases h3 : k < ns.length
  · rw [if_pos h3] at h
    rw [if_pos h3, atI_map h3]
    exact .same h
  · rw [if_neg h3] at h
    rw [if_neg h3]
    by_cases h4 : 0 < ns.length
    · rw [if_pos h4] at h
      rw [if_pos h4]
      have h5 : k % ns.length < ns.length := Nat.mod_lt _ h4
      have e : ((k : Int) % (ns.length : Int)) = ((k % ns.length : Nat) : Int) := by omega
      rw [e, atI_map h5]
      simp [h4, c1, c2]
      exact .same (by simpa using h)
    · rw [if_neg h4] at h
      rw [if_neg h4]
      have c3 : CMulW 0 48271 := (show Bd 1 0 by unfold Bd; decide).cm (show Bd 17 48271 by unfold Bd; decide)
      simp [c3, c2]
      exact .same (by simpa using h)
theorem r_l_leaf (ds S Q E) (h : sp_l_leaf ds S Q E) : t_l_leaf (dEnd Q E) (dstart N_l_leaf ds) S := by
  obtain ⟨p, e0, ws, ms, n, o, rfl, nm, hp, fo, hn, h⟩ := h
  unfold t_l_leaf
  refine dSeq_gen fun R hR => ?_
  simp [dstart]
  refine ⟨p, 8, n, o, rfl, by decide, by decide, hp, fo, by omega, fun v o1 v0 v1 fo1 => ?_⟩
  subst hR
  by_cases c0 : v = 0
  · simp [c0]
    exact .same (h _ o1 (.inl rfl) (fo1.more (by omega)))
  by_cases c1 : v < 3
  · simp [c0, c1]
    refine opt_at (by omega) (by simp; omega) fun y hy => ?_
    refine ⟨p, ms.length, n + 1, o1, rfl, by have := nm.m1; omega, by have := nm.m8; omega, by simp, fo1, by omega, fun u o2 u0 u1 fo2 => ?_⟩
    simp
    refine opt_at u0 (by simpa using u1) fun z hz => ?_
    obtain ⟨m, hm, rfl⟩ := List.mem_map.mp hz
    refine .same (h _ o2 (.inr (.inl ?_)) (fo2.more (by omega)))
    simp at hy
    rcases hy with rfl | rfl
    · exact ⟨"at", m, .inl rfl, hm, rfl⟩
    · exact ⟨"off", m, .inr rfl, hm, rfl⟩
  · simp [c0, c1, catD]
    refine ⟨by have := nm.w8; omega, p, 1 + ws.length, n + 1, o1, rfl, by omega, by have := nm.w8; omega, by simp, fo1, by omega, fun u o2 u0 u1 fo2 => ?_⟩
    simp
    refine opt_at u0 (by simp; omega) fun z hz => ?_
    refine ⟨p, 3, n + 2, o2, rfl, by decide, by decide, by simp, fo2, by omega, fun u' o3 u0' u1' fo3 => ?_⟩
    simp
    refine opt_at u0' (by simpa using u1') fun y hy => ?_
    refine .same (h _ o3 (.inr (.inr ?_)) (fo3.more (by omega)))
    obtain ⟨w, hw, rfl⟩ : ∃ w : Str, (w = "*" ∨ w ∈ ws) ∧ z = .str w := by
      rcases List.mem_cons.mp hz with rfl | hz
      · exact ⟨"*", .inl rfl, rfl⟩
      · obtain ⟨w, hw, rfl⟩ := List.mem_map.mp hz
        exact ⟨w, .inr hw, rfl⟩
    simp at hy
    rcases hy with rfl | rfl
    · exact ⟨"on", w, .inl rfl, hw, rfl⟩
    · exact ⟨"back", w, .inr rfl, hw, rfl⟩
end Sh
set_option maxRecDepth 100000
set_option maxHeartbeats 4000000
/-! ShP: what stands in a pattern. -/
namespace Sh
open PySem PySem.Spec L2 Dt
@[simp] theorem ptD_0 (p : Pt) : ∃ r, ptD p = .tup r := by cases p <;> exact ⟨_, rfl⟩
def sp_parts_of : DSp := fun ds S Q _ => ∃ p : Pt, ds = [ptD p] ∧ Q (.rol (ptDs p.kids)) S
def sp_all_parts : DSp := fun ds S Q _ => ∃ p : Pt, ds = [ptD p] ∧ p.all.length ≤ 100000 ∧ ∀ L : List Pt, L.Perm p.all → Q (.rol (ptDs L)) S
def sp_parts_in : DSp := fun ds S Q _ => ∃ p : Pt, ds = [ptD p] ∧ p.all.length ≤ 100000 ∧ Q (.int (p.all.length : Nat)) S
def sp_leaves_in : DSp := fun ds S Q _ => ∃ p : Pt, ds = [ptD p] ∧ p.all.length ≤ 100000 ∧ Q (.int ((p.all.filter Pt.isLeaf).length : Nat)) S
end Sh
namespace Dt
open PySem PySem.Spec L2
/-- the words of steps, the marks -/
def Pt.word? : Pt → Option Str
  | .step _ w => some w
  | _ => none
def Pt.mark? : Pt → Option Str
  | .mark _ m => some m
  | _ => none
def Pt.words (p : Pt) : List Str := (p.all.filterMap Pt.word?).filter fun w => !decide (w = "*")
def Pt.marks (p : Pt) : List Str := p.all.filterMap Pt.mark?
end Dt
namespace Sh
open PySem PySem.Spec L2 Dt
/-- new lists -/
def sp_words_in : DSp := fun ds S Q _ => ∃ p : Pt, ds = [ptD p] ∧ p.all.length ≤ 4000 ∧ p.okP Nm ∧ ∀ q, S q = none → Q (.ref q) (upo S q (.lst (ssD (p.words.map D.str))))
def sp_marks_in : DSp := fun ds S Q _ => ∃ p : Pt, ds = [ptD p] ∧ p.all.length ≤ 4000 ∧ p.okP Nm ∧ ∀ q, S q = none → Q (.ref q) (upo S q (.lst (ssD (p.marks.map D.str))))
def t_parts_of : DTS := (dSeq (dIf (dTest (dOp (dEq false) (dOp dIxS (dVar 0) (dC (.int 0))) (dC (.str "many"))))
      (dRet (dLstF (dCons (dOp dIxS (dVar 0) (dC (.int 1))) dNil)))
      dNx)
    (dSeq (dIf (dTest (dOp (dIn false) (dOp dIxS (dVar 0) (dC (.int 0))) (dTup (dCons (dC (.str "then")) (dCons (dC (.str "either")) dNil)))))
      (dRet (dCB cListF (dCons (dOp dIxS (dVar 0) (dC (.int 1))) dNil)))
      dNx)
    (dRet (dLstF dNil))))
abbrev N_parts_of : List Str := ["pattern"]
def t_all_parts : DTS := (dSeq (dAsg (dLst (dCons (dVar 0) dNil)) (dGN 1))
    (dSeq (dAsg (dC (.int 0)) (dGN 2))
    (dSeq (dWhile (dTest (dOp rLt (dVar 2) (dCB cLen (dCons (dVar 1) dNil))))
      (dSeq (dDrop (dBM "list" mExtend (dVar 1) (dCons (dCall sp_parts_of (dCons (dOp dIxS (dVar 1) (dVar 2)) dNil)) dNil)))
    (dAsg (dOp dAddF (dVar 2) (dC (.int 1))) (dGN 2))))
    (dRet (dVar 1)))))
abbrev N_all_parts : List Str := ["pattern", "found", "at"]
def t_parts_in : DTS := (dRet (dCB cLen (dCons (dCall sp_all_parts (dCons (dVar 0) dNil)) dNil)))
abbrev N_parts_in : List Str := ["pattern"]
def t_leaves_in : DTS := (dRet (dCB cLen (dCons (dFz (dLc (dSeqI (dCall sp_all_parts (dCons (dVar 0) dNil))) (dGN 1) (dTest (dOp (dIn false) (dOp dIxS (dVar 1) (dC (.int 0))) (dTup (dCons (dC (.str "stay")) (dCons (dC (.str "step")) (dCons (dC (.str "at")) (dCons (dC (.str "off")) dNil))))))) (dVar 1) [1])) dNil)))
abbrev N_leaves_in : List Str := ["pattern", "part"]
def t_words_in : DTS := (dSeq (dAsg (dFz (dLc (dSeqI (dCall sp_all_parts (dCons (dVar 0) dNil))) (dGN 2) (dTest (dOp (dEq false) (dOp dIxS (dVar 2) (dC (.int 0))) (dC (.str "step")))) (dOp dIxS (dVar 2) (dC (.int 2))) [2])) (dGN 1))
    (dRet (dSortSetM (dFz (dLc (dSeqI (dVar 1)) (dGN 3) (dTest (dOp (dEq true) (dVar 3) (dC (.str "*")))) (dVar 3) [3])))))
abbrev N_words_in : List Str := ["pattern", "words", "part", "word"]
def t_marks_in : DTS := (dRet (dSortSetM (dFz (dLc (dSeqI (dCall sp_all_parts (dCons (dVar 0) dNil))) (dGN 1) (dTest (dOp (dIn false) (dOp dIxS (dVar 1) (dC (.int 0))) (dTup (dCons (dC (.str "at")) (dCons (dC (.str "off")) dNil))))) (dOp dIxS (dVar 1) (dC (.int 1))) [1]))))
abbrev N_marks_in : List Str := ["pattern", "part"]
theorem ptDs_len (ps : List Pt) : (ptDs ps).length = ps.length := by rw [ptDs_map, List.length_map]
def hd0 (d : D) : D := match d with | .tup (x :: _) => x | _ => .non
def at1 (d : D) : D := match d with | .tup (_ :: x :: _) => x | _ => .non
def at2 (d : D) : D := match d with | .tup (_ :: _ :: x :: _) => x | _ => .non
def isStep (p : Pt) : Bool := match p with | .step _ _ => true | _ => false
def isMark (p : Pt) : Bool := match p with | .mark _ _ => true | _ => false
def theName (p : Pt) : Str := match p with | .step _ w => w | .mark _ m => m | _ => ""
/-! ### drawn patterns as trees -/
/-- how many a drawn pattern is of at most -/
def szP : Nat → Nat
  | 0 => 1
  | n + 1 => 1 + 3 * szP n
theorem deeps_mem : ∀ {ps : List Pt} {p : Pt}, p ∈ ps → p.deep ≤ Pt.deeps ps
  | q :: ps, p, h => by
    rw [Pt.deeps_cons]
    rcases List.mem_cons.mp h with rfl | h
    · omega
    · have := deeps_mem h
      omega
end Sh
set_option maxRecDepth 100000
set_option maxHeartbeats 4000000
/-! ShM: machines: stands, moves; come_to, stepped. -/
namespace Sh
open PySem PySem.Spec L2 Dt
/-- a plain text -/
def okS (x : Str) : Prop := PyData.strOk x = true
theorem okS.sm {x : Str} {n : Nat} (h : okS x) : Sm n (.str x) := ⟨h, Nat.zero_le _⟩
theorem int_sm (i : Int) (n : Nat) : Sm n (.int i) := ⟨rfl, Nat.zero_le _⟩
theorem Nm.okS {x : Str} (h : Nm x) : okS x := nm_ok h
/-- a move -/
structure Mv where
  a : Nat
  p : Pt
  b : Nat
def mvD (m : Mv) : D := .tup [.int m.a, ptD m.p, .int m.b]
abbrev natsD (xs : List Nat) : List D := xs.map fun x : Nat => D.int (x : Int)
abbrev strsD (xs : List Str) : List D := xs.map D.str
structure OkMv (m : Mv) : Prop where
  leaf : m.p.isLeaf = true
  ok : m.p.okP okS
def mcD (x y z : D) (mv : List Mv) : D := .tup [x, y, z, .tup (mv.map mvD)]
def holdsP (ms : List Str) (p : Pt) : Bool := match p with
  | .stay => true
  | .mark b m => decide (m ∈ ms) == b
  | _ => false
def fitsP (side word : Str) (p : Pt) : Bool := match p with
  | .step b w => decide ((if b then "on" else "back" : Str) = side) && (decide (w = "*") || decide (w = word))
  | _ => false
/-- what is come to without steps -/
inductive Come (mv : List Mv) (ms : List Str) (st : List Nat) : Nat → Prop
  | start {x : Nat} : x ∈ st → Come mv ms st x
  | move {m : Mv} : m ∈ mv → Come mv ms st m.a → holdsP ms m.p = true → Come mv ms st m.b
/-- what is come to by a step -/
def ByStep (mv : List Mv) (st : List Nat) (side word : Str) (x : Nat) : Prop := ∃ m ∈ mv, m.a ∈ st ∧ fitsP side word m.p = true ∧ m.b = x
/-! rows of numbers -/
theorem natsD_mem {xs : List Nat} {x : Nat} : D.int (x : Int) ∈ natsD xs ↔ x ∈ xs := by
  rw [List.mem_map]
  exact ⟨fun ⟨y, h, e⟩ => by cases e; exact h, fun h => ⟨x, h, rfl⟩⟩
/-! dicts as sets -/
def kset {κ : Type} (ks : List κ) : List (κ × D) := ks.map fun k => (k, .bl true)
section
variable {κ : Type} [DecidableEq κ]
theorem lk_in {ks : List κ} {k : κ} (h : k ∈ ks) : lk (kset ks) k = some (.bl true) := by
  induction ks with
  | nil => cases h
  | cons j ks ih =>
    show lk ((j, D.bl true) :: kset ks) k = _
    unfold lk
    by_cases e : j = k
    · rw [if_pos e]
    · rw [if_neg e]
      exact ih ((List.mem_cons.mp h).resolve_left fun z => e z.symm)
theorem lk_out {ks : List κ} {k : κ} (h : k ∉ ks) : lk (kset ks) k = none := by
  induction ks with
  | nil => rfl
  | cons j ks ih =>
    show lk ((j, D.bl true) :: kset ks) k = _
    unfold lk
    rw [if_neg fun e : j = k => h (e ▸ List.mem_cons_self)]
    exact ih fun z => h (List.mem_cons_of_mem _ z)
theorem pt_in {ks : List κ} {k : κ} (h : k ∈ ks) : pt (kset ks) k (.bl true) = kset ks := by
  unfold pt
  rw [lk_in h]
  simp only [Option.isSome_some, if_true]
  unfold kset
  rw [List.map_map]
  refine List.map_congr_left fun j _ => ?_
  show (if j = k then (j, D.bl true) else (j, D.bl true)) = _
  split <;> rfl
theorem pt_out {ks : List κ} {k : κ} (h : k ∉ ks) : pt (kset ks) k (.bl true) = kset (ks ++ [k]) := by
  unfold pt
  rw [lk_out h]
  simp [kset]
theorem kset_len (ks : List κ) : (kset ks).length = ks.length := by simp [kset]
end
abbrev nkeys (xs : List Nat) : List Key := xs.map fun x : Nat => Sum.inl (x : Int)
/-! specs -/
def sp_holds_at : DSp := fun ds S Q _ => ∃ (p : Pt) (ms : List Str), ds = [ptD p, .rol (strsD ms)] ∧ p.isLeaf = true ∧ p.okP okS ∧ (∀ m ∈ ms, okS m) ∧ Q (.bl (holdsP ms p)) S
def sp_is_step_by : DSp := fun ds S Q _ => ∃ (p : Pt) (side word : Str), ds = [ptD p, .str side, .str word] ∧ p.isLeaf = true ∧ Q (.bl (fitsP side word p)) S
def sp_come_to : DSp := fun ds S Q _ => ∃ (x y z : D) (mv : List Mv) (st : List Nat) (ms : List Str), ds = [mcD x y z mv, .tup (natsD st), .rol (strsD ms)] ∧ (∀ m ∈ mv, OkMv m) ∧ (∀ m ∈ ms, okS m) ∧ st.length + mv.length ≤ 100000 ∧
  ∀ L : List Nat, L.Pairwise (· < ·) → (∀ n, n ∈ L ↔ Come mv ms st n) → Q (.tup (natsD L)) S
def sp_stepped : DSp := fun ds S Q _ => ∃ (x y z : D) (mv : List Mv) (st : List Nat) (side word : Str), ds = [mcD x y z mv, .tup (natsD st), .str side, .str word] ∧ (∀ m ∈ mv, OkMv m) ∧ mv.length ≤ 100000 ∧
  ∀ L : List Nat, L.Pairwise (· < ·) → (∀ n, n ∈ L ↔ ByStep mv st side word n) → Q (.tup (natsD L)) S
def t_holds_at : DTS := (dSeq (dIf (dTest (dOp (dEq false) (dOp dIxS (dVar 0) (dC (.int 0))) (dC (.str "at"))))
      (dRet (dOp (dIn false) (dOp dIxS (dVar 0) (dC (.int 1))) (dVar 1)))
      dNx)
    (dSeq (dIf (dTest (dOp (dEq false) (dOp dIxS (dVar 0) (dC (.int 0))) (dC (.str "off"))))
      (dRet (dOp (dIn true) (dOp dIxS (dVar 0) (dC (.int 1))) (dVar 1)))
      dNx)
    (dRet (dOp (dEq false) (dOp dIxS (dVar 0) (dC (.int 0))) (dC (.str "stay"))))))
abbrev N_holds_at : List Str := ["leaf", "marks"]
def t_is_step_by : DTS := (dRet (dAndV (dOp (dEq false) (dOp dIxS (dVar 0) (dC (.int 0))) (dC (.str "step"))) (dAndV (dOp (dEq false) (dOp dIxS (dVar 0) (dC (.int 1))) (dVar 1)) (dOp (dIn false) (dOp dIxS (dVar 0) (dC (.int 2))) (dTup (dCons (dC (.str "*")) (dCons (dVar 2) dNil)))))))
abbrev N_is_step_by : List Str := ["leaf", "side", "word"]
def t_come_to : DTS := (dSeq (dAsg dDnK (dGN 3))
    (dSeq (dFor (dSeqI (dVar 1)) (dGN 4)
      (dPut (dVar 3) (dVar 4) (dC (.bl true))))
    (dSeq (dAsg (dCB cListA (dCons (dVar 3) dNil)) (dGN 5))
    (dSeq (dWhile (dTest (dOp (dEq true) (dVar 5) (dLstF dNil)))
      (dSeq (dAsg (dBM "list" mPop (dVar 5) dNil) (dGN 6))
    (dFor (dSeqI (dOp dIxS (dVar 0) (dC (.int 3)))) (dGTup 3 (dGCons (dGN 7) (dGCons (dGN 8) (dGCons (dGN 9) dGNil))))
      (dIf (dAnd (dTest (dOp (dEq false) (dVar 7) (dVar 6))) (dAnd (dTest (dOp (dIn true) (dVar 9) (dVar 3))) (dTest (dCall sp_holds_at (dCons (dVar 8) (dCons (dVar 2) dNil))))))
      (dSeq (dPut (dVar 3) (dVar 9) (dC (.bl true)))
    (dDrop (dBM "list" mAppend (dVar 5) (dCons (dVar 9) dNil))))
      dNx))))
    (dRet (dCB cTuple (dCons (dCB cSortAF (dCons (dVar 3) dNil)) dNil)))))))
abbrev N_come_to : List Str := ["machine", "stands", "marks", "met", "stand", "line", "here", "one", "leaf", "other"]
def t_stepped : DTS := (dSeq (dAsg dDnK (dGN 4))
    (dSeq (dFor (dSeqI (dOp dIxS (dVar 0) (dC (.int 3)))) (dGTup 3 (dGCons (dGN 5) (dGCons (dGN 6) (dGCons (dGN 7) dGNil))))
      (dIf (dAnd (dTest (dOp (dIn false) (dVar 5) (dVar 1))) (dTest (dCall sp_is_step_by (dCons (dVar 6) (dCons (dVar 2) (dCons (dVar 3) dNil))))))
      (dPut (dVar 4) (dVar 7) (dC (.bl true)))
      dNx))
    (dRet (dCB cTuple (dCons (dCB cSortAF (dCons (dVar 4) dNil)) dNil)))))
abbrev N_stepped : List Str := ["machine", "stands", "side", "word", "met", "one", "leaf", "other"]
theorem str_beq (a b : Str) : (a == b) = decide (a = b) := beq_dec a b
theorem natlist_sm (xs : List Nat) : ∀ e ∈ natsD xs, Sm 60 e := fun e he => by
  obtain ⟨x, _, rfl⟩ := List.mem_map.mp he
  exact int_sm _ _
theorem inF_nat (m : Nat) (st : List Nat) : inF (.int m) (natsD st) = decide (m ∈ st) := by
  rw [inF_pl rfl (by simp [flD]) rfl (fun e he => (natlist_sm st e he).1)]
  exact decide_eq_decide.mpr natsD_mem
end Sh
set_option maxRecDepth 100000
set_option maxHeartbeats 4000000
namespace Rc
open PySem PySem.Spec L2
open Sh
open Dt hiding nkeys
/-! ShPt: what is a pattern. -/
def nameB (w : Str) : Bool := decide (1 ≤ w.length) && decide (w.length ≤ 8) && w.cps.toList.all fun c => decide (c ∈ (Str.ofString "abcdefghijklmnopqrstuvwxyz").cps.toList)
theorem nameB_of {w : Str} (h : Nm w) : nameB w = true := by
  simp only [nameB, Bool.and_eq_true, decide_eq_true_eq, List.all_eq_true]
  refine ⟨⟨h.1, h.2.1⟩, fun c hc => ?_⟩
  obtain ⟨h1, h2⟩ := h.2.2 c hc
  have : ∀ c : Nat, c < 123 → 97 ≤ c → c ∈ (Str.ofString "abcdefghijklmnopqrstuvwxyz").cps.toList := by decide +kernel
  exact this c (by omega) h1
def sp_is_name : DSp := fun ds S Q _ => ∃ w : Str, ds = [.str w] ∧ w.length ≤ 1000000 ∧ Q (.bl (nameB w)) S
theorem sp_is_name_mono : SpMono sp_is_name := fun ds S Q Q' E E' k _ ⟨d, h1, h2, h⟩ => ⟨d, h1, h2, k _ _ h⟩
def sp_is_one_of : DSp := fun ds S Q _ => ∃ (x : Str) (l : List Str) (d : D), ds = [.str x, d] ∧ (d = .rol (strsD l) ∨ d = .tup (strsD l)) ∧ okS x ∧ (∀ y ∈ l, okS y) ∧ Q (.bl (decide (x ∈ l))) S
theorem sp_is_one_of_mono : SpMono sp_is_one_of := fun ds S Q Q' E E' k _ ⟨x, l, d, h1, h2, h3, h4, h⟩ => ⟨x, l, d, h1, h2, h3, h4, k _ _ h⟩
def sp_is_word : DSp := fun ds S Q _ => ∃ w : Str, ds = [.str w] ∧ w.length ≤ 1000000 ∧ okS w ∧ Q (.bl (nameB w || decide (w = "*"))) S
theorem sp_is_word_mono : SpMono sp_is_word := fun ds S Q Q' E E' k _ ⟨d, h1, h2, h3, h⟩ => ⟨d, h1, h2, h3, k _ _ h⟩
def sp_is_leaf : DSp := fun ds S Q _ => ∃ p : Pt, ds = [ptD p] ∧ p.okP Nm ∧ Q (.bl p.isLeaf) S
/-- not too much right within one -/
def Pt.few (p : Pt) : Prop := ∀ q ∈ p.all, q.kids.length ≤ 39
def sp_parts_right : DSp := fun ds S Q _ => ∃ p : Pt, ds = [ptD p] ∧ p.okP Nm ∧ p.kids.length ≤ 39 ∧ Q (.rol (ptDs p.kids)) S
theorem sp_parts_right_mono : SpMono sp_parts_right := fun ds S Q Q' E E' k _ ⟨d, h1, h2, h3, h⟩ => ⟨d, h1, h2, h3, k _ _ h⟩
def sp_is_pattern : DSp := fun ds S Q _ => ∃ p : Pt, ds = [ptD p] ∧ p.okP Nm ∧ Pt.few p ∧ p.all.length ≤ 40 ∧ p.deep ≤ 10 ∧ Q (.bl true) S
theorem sp_is_pattern_mono : SpMono sp_is_pattern := fun ds S Q Q' E E' k _ ⟨d, h1, h2, h3, h4, h5, h⟩ => ⟨d, h1, h2, h3, h4, h5, k _ _ h⟩
theorem all_inC {al x : Str} {E : DW} {a b : Option D} {S : DH} {Q : DK} {G : DH → Prop} (hG : ∀ S, G S) (hx : x.length ≤ 100) (h : Q (.bl (x.cps.toList.all fun c => decide (c ∈ al.cps.toList))) S) :
    newO S (.lst []) fun p S1 => dLcL (dGN 1) dYes (dOp (dInS false) (dVar 1) (dC (.str al))) E [a, b] G p (fzK (fun d S1 => cAll [d] S1 Q) (.ref p)) (x.cps.toList.map signD) S1 := by
  have hs : x.cps.toList.length = x.length := by simp [Str.length]
  refine lcF_map (fun d => match d with | .str s => .bl (!(Builtin.Str.occurrences al s 0 al.length 1).isEmpty) | _ => .non) (fun _ _ _ => hG _) (fun d hd acc p N hp hl hN => ?_) (by rw [List.length_map, hs]; exact Nat.lt_of_le_of_lt hx (by decide)) ?_
  · obtain ⟨c, hc, rfl⟩ := List.mem_map.mp hd
    simp [signD]
    exact ⟨hl, hN⟩
  · refine ⟨_, x.cps.toList.map fun c => decide (c ∈ al.cps.toList), rfl, ?_, ?_⟩
    · simp only [seqD_rol, List.map_map]
      refine congrArg some (List.map_congr_left fun c _ => ?_)
      simp only [Function.comp, signD]
      rw [PySem.StrLaws.found_one]
    · rw [List.all_map]
      exact h
theorem one_of {x : Str} {l : List Str} {S : DH} {Q : DK} {E : DXK} (hx : okS x) (hl : ∀ y ∈ l, okS y) (h : Q (.bl (decide (x ∈ l))) S) : sp_is_one_of [.str x, .rol (strsD l)] S Q E := ⟨x, l, _, rfl, .inl rfl, hx, hl, h⟩
theorem one_ofT {x : Str} {l : List Str} {S : DH} {Q : DK} {E : DXK} (hx : okS x) (hl : ∀ y ∈ l, okS y) (h : Q (.bl (decide (x ∈ l))) S) : sp_is_one_of [.str x, .tup (strsD l)] S Q E := ⟨x, l, _, rfl, .inr rfl, hx, hl, h⟩
theorem okS_lit : okS "stay" ∧ okS "step" ∧ okS "at" ∧ okS "off" ∧ okS "on" ∧ okS "back" ∧ okS "many" ∧ okS "then" ∧ okS "either" := by
  unfold okS
  decide +kernel
theorem okS_star : okS "*" := by unfold okS; decide +kernel
theorem dSeqWhile_gen {c : DTT} {tb r : DTS} {A : DEnds} {τ : DSt} {S : DH} (h : ∀ B R, B = tb → R = r → dSeq (dWhile c B) R A τ S) : dSeq (dWhile c tb) r A τ S := h tb r rfl rfl
theorem inF_strsC {w : Str} {ms : List Str} : inF (.str w) (strsD ms) = decide (w ∈ ms) := by
  induction ms with
  | nil => simp [inF]
  | cons a ms ih =>
    simp only [strsD, List.map_cons, inF, List.any_cons] at ih ⊢
    rw [ih]
    simp [eqF]
    rw [str_beq]
    by_cases e : a = w
    · simp [e]
    · simp [e, Ne.symm e]
theorem deeps_mem {k : Pt} : ∀ {ps : List Pt}, k ∈ ps → k.deep ≤ Pt.deeps ps
  | p :: ps, h => by
    rw [Pt.deeps_cons]
    rcases List.mem_cons.mp h with rfl | z
    · omega
    · have := deeps_mem z
      omega
theorem kid_deep {t k : Pt} (h : k ∈ t.kids) : k.deep + 1 ≤ t.deep := by
  cases t with
  | seq b ps => have := deeps_mem (ps := ps) h; rw [Pt.deep_seq]; omega
  | many p => rw [List.mem_singleton.mp h, Pt.deep_many]; omega
  | _ => cases h
def t_is_name : DTS := (dSeq (dIf (dOr (dNot (dTest (dIsi "str" (dVar 0)))) (dOr (dTest (dOp rLt (dCB cLen (dCons (dVar 0) dNil)) (dC (.int 1)))) (dTest (dOp rGt (dCB cLen (dCons (dVar 0) dNil)) (dC (.int 8))))))
      (dRet (dC (.bl false)))
      dNx)
    (dRet (dCB cAll (dCons (dFz (dLc (dSeqI (dVar 0)) (dGN 1) dYes (dOp (dInS false) (dVar 1) (dC (.str "abcdefghijklmnopqrstuvwxyz"))) [1])) dNil))))
abbrev N_is_name : List Str := ["thing", "sign"]
def t_is_one_of : DTS := (dRet (dAndV (dIsi "str" (dVar 0)) (dOp (dIn false) (dVar 0) (dVar 1))))
abbrev N_is_one_of : List Str := ["thing", "some"]
def t_is_word : DTS := (dRet (dOrV (dCall sp_is_name (dCons (dVar 0) dNil)) (dAndV (dIsi "str" (dVar 0)) (dOp (dEq false) (dVar 0) (dC (.str "*"))))))
abbrev N_is_word : List Str := ["thing"]
def t_is_leaf : DTS := (dSeq (dIf (dOr (dNot (dTest (dIsi "tuple" (dVar 0)))) (dTest (dOp (dEq false) (dCB cLen (dCons (dVar 0) dNil)) (dC (.int 0)))))
      (dRet (dC (.bl false)))
      dNx)
    (dSeq (dIf (dTest (dCall sp_is_one_of (dCons (dOp dIxS (dVar 0) (dC (.int 0))) (dCons (dLstF (dCons (dC (.str "stay")) dNil)) dNil))))
      (dRet (dOp (dEq false) (dCB cLen (dCons (dVar 0) dNil)) (dC (.int 1))))
      dNx)
    (dSeq (dIf (dTest (dCall sp_is_one_of (dCons (dOp dIxS (dVar 0) (dC (.int 0))) (dCons (dLstF (dCons (dC (.str "step")) dNil)) dNil))))
      (dRet (dAndV (dOp (dEq false) (dCB cLen (dCons (dVar 0) dNil)) (dC (.int 3))) (dAndV (dCall sp_is_one_of (dCons (dOp dIxS (dVar 0) (dC (.int 1))) (dCons (dC (.tup [.str "on", .str "back"])) dNil))) (dCall sp_is_word (dCons (dOp dIxS (dVar 0) (dC (.int 2))) dNil)))))
      dNx)
    (dRet (dAndV (dCall sp_is_one_of (dCons (dOp dIxS (dVar 0) (dC (.int 0))) (dCons (dLstF (dCons (dC (.str "at")) (dCons (dC (.str "off")) dNil))) dNil))) (dAndV (dOp (dEq false) (dCB cLen (dCons (dVar 0) dNil)) (dC (.int 2))) (dCall sp_is_name (dCons (dOp dIxS (dVar 0) (dC (.int 1))) dNil))))))))
abbrev N_is_leaf : List Str := ["thing"]
def t_parts_right : DTS := (dSeq (dIf (dTest (dCall sp_is_leaf (dCons (dVar 0) dNil)))
      (dRet (dLstF dNil))
      dNx)
    (dSeq (dIf (dOr (dNot (dTest (dIsi "tuple" (dVar 0)))) (dTest (dOp (dEq true) (dCB cLen (dCons (dVar 0) dNil)) (dC (.int 2)))))
      (dRet (dC .non))
      dNx)
    (dSeq (dIf (dTest (dCall sp_is_one_of (dCons (dOp dIxS (dVar 0) (dC (.int 0))) (dCons (dLstF (dCons (dC (.str "many")) dNil)) dNil))))
      (dRet (dLstF (dCons (dOp dIxS (dVar 0) (dC (.int 1))) dNil)))
      dNx)
    (dSeq (dIf (dOr (dNot (dTest (dCall sp_is_one_of (dCons (dOp dIxS (dVar 0) (dC (.int 0))) (dCons (dLstF (dCons (dC (.str "then")) (dCons (dC (.str "either")) dNil))) dNil))))) (dNot (dTest (dIsi "tuple" (dOp dIxS (dVar 0) (dC (.int 1)))))))
      (dRet (dC .non))
      dNx)
    (dSeq (dIf (dTest (dOp rGt (dCB cLen (dCons (dOp dIxS (dVar 0) (dC (.int 1))) dNil)) (dC (.int 39))))
      (dRet (dC .non))
      dNx)
    (dRet (dCB cListAF (dCons (dOp dIxS (dVar 0) (dC (.int 1))) dNil))))))))
abbrev N_parts_right : List Str := ["thing"]
def t_is_pattern : DTS := (dSeq (dAsg (dLst (dCons (dTup (dCons (dVar 0) (dCons (dC (.int 1)) dNil))) dNil)) (dGN 1))
    (dSeq (dAsg (dC (.int 0)) (dGN 2))
    (dSeq (dWhile (dTest (dOp rGt (dCB cLen (dCons (dVar 1) dNil)) (dC (.int 0))))
      (dSeq (dAsg (dBM "list" mPop (dVar 1) dNil) (dGTupA 2 (dGCons (dGN 3) (dGCons (dGN 4) dGNil))))
    (dSeq (dAsg (dOp dAddF (dVar 2) (dC (.int 1))) (dGN 2))
    (dSeq (dAsg (dCall sp_parts_right (dCons (dVar 3) dNil)) (dGN 5))
    (dSeq (dIf (dOr (dTest (dOp (dIsN false) (dVar 5) (dC .non))) (dOr (dTest (dOp rGt (dVar 4) (dC (.int 10)))) (dTest (dOp rGt (dVar 2) (dC (.int 40))))))
      (dRet (dC (.bl false)))
      dNx)
    (dDrop (dBM "list" mExtend (dVar 1) (dCons (dFz (dLc (dSeqI (dVar 5)) (dGN 6) dYes (dTup (dCons (dVar 6) (dCons (dOp dAddF (dVar 4) (dC (.int 1))) dNil))) [6])) dNil))))))))
    (dRet (dC (.bl true))))))
abbrev N_is_pattern : List Str := ["thing", "left", "count", "part", "deep", "some", "one"]
theorem r_is_name (ds S Q E) (h : sp_is_name ds S Q E) : t_is_name (dEnd Q E) (dstart N_is_name ds) S := by
  obtain ⟨x, rfl, hx, h⟩ := h
  simp [t_is_name, dstart]
  refine ⟨by omega, ?_⟩
  by_cases c1 : x.length < 1
  · rw [if_pos (by omega)]
    have : nameB x = false := by simp [nameB]; omega
    rw [this] at h
    exact .same h
  rw [if_neg (by omega)]
  refine ⟨by omega, ?_⟩
  by_cases c2 : 8 < x.length
  · rw [if_pos (by omega)]
    have : nameB x = false := by simp [nameB]; omega
    rw [this] at h
    exact .same h
  rw [if_neg (by omega)]
  refine all_inC (fun _ => trivial) (by omega) (.same ?_)
  have e : (x.cps.toList.all fun c => decide (c ∈ (Str.ofString "abcdefghijklmnopqrstuvwxyz").cps.toList)) = nameB x := by
    have a1 : 1 ≤ x.length := by omega
    have a2 : x.length ≤ 8 := by omega
    simp only [nameB, a1, a2, decide_true, Bool.true_and]
  rw [e]
  exact h
theorem r_is_one_of (ds S Q E) (h : sp_is_one_of ds S Q E) : t_is_one_of (dEnd Q E) (dstart N_is_one_of ds) S := by
  obtain ⟨x, l, d, rfl, hd, hx, hl, h⟩ := h
  have hin : decide (D.str x ∈ strsD l) = decide (x ∈ l) := by
    refine decide_eq_decide.mpr ?_
    simp [strsD]
  have hs : ∀ e ∈ strsD l, Sm 60 e := fun e he => by
    obtain ⟨y, hy, rfl⟩ := List.mem_map.mp he
    exact Sm_str.mpr (hl y hy)
  rcases hd with rfl | rfl
  · simp [t_is_one_of, dstart]
    refine dInQ_sm (Sm_str.mpr hx) hs ?_
    simp only [Bool.false_eq_true, ↓reduceIte, hin]
    exact .same h
  · simp [t_is_one_of, dstart]
    rw [inF_strsC]
    exact .same h
theorem r_is_word (ds S Q E) (h : sp_is_word ds S Q E) : t_is_word (dEnd Q E) (dstart N_is_word ds) S := by
  obtain ⟨x, rfl, hx, ho, h⟩ := h
  simp [t_is_word, dstart]
  refine ⟨x, rfl, hx, ?_⟩
  cases hb : nameB x
  · simp
    rw [hb] at h
    exact .same (by simpa [str_beq] using h)
  · rw [hb] at h
    exact .same h
theorem r_parts_right (ds S Q E) (h : sp_parts_right ds S Q E) : t_parts_right (dEnd Q E) (dstart N_parts_right ds) S := by
  obtain ⟨p, rfl, ho, hk, h⟩ := h
  obtain ⟨o1, o2, o3, o4, o5, o6, o7, o8, o9⟩ := okS_lit
  have m1 : ∀ y ∈ ([Str.ofString "many"] : List Str), okS y := by simpa using o7
  have m3 : ∀ y ∈ ([Str.ofString "then", Str.ofString "either"] : List Str), okS y := by simpa using ⟨o8, o9⟩
  unfold t_parts_right
  refine dSeqIf_gen fun A B R hA hB hR => ?_
  simp [dstart]
  refine ⟨p, rfl, ho, ?_⟩
  cases hl : p.isLeaf
  · simp
    subst hB
    simp
    subst hR
    cases p with
    | seq b ps =>
      have hk' : ps.length ≤ 39 := hk
      simp [ptD]
      refine one_of (l := [Str.ofString "many"]) (by cases b <;> assumption) m1 ?_
      cases b
      all_goals
        simp
        refine one_of (l := [Str.ofString "then", Str.ofString "either"]) (by assumption) m3 ?_
        simp [ptDs_len]
        rw [if_neg (by omega)]
        exact .same h
    | many p =>
      simp [ptD]
      refine one_of (l := [Str.ofString "many"]) (by assumption) m1 ?_
      simp
      exact .same h
    | _ => simp [Pt.isLeaf] at hl
  · simp
    subst hA
    simp
    cases p <;> simp [Pt.isLeaf] at hl <;> exact .same h
theorem r_is_pattern (ds S Q E) (h : sp_is_pattern ds S Q E) : t_is_pattern (dEnd Q E) (dstart N_is_pattern ds) S := by
  obtain ⟨p, rfl, ho, hf, h40, h10, h⟩ := h
  unfold t_is_pattern
  refine dSeq_gen fun R hR => ?_
  simp [dstart]
  intro l hl
  subst hR
  refine dSeq_gen fun R hR => ?_
  simp
  subst hR
  refine dSeqWhile_gen fun B R hB hR => ?_
  refine while_inv (fun τ S' => ∃ (L : List (Pt × Nat)) (c : Nat) (x3 x4 x5 x6 : Option D), τ = [some (ptD p), some (.ref l), some (.int (c : Nat)), x3, x4, x5, x6] ∧ S' = upo S l (.lst (L.map fun e => .tup [ptD e.1, .int (e.2 : Nat)])) ∧
      c + (L.flatMap fun e => e.1.all).length = p.all.length ∧ ∀ e ∈ L, e.1.okP Nm ∧ Pt.few e.1 ∧ e.2 + e.1.deep ≤ 11)
    (fun (τ : DSt) _ => match τ[2]? with | some (some (D.int j)) => (200000 - j).toNat | _ => 0) ⟨[(p, 1)], 0, none, none, none, none, rfl, rfl, by simp, by simp; exact ⟨ho, hf, by omega⟩⟩ ?_
  rintro τ S2 N ⟨L, c, x3, x4, x5, x6, rfl, rfl, hc, hL⟩ hN
  rcases List.eq_nil_or_concat L with rfl | ⟨L0, ⟨t, dp⟩, rfl⟩
  · simp
    subst hR
    simp
    exact .keep (S := S) (Sub.new hl) h
  · have hte := hL (t, dp) (by simp)
    have htk : t.kids.length ≤ 39 := hte.2.1 t (Pt.self_all t)
    simp
    subst hB
    refine dSeq_gen fun R' hR' => ?_
    simp
    subst hR'
    refine dSeq_gen fun R' hR' => ?_
    simp
    subst hR'
    refine dSeq_gen fun R' hR' => ?_
    simp
    refine ⟨t, rfl, hte.1, htk, ?_⟩
    subst hR'
    refine dSeqIf_gen fun A B R' hA hB hR' => ?_
    have hlen : c + 1 + ((L0.flatMap fun e => e.1.all).length + (t.all.length - 1)) = p.all.length := by
      have := Pt.all_pos t
      have e1 : ([(t, dp)].flatMap fun e : Pt × Nat => e.1.all).length = t.all.length := by simp
      rw [List.concat_eq_append, List.flatMap_append, List.length_append, e1] at hc
      omega
    have hdd : dp ≤ 10 := by
      have h1 := hte.2.2
      have h2 : 1 ≤ t.deep := by cases t <;> simp [Pt.deep]
      simp at h1
      omega
    simp
    rw [if_neg (by omega), if_neg (by omega)]
    subst hB
    simp
    subst hR'
    have hk : (t.kids.flatMap Pt.all).length + 1 = t.all.length := by rw [Pt.all_kids t]; simp
    simp
    refine lcF_map (G := fun _ => True) (fun d => .tup [d, .int ((dp : Int) + 1)]) (fun _ _ _ => trivial) (fun d hd acc p N hp hl hN => ?_) (by rw [ptDs_len]; exact Nat.lt_of_le_of_lt htk (by decide)) ?_
    · simp
      exact ⟨by simpa using hl, hN⟩
    · simp
      have hpl : p.all.length ≤ 40 := h40
      have hL0 : L0.length ≤ 40 := by
        have : ∀ M : List (Pt × Nat), M.length ≤ (M.flatMap fun e => e.1.all).length := fun M => by
          induction M with
          | nil => simp
          | cons e M ih => rw [List.flatMap_cons, List.length_append, List.length_cons]; have := Pt.all_pos e.1; omega
        have := this L0
        omega
      have hkid : ∀ (ks : List Pt) (m : Nat), ((ks.map fun k => (k, m)).flatMap fun e : Pt × Nat => e.1.all) = ks.flatMap Pt.all := fun ks m => by
        rw [List.flatMap_map]
      refine ⟨by rw [ptDs_len]; omega, hN _ _ ⟨L0 ++ t.kids.map fun k => (k, dp + 1), c + 1, _, _, _, _, rfl, ?_, ?_, fun e he => ?_⟩ ?_⟩
      · congr 2
        rw [List.map_append, ptDs_map]
        simp
      · rw [List.flatMap_append, hkid, List.length_append]
        omega
      · rcases List.mem_append.mp he with he | he
        · exact hL e (by rw [List.concat_eq_append]; exact List.mem_append_left _ he)
        · obtain ⟨k, hk1, rfl⟩ := List.mem_map.mp he
          refine ⟨okP_kids hte.1 hk1, fun r hr => hte.2.1 r (by rw [Pt.all_kids]; exact List.mem_cons_of_mem _ (List.mem_flatMap.mpr ⟨k, hk1, hr⟩)), ?_⟩
          have := hte.2.2
          have h3 : k.deep + 1 ≤ t.deep := kid_deep hk1
          simp at this ⊢
          omega
      · simp
        omega
end Rc
set_option maxRecDepth 100000
set_option maxHeartbeats 4000000
namespace Sh
open PySem PySem.Spec L2 Dt Sh
end Sh
set_option maxRecDepth 100000
set_option maxHeartbeats 4000000
namespace ShB
open PySem PySem.Spec L2 Dt Sh
/-! ShB: what the laws k30 to k43 have: draws, leaves, machines. -/
def sp_l_cell_at : DSp := fun ds S Q _ => ∃ (ns : List Int) (k : Nat), ds = [.rol (ns.map D.int), .int k] ∧ Q (.int (ns.getD k 0)) S
theorem sp_l_cell_at_mono : SpMono sp_l_cell_at := fun ds S Q Q' E E' k _ ⟨a, b, h1, h⟩ => ⟨a, b, h1, k _ _ h⟩
def sp_l_draws : DSp := fun ds S Q _ => ∃ (c : Int) (zs : List Nat), ds = [.int c, .rol (natsD zs)] ∧ zs.length ≤ 100000 ∧ (∀ z ∈ zs, 1 ≤ z ∧ z ≤ 1000000) ∧
  ∀ rs : List Nat, rs.length = zs.length → (∀ i, i < zs.length → rs.getD i 0 < zs.getD i 0) → Q (.rol (natsD rs)) S
theorem sp_l_draws_mono : SpMono sp_l_draws := fun ds S Q Q' E E' k _ ⟨a, b, h1, h2, h3, h⟩ => ⟨a, b, h1, h2, h3, fun rs e1 e2 => k _ _ (h rs e1 e2)⟩
def bWords : List Str := ["a", "ab", "stay"]
def bMarks : List Str := ["a", "many"]
def sp_l_words : DSp := fun ds S Q _ => ds = [] ∧ Q (.rol (strsD bWords)) S
theorem sp_l_words_mono : SpMono sp_l_words := fun ds S Q Q' E E' k _ ⟨h1, h⟩ => ⟨h1, k _ _ h⟩
def sp_l_marks : DSp := fun ds S Q _ => ds = [] ∧ Q (.rol (strsD bMarks)) S
theorem sp_l_marks_mono : SpMono sp_l_marks := fun ds S Q Q' E E' k _ ⟨h1, h⟩ => ⟨h1, k _ _ h⟩
/-- a leaf of these laws -/
def LfB (p : Pt) : Prop := p = .stay ∨ (∃ b w, p = .step b w ∧ (w = "*" ∨ w ∈ bWords)) ∨ ∃ b m, p = .mark b m ∧ m ∈ bMarks
def sp_l_leaf : DSp := fun ds S Q _ => ∃ (i j : Nat), ds = [.int i, .int j] ∧ i < 5 ∧ ∀ p, LfB p → Q (ptD p) S
theorem sp_l_leaf_mono : SpMono sp_l_leaf := fun ds S Q Q' E E' k _ ⟨a, b, h1, h2, h⟩ => ⟨a, b, h1, h2, fun p hp => k _ _ (h p hp)⟩
/-- a machine of plain data -/
structure Mc where
  n : Nat
  b : Nat
  es : List Nat
  mv : List Mv
def machD (M : Mc) : D := mcD (.int M.n) (.int M.b) (.tup (natsD M.es)) M.mv
structure OkMc (M : Mc) : Prop where
  b : M.b < M.n
  es : M.es.Pairwise (· < ·)
  esn : ∀ e ∈ M.es, e < M.n
  mv : (M.mv.map mvD).Pairwise fun x y => ltD x y = true
  mvn : ∀ m ∈ M.mv, m.a < M.n ∧ m.b < M.n ∧ m.p.isLeaf = true ∧ m.p.okP Nm
theorem LfB.leaf {p : Pt} (h : LfB p) : p.isLeaf = true := by
  rcases h with rfl | ⟨b, w, rfl, _⟩ | ⟨b, w, rfl, _⟩ <;> rfl
theorem bWords_nm : ∀ w ∈ bWords, Nm w := by
  intro w h
  simp [bWords] at h
  rcases h with rfl | rfl | rfl <;> refine ⟨by decide +kernel, by decide +kernel, by decide +kernel⟩
theorem bMarks_nm : ∀ w ∈ bMarks, Nm w := by
  intro w h
  simp [bMarks] at h
  rcases h with rfl | rfl <;> refine ⟨by decide +kernel, by decide +kernel, by decide +kernel⟩
theorem LfB.ok {p : Pt} (h : LfB p) : p.okP Nm := by
  rcases h with rfl | ⟨b, w, rfl, hw⟩ | ⟨b, w, rfl, hw⟩ <;> intro q hq <;> simp [Pt.all] at hq <;> subst hq
  · trivial
  · exact hw.imp id (bWords_nm w)
  · exact bMarks_nm w hw
theorem okP_imp {P P' : Str → Prop} (k : ∀ x, P x → P' x) {p : Pt} (h : p.okP P) : p.okP P' := fun q hq => by
  have := h q hq
  cases q with
  | step b w => exact this.imp id (k _)
  | mark b m => exact k _ this
  | _ => trivial
def sp_l_machine : DSp := fun ds S Q _ => ∃ (c : Int) (m : Nat), ds = [.int c, .int m] ∧ 1 ≤ m ∧ m ≤ 50 ∧
  ∀ M : Mc, OkMc M → M.n ≤ m → M.mv.length ≤ 3 * m → (∀ x ∈ M.mv, LfB x.p) → Q (machD M) S
theorem sp_l_machine_mono : SpMono sp_l_machine := fun ds S Q Q' E E' k _ ⟨a, b, h1, h2, h3, h⟩ => ⟨a, b, h1, h2, h3, fun M e1 e2 e3 e4 => k _ _ (h M e1 e2 e3 e4)⟩
def sp_l_still : DSp := fun ds S Q _ => ∃ (x y z : D) (mv : List Mv) (st : List Nat) (ms : List Str), ds = [mcD x y z mv, .rol (natsD st), .rol (strsD ms)] ∧ (∀ m ∈ mv, OkMv m) ∧ (∀ m ∈ ms, okS m) ∧ st.length + mv.length ≤ 100000 ∧ st.Nodup ∧
  ∀ L : List Nat, L.Nodup → (∀ n, n ∈ L ↔ Come mv ms st n) → Q (.rol (natsD L)) S
def sp_l_by : DSp := fun ds S Q _ => ∃ (x y z : D) (mv : List Mv) (st : List Nat) (side word : Str) (d : D), ds = [mcD x y z mv, d, .str side, .str word] ∧ (d = .rol (natsD st) ∨ d = .tup (natsD st)) ∧ (∀ m ∈ mv, OkMv m) ∧ mv.length ≤ 100000 ∧
  ∀ L : List Nat, L.Nodup → (∀ n, n ∈ L ↔ ByStep mv st side word n) → Q (.rol (natsD L)) S
def t_l_cell_at : DTS := (dSeq (dIf (dTest (dOp rLt (dVar 1) (dCB cLen (dCons (dVar 0) dNil))))
      (dRet (dOp dIxS (dVar 0) (dVar 1)))
      dNx)
    (dRet (dC (.int 0))))
abbrev N_l_cell_at : List Str := ["_law_script", "_law_k"]
def t_l_draws : DTS := (dSeq (dAsg (dLst dNil) (dGN 2))
    (dSeq (dAsg (dOp rSub (dVar 0) (dOp rPow (dC (.int 10)) (dC (.int 18)))) (dGN 3))
    (dSeq (dFor (dRng1 (dCons (dCB cLen (dCons (dVar 1) dNil)) dNil)) (dGN 4)
      (dSeq (dAsg (dOp rMod (dOp dMul (dOp dAddF (dOp rMod (dVar 0) (dC (.int 1000003))) (dC (.int 1))) (dOp dAddF (dOp dMul (dVar 4) (dVar 4)) (dC (.int 48271)))) (dC (.int 65537))) (dGN 5))
    (dSeq (dAsg (dOp rMod (dOp dMul (dOp dAddF (dOp dAddF (dOp dMul (dVar 5) (dVar 5)) (dOp dMul (dC (.int 7919)) (dVar 4))) (dC (.int 11))) (dC (.int 30269))) (dC (.int 999983))) (dGN 5))
    (dSeq (dIf (dTest (dOp rGe (dVar 0) (dOp rPow (dC (.int 10)) (dC (.int 18)))))
      (dAsg (dVar 3) (dGN 5))
      dNx)
    (dSeq (dDrop (dBM "list" mAppend (dVar 2) (dCons (dOp rMod (dVar 5) (dOp dIxS (dVar 1) (dVar 4))) dNil)))
    (dAsg (dOp rFdiv (dVar 3) (dOp dIxS (dVar 1) (dVar 4))) (dGN 3)))))))
    (dRet (dVar 2)))))
abbrev N_l_draws : List Str := ["_law_cell", "_law_sizes", "_law_found", "_law_figures", "_law_k", "_law_mixed"]
def t_l_words : DTS := (dRet (dLstF (dCons (dC (.str "a")) (dCons (dC (.str "ab")) (dCons (dC (.str "stay")) dNil)))))
abbrev N_l_words : List Str := []
def t_l_marks : DTS := (dRet (dLstF (dCons (dC (.str "a")) (dCons (dC (.str "many")) dNil))))
abbrev N_l_marks : List Str := []
def t_l_still : DTS := (dSeq (dAsg (dCB cListA (dCons (dVar 1) dNil)) (dGN 3))
    (dSeq (dAsg (dC (.int 0)) (dGN 4))
    (dSeq (dWhile (dTest (dOp rLt (dVar 4) (dCB cLen (dCons (dVar 3) dNil))))
      (dSeq (dFor (dSeqI (dOp dIxS (dVar 0) (dC (.int 3)))) (dGTup 3 (dGCons (dGN 5) (dGCons (dGN 6) (dGCons (dGN 7) dGNil))))
      (dIf (dAnd (dTest (dOp (dEq false) (dVar 5) (dOp dIxS (dVar 3) (dVar 4)))) (dAnd (dTest (dOp (dIn true) (dVar 7) (dVar 3))) (dTest (dOp (dEq true) (dOp dIxS (dVar 6) (dC (.int 0))) (dC (.str "step"))))))
      (dIf (dOr (dTest (dOp (dEq false) (dOp dIxS (dVar 6) (dC (.int 0))) (dC (.str "stay")))) (dTest (dOp (dEq false) (dOp (dIn false) (dOp dIxS (dVar 6) (dC (.int 1))) (dVar 2)) (dOp (dEq false) (dOp dIxS (dVar 6) (dC (.int 0))) (dC (.str "at"))))))
      (dDrop (dBM "list" mAppend (dVar 3) (dCons (dVar 7) dNil)))
      dNx)
      dNx))
    (dAsg (dOp dAddF (dVar 4) (dC (.int 1))) (dGN 4))))
    (dRet (dVar 3)))))
abbrev N_l_still : List Str := ["_law_machine_here", "_law_stands", "_law_marks_here", "_law_found", "_law_at", "_law_one", "_law_leaf_here", "_law_other"]
def t_l_by : DTS := (dSeq (dAsg (dLst dNil) (dGN 4))
    (dSeq (dFor (dSeqI (dOp dIxS (dVar 0) (dC (.int 3)))) (dGTup 3 (dGCons (dGN 5) (dGCons (dGN 6) (dGCons (dGN 7) dGNil))))
      (dIf (dAnd (dTest (dOp (dIn false) (dVar 5) (dVar 1))) (dAnd (dTest (dOp (dEq false) (dOp dIxS (dVar 6) (dC (.int 0))) (dC (.str "step")))) (dAnd (dTest (dOp (dEq false) (dOp dIxS (dVar 6) (dC (.int 1))) (dVar 2))) (dTest (dOp (dIn false) (dOp dIxS (dVar 6) (dC (.int 2))) (dTup (dCons (dC (.str "*")) (dCons (dVar 3) dNil))))))))
      (dIf (dTest (dOp (dIn true) (dVar 7) (dVar 4)))
      (dDrop (dBM "list" mAppend (dVar 4) (dCons (dVar 7) dNil)))
      dNx)
      dNx))
    (dRet (dVar 4))))
abbrev N_l_by : List Str := ["_law_machine_here", "_law_stands", "_law_side", "_law_word", "_law_found", "_law_one", "_law_leaf_here", "_law_other"]
def t_l_right : DTS := (dSeq (dIf (dOr (dNot (dTest (dIsi "tuple" (dVar 0)))) (dTest (dOp (dEq true) (dCB cListAF (dCons (dVar 0) dNil)) (dCB cSortAF (dCons (dVar 1) dNil)))))
      (dRet (dC (.bl false)))
      dNx)
    (dRet (dOp (dEq false) (dFz (dLc (dSeqI (dVar 0)) (dGN 2) (dTest (dIsi "bool" (dVar 2))) (dVar 2) [2])) (dLstF dNil))))
abbrev N_l_right : List Str := ["_law_found", "_law_due", "_law_stand"]
def t_l_leaf : DTS := (dSeq (dIf (dTest (dOp (dEq false) (dVar 0) (dC (.int 0))))
      (dRet (dTup (dCons (dC (.str "stay")) dNil)))
      dNx)
    (dSeq (dIf (dTest (dOp rLt (dVar 0) (dC (.int 3))))
      (dRet (dTup (dCons (dC (.str "step")) (dCons (dOp dIxS (dLstF (dCons (dC (.str "on")) (dCons (dC (.str "back")) dNil))) (dOp rMod (dVar 1) (dC (.int 2)))) (dCons (dOp dIxS (dOp dAddF (dCall sp_l_words dNil) (dLstF (dCons (dC (.str "*")) dNil))) (dOp rMod (dOp rFdiv (dVar 1) (dC (.int 2))) (dC (.int 4)))) dNil)))))
      dNx)
    (dRet (dTup (dCons (dOp dIxS (dLstF (dCons (dC (.str "at")) (dCons (dC (.str "off")) dNil))) (dOp rSub (dVar 0) (dC (.int 3)))) (dCons (dOp dIxS (dCall sp_l_marks dNil) (dOp rMod (dVar 1) (dC (.int 2)))) dNil))))))
abbrev N_l_leaf : List Str := ["_law_way", "_law_number"]
def t_l_machine : DTS := (dSeq (dAsg (dCall sp_l_draws (dCons (dVar 0) (dCons (dOp dAddF (dLstF (dCons (dVar 1) (dCons (dVar 1) (dCons (dC (.int 8)) (dCons (dOp dMul (dC (.int 3)) (dVar 1)) dNil))))) (dFz (dOp dMul (dOp dMul (dLst (dCons (dVar 1) (dCons (dC (.int 5)) (dCons (dC (.int 16)) (dCons (dVar 1) dNil))))) (dC (.int 3))) (dVar 1)))) dNil))) (dGN 2))
    (dSeq (dAsg (dOp dAddF (dC (.int 1)) (dOp dIxS (dVar 2) (dC (.int 0)))) (dGN 3))
    (dSeq (dAsg (dFz (dLc (dRng1 (dCons (dVar 3) dNil)) (dGN 11) (dTest (dOp (dEq false) (dOp rMod (dOp rFdiv (dOp dIxS (dVar 2) (dC (.int 2))) (dOp dIxS (dLstF (dCons (dC (.int 1)) (dCons (dC (.int 2)) (dCons (dC (.int 4)) dNil)))) (dOp rMod (dVar 11) (dC (.int 3))))) (dC (.int 2))) (dC (.int 1)))) (dVar 11) [11])) (dGN 4))
    (dSeq (dAsg dDnN (dGN 5))
    (dSeq (dFor (dRng1 (dCons (dOp dIxS (dVar 2) (dC (.int 3))) dNil)) (dGN 6)
      (dSeq (dAsg (dSlF (dVar 2) (dSoP (dOp dAddF (dC (.int 4)) (dOp dMul (dC (.int 4)) (dVar 6)))) (dSoP (dOp dAddF (dC (.int 8)) (dOp dMul (dC (.int 4)) (dVar 6))))) (dGTupA 4 (dGCons (dGN 7) (dGCons (dGN 8) (dGCons (dGN 9) (dGCons (dGN 10) dGNil))))))
    (dPut (dVar 5) (dTup (dCons (dOp rMod (dVar 7) (dVar 3)) (dCons (dCall sp_l_leaf (dCons (dVar 8) (dCons (dVar 9) dNil))) (dCons (dOp rMod (dVar 10) (dVar 3)) dNil)))) (dC (.bl true)))))
    (dRet (dTup (dCons (dVar 3) (dCons (dOp rMod (dOp dIxS (dVar 2) (dC (.int 1))) (dVar 3)) (dCons (dCB cTuple (dCons (dVar 4) dNil)) (dCons (dCB cTuple (dCons (dCB cSortAF (dCons (dVar 5) dNil)) dNil)) dNil)))))))))))
abbrev N_l_machine : List Str := ["_law_cell", "_law_most", "_law_ds", "_law_many", "_law_ends", "_law_moves", "_law_j", "_law_one", "_law_way", "_law_number", "_law_other", "_law_stand"]
theorem rng_get {n i : Nat} {d : D} (h : (rngD 0 n)[i]? = some d) : i < n ∧ d = .int i := by
  unfold rngD at h
  rw [List.getElem?_map] at h
  by_cases hi : i < n
  · rw [List.getElem?_range hi] at h
    simp at h
    exact ⟨hi, h.symm⟩
  · rw [List.getElem?_eq_none (by simpa using Nat.not_lt.mp hi)] at h
    simp at h
theorem rng_len (lo : Int) (n : Nat) : (rngD lo n).length = n := by simp [rngD]
theorem atI_nats {xs : List Nat} {i : Nat} (h : i < xs.length) : atI (natsD xs) (i : Int) = some (.int (xs.getD i 0 : Nat)) := by
  refine atI_nat (j := i) ?_
  simp [h]
theorem r_l_cell_at (ds S Q E) (h : sp_l_cell_at ds S Q E) : t_l_cell_at (dEnd Q E) (dstart N_l_cell_at ds) S := by
  obtain ⟨ns, k, rfl, h⟩ := h
  simp [t_l_cell_at, dstart]
  split
  · rename_i hk
    rw [atI_map (by omega)]
    simp
    exact .same h
  · rename_i hk
    rw [List.getD_eq_getElem?_getD, List.getElem?_eq_none (by omega)] at h
    exact .same h
theorem r_l_words (ds S Q E) (h : sp_l_words ds S Q E) : t_l_words (dEnd Q E) (dstart N_l_words ds) S := by
  obtain ⟨rfl, h⟩ := h
  simp [t_l_words, dstart]
  exact .same h
theorem r_l_marks (ds S Q E) (h : sp_l_marks ds S Q E) : t_l_marks (dEnd Q E) (dstart N_l_marks ds) S := by
  obtain ⟨rfl, h⟩ := h
  simp [t_l_marks, dstart]
  exact .same h
theorem r_l_draws (ds S Q E) (h : sp_l_draws ds S Q E) : t_l_draws (dEnd Q E) (dstart N_l_draws ds) S := by
  obtain ⟨c, zs, rfl, h1, h2, h⟩ := h
  unfold t_l_draws
  refine dSeq_gen fun R hR => ?_
  simp [dstart]
  intro p hp
  subst hR
  have c0 : CPow 10 18 := by unfold CPow; decide
  refine dSeq_gen fun R hR => ?_
  simp [c0]
  subst hR
  refine dSeqFor_gen fun B R hB hR => ?_
  simp
  refine ⟨by omega, ?_⟩
  refine loop_inv (fun i τ S' => ∃ (rs : List Nat) (f : Int) (x4 x5 : Option D), τ = [some (.int c), some (.rol (natsD zs)), some (.ref p), some (.int f), x4, x5] ∧ S' = upo S p (.lst (natsD rs)) ∧ rs.length = i ∧ ∀ j, j < i → rs.getD j 0 < zs.getD j 0) ⟨[], _, none, none, rfl, rfl, rfl, by simp⟩ (fun _ _ _ _ _ => trivial) ?_ ?_
  · rintro i d τ S1 N hd ⟨rs, f, x4, x5, rfl, rfl, hl, hj⟩ hN
    obtain ⟨hi, rfl⟩ := rng_get hd
    subst hB
    have hz := h2 _ (List.getElem_mem hi)
    have hgz : zs.getD i 0 = zs[i] := by simp [hi]
    have b0 : Bd 17 (i : Int) := by unfold Bd; omega
    have b1 : Bd 20 (c % 1000003 + 1) := by unfold Bd; omega
    have b2 : Bd 35 ((i : Int) * i + 48271) := Bd.add (b0.mul b0) (show Bd 34 48271 by unfold Bd; decide)
    have b3 : ∀ x : Int, Bd 17 (x % 65537) := fun x => Bd.mod (by decide) (by unfold Bd; decide)
    have b4 : ∀ x : Int, Bd 36 (x % 65537 * (x % 65537) + 7919 * i + 11) := fun x => Bd.add (Bd.add ((b3 x).mul (b3 x)) (((show Bd 13 7919 by unfold Bd; decide).mul b0).mono (by decide))) (show Bd 35 11 by unfold Bd; decide)
    have c1 := b0.cm b0
    have c2 := b1.cm b2
    have c3 := fun x => (b3 x).cm (b3 x)
    have c4 := (show Bd 13 7919 by unfold Bd; decide).cm b0
    have c5 := fun x => (b4 x).cm (show Bd 15 30269 by unfold Bd; decide)
    have c6 : CDivW f (zs[i] : Nat) := wide_div (by omega) (b := 20) (by omega) (by decide) (by decide)
    have cp : (0 : Int) < (zs[i] : Nat) := by omega
    have fin : ∀ (x : Int) (y : Option D), N [some (.int c), some (.rol (natsD zs)), some (.ref p), some (.int (f / (zs[i] : Nat))), some (.int i), y] (upo S p (.lst (natsD rs ++ [.int (x % (zs[i] : Nat))]))) := fun x y => by
      obtain ⟨r, hr⟩ := Int.eq_ofNat_of_zero_le (Int.emod_nonneg x (show ((zs[i] : Nat) : Int) ≠ 0 by omega))
      have hr2 := Int.emod_lt_of_pos x cp
      rw [hr] at hr2 ⊢
      refine hN _ _ ⟨rs ++ [r], _, _, _, rfl, by simp, by simp [hl], fun j hj' => ?_⟩
      by_cases e : j < i
      · have := hj j e
        simp at this
        simp [List.getElem?_append_left (show j < rs.length by omega), this]
      · have e : j = rs.length := by omega
        subst e
        simp [hl, hi] at hr2 ⊢
        omega
    have ix := atI_nats hi
    rw [hgz] at ix
    simp only [natsD] at ix
    simp [c1, c2, c3, c4, c5, c0]
    split
    · simp [ix, cp, c6]
      exact ⟨by omega, by omega, fin _ _⟩
    · simp [ix, cp, c6]
      exact ⟨by omega, by omega, fin _ _⟩
  · rintro τ S1 ⟨rs, f, x4, x5, rfl, rfl, hl, hj⟩
    simp only [rng_len] at hl hj
    subst hR
    simp
    exact .rol (by simp) hp (Sub.new hp) (h rs hl hj)

theorem r_l_leaf (ds S Q E) (h : sp_l_leaf ds S Q E) : t_l_leaf (dEnd Q E) (dstart N_l_leaf ds) S := by
  obtain ⟨i, j, rfl, hi, h⟩ := h
  simp [t_l_leaf, dstart]
  by_cases c0 : i = 0
  · simp [c0]
    exact .same (h .stay (.inl rfl))
  have c2 : CDivW j 2 := wide_div (by decide) (b := 3) (by decide) (by decide) (by decide)
  by_cases c1 : (i : Int) < 3
  · simp [c0, c1, sp_l_words, bWords, catD, c2]
    refine opt_at (by omega) (by simp; omega) fun y hy => ?_
    refine opt_at (by omega) (by simp; omega) fun z hz => ?_
    simp at hy hz
    obtain ⟨b, rfl⟩ : ∃ b : Bool, y = .str (if b then "on" else "back") := by
      rcases hy with rfl | rfl
      · exact ⟨true, rfl⟩
      · exact ⟨false, rfl⟩
    obtain ⟨w, hw, rfl⟩ : ∃ w : Str, (w = "*" ∨ w ∈ bWords) ∧ z = .str w := by
      rcases hz with rfl | rfl | rfl | rfl <;> exact ⟨_, by simp [bWords], rfl⟩
    exact .same (h (.step b w) (.inr (.inl ⟨b, w, rfl, hw⟩)))
  · simp [c0, c1, sp_l_marks, bMarks]
    refine opt_at (by omega) (by simp; omega) fun y hy => ?_
    refine opt_at (by omega) (by simp; omega) fun z hz => ?_
    simp at hy hz
    obtain ⟨b, rfl⟩ : ∃ b : Bool, y = .str (if b then "at" else "off") := by
      rcases hy with rfl | rfl
      · exact ⟨true, rfl⟩
      · exact ⟨false, rfl⟩
    obtain ⟨w, hw, rfl⟩ : ∃ w : Str, w ∈ bMarks ∧ z = .str w := by
      rcases hz with rfl | rfl <;> exact ⟨_, by simp [bMarks], rfl⟩
    exact .same (h (.mark b w) (.inr (.inr ⟨b, w, rfl, hw⟩)))
theorem cutD_mid (ds : List D) (a b : Nat) (ha : a ≤ b) (hb : b ≤ ds.length) : cutD ds (some (a : Int)) (some (b : Int)) = (ds.drop a).take (b - a) := by
  unfold cutD
  rw [HT.sIx_nat, HT.sIx_nat, Nat.min_eq_left (Nat.le_trans ha hb), Nat.min_eq_left hb]
theorem drop_four {xs : List Nat} {k : Nat} (h : k + 4 ≤ xs.length) : ((natsD xs).drop k).take 4 = natsD [xs.getD k 0, xs.getD (k + 1) 0, xs.getD (k + 2) 0, xs.getD (k + 3) 0] := by
  apply List.ext_getElem
  · simp; omega
  · intro i h1 h2
    simp at h1 h2
    rcases (show i = 0 ∨ i = 1 ∨ i = 2 ∨ i = 3 by omega) with rfl | rfl | rfl | rfl <;> simp [show k < xs.length by omega, show k + 1 < xs.length by omega, show k + 2 < xs.length by omega, show k + 3 < xs.length by omega]
theorem rep_three {α : Type} (l : List α) : ∀ m : Nat, (List.replicate m (l ++ (l ++ l))).flatten = (List.replicate (3 * m) l).flatten
  | 0 => rfl
  | m + 1 => by
    rw [show 3 * (m + 1) = 3 * m + 1 + 1 + 1 by omega]
    simp only [List.replicate_succ, List.flatten_cons, rep_three l m, List.append_assoc]
theorem rep_at {l : List Nat} {r : Nat} (hr : r < l.length) : ∀ {k j : Nat}, j < k → (List.replicate k l).flatten.getD (j * l.length + r) 0 = l.getD r 0
  | k + 1, 0, _ => by
    simp [List.replicate_succ, List.getElem?_append_left hr]
  | k + 1, j + 1, h => by
    have := rep_at hr (k := k) (j := j) (by omega)
    rw [List.replicate_succ, List.flatten_cons]
    rw [show (j + 1) * l.length + r = l.length + (j * l.length + r) by rw [Nat.add_mul]; omega]
    rw [List.getD_eq_getElem?_getD, List.getElem?_append_right (by omega), show l.length + (j * l.length + r) - l.length = j * l.length + r by omega, ← List.getD_eq_getElem?_getD]
    exact this
theorem perm_map_ex {α β : Type} {f : α → β} {x y : List β} (h : x.Perm y) : ∀ {l : List α}, y = l.map f → ∃ l2 : List α, l2.Perm l ∧ x = l2.map f := by
  induction h with
  | nil => intro l e; cases l with | nil => exact ⟨[], .refl _, rfl⟩ | cons a l => cases e
  | cons a h ih =>
    intro l e
    cases l with
    | nil => cases e
    | cons b l =>
      simp at e
      obtain ⟨l2, p, e2⟩ := ih e.2
      exact ⟨b :: l2, p.cons _, by simp [e.1, e2]⟩
  | swap a b l' =>
    intro l e
    match l, e with
    | c :: d :: l, e => simp at e; exact ⟨d :: c :: l, .swap _ _ _, by simp [e]⟩
  | trans h1 h2 ih1 ih2 =>
    intro l e
    obtain ⟨l2, p, e2⟩ := ih2 e
    obtain ⟨l3, p3, e3⟩ := ih1 e2
    exact ⟨l3, p3.trans p, e3⟩
theorem okT_mv {m : Mv} (h : m.p.isLeaf = true) : okT (mvD m) = true := by
  obtain ⟨a, p, b⟩ := m
  cases p with
  | stay => rfl
  | step c w => cases c <;> rfl
  | mark c w => cases c <;> rfl
  | many p => cases h
  | seq c p => cases h
abbrev mvTy : Ty := .tup [.int, .hom1 .str, .int]
theorem mv_ty {m : Mv} (h : OkMv m) : hasTy mvTy (mvD m) = true := by
  obtain ⟨a, p, b⟩ := m
  obtain ⟨h1, h2⟩ := h
  have := h2 _ (Pt.self_all _)
  have s1 : PyData.strOk (Str.ofString "stay") = true := ok_lit _
  have s2 : PyData.strOk (Str.ofString "step") = true := ok_lit _
  have s3 : PyData.strOk (Str.ofString "at") = true := ok_lit _
  have s4 : PyData.strOk (Str.ofString "off") = true := ok_lit _
  have s5 : PyData.strOk (Str.ofString "on") = true := ok_lit _
  have s6 : PyData.strOk (Str.ofString "back") = true := ok_lit _
  have s7 : PyData.strOk (Str.ofString "*") = true := ok_lit _
  cases p with
  | stay => simp [hasTy, hasTys, mvD, ptD, s1]
  | step c w =>
    have hw : PyData.strOk w = true := this.elim (fun e => e ▸ s7) id
    clear this
    cases c <;> simp [hasTy, hasTys, mvD, ptD, s2, s5, s6, hw]
  | mark c w =>
    have hw : PyData.strOk w = true := this
    clear this
    cases c <;> simp [hasTy, hasTys, mvD, ptD, s3, s4, hw]
  | many p => cases h1
  | seq c p => cases h1
theorem srt_strict {t : Ty} {ds : List D} (ht : ∀ d ∈ ds, hasTy t d = true) (nd : ds.Nodup) : (srtD ds).Pairwise fun x y => ltD x y = true := by
  have h1 := srt_sorted ds
  have h2 : (srtD ds).Nodup := (srt_perm ds).nodup_iff.mpr nd
  have h3 : ∀ d ∈ srtD ds, hasTy t d = true := fun d hd => ht d (srt_mem.mp hd)
  revert h1 h2 h3
  generalize srtD ds = l
  intro h1 h2 h3
  induction l with
  | nil => exact .nil
  | cons a l ih =>
    rw [List.pairwise_cons] at h1 ⊢
    rw [List.nodup_cons] at h2
    refine ⟨fun b hb => ?_, ih h1.2 h2.2 fun d hd => h3 d (List.mem_cons_of_mem _ hd)⟩
    by_cases e : ltD a b = true
    · exact e
    · exact absurd (ltD_tri (h3 a (List.mem_cons_self ..)) (h3 b (List.mem_cons_of_mem _ hb)) (by simpa using e) (h1.1 b hb)) fun e' => h2.1 (e' ▸ hb)
end ShB
set_option maxRecDepth 100000
set_option maxHeartbeats 4000000
namespace ShB
open PySem PySem.Spec L2 Dt Sh
theorem rep12_len (m : Nat) : ((List.replicate (3 * m) [m, 5, 16, m]).flatten).length = 12 * m := by
  rw [List.length_flatten]; simp; omega
theorem r_l_machine (ds S Q E) (h : sp_l_machine ds S Q E) : t_l_machine (dEnd Q E) (dstart N_l_machine ds) S := by
  obtain ⟨c, m, rfl, h1, h2, h⟩ := h
  unfold t_l_machine
  refine dSeq_gen fun R hR => ?_
  have bm : Bd 6 (m : Int) := by unfold Bd; omega
  have c1 := (show Bd 2 3 by unfold Bd; decide).cm bm
  simp only [dstart, dSeq, dAsg, dCall, dCons, dNil, dVar, dOp, dLstF, dFz, dMul,dAddF,dLst,dC]
  simp [c1]
  intro p hp
  simp
  intro p2 hp2
  simp
  refine ⟨⟨by omega, by omega⟩, fun p3 hp3 => ?_⟩
  simp [catD]
  refine ⟨by omega, ?_⟩
  have ez : ∃ zs : List Nat, zs = [m, m, 8, 3 * m] ++ (List.replicate (3 * m) [m, 5, 16, m]).flatten ∧ (D.int ↑m :: D.int ↑m :: D.int 8 :: D.int (3 * ↑m) :: (List.replicate m [D.int ↑m, D.int 5, D.int 16, D.int ↑m, D.int ↑m, D.int 5, D.int 16, D.int ↑m, D.int ↑m, D.int 5, D.int 16, D.int ↑m]).flatten) = natsD zs := by
    refine ⟨_, rfl, ?_⟩
    rw [← rep_three]
    simp [List.map_flatten]
  obtain ⟨zs, ezs, e⟩ := ez
  rw [e]
  have hlen : zs.length = 4 + 12 * m := by rw [ezs, List.length_append, rep12_len]; rfl
  have hz : ∀ z ∈ zs, 1 ≤ z ∧ z ≤ 1000000 := by
    rw [ezs]
    intro z hz
    rcases List.mem_append.mp hz with hz | hz
    · simp at hz; omega
    · obtain ⟨l, hl, hz⟩ := List.mem_flatten.mp hz
      rw [(List.mem_replicate.mp hl).2] at hz
      simp at hz; omega
  have hat : ∀ j r : Nat, j < 3 * m → r < 4 → zs.getD (4 + 4 * j + r) 0 = [m, 5, 16, m].getD r 0 := fun j r hj hr => by
    rw [ezs, List.getD_eq_getElem?_getD, List.getElem?_append_right (by simp; omega), ← List.getD_eq_getElem?_getD]
    have := rep_at (l := [m, 5, 16, m]) (r := r) hr hj
    rw [← this]
    congr 1
    simp
    omega
  refine ⟨c, zs, rfl, by omega, hz, fun rs hrl hrs => ?_⟩
  clear e hz
  rw [hlen] at hrl
  have hr0 : rs.getD 0 0 < m := by have := hrs 0 (by omega); rw [ezs] at this; simpa using this
  have hr3 : rs.getD 3 0 < 3 * m := by have := hrs 3 (by omega); rw [ezs] at this; simpa using this
  clear ezs
  have sub : Sub S (delo (upo (upo S p (Ob.lst [D.int ↑m, D.int 5, D.int 16, D.int ↑m])) p2 (Ob.lst [D.int ↑m, D.int 5, D.int 16, D.int ↑m, D.int ↑m, D.int 5, D.int 16, D.int ↑m, D.int ↑m, D.int 5, D.int 16, D.int ↑m])) p3) := by
    rw [delo_none hp3]
    exact (Sub.new hp).trans (Sub.new hp2)
  revert sub
  generalize delo _ _ = S2
  intro sub
  clear hp hp2 hp3
  subst hR
  have at' : ∀ i, i < 4 + 12 * m → atI (natsD rs) (i : Nat) = some (.int (rs.getD i 0 : Nat)) := fun i hi => atI_nats (by omega)
  have a0 : atI (natsD rs) 0 = some (.int (rs.getD 0 0 : Nat)) := at' 0 (by omega)
  have a1 : atI (natsD rs) 1 = some (.int (rs.getD 1 0 : Nat)) := at' 1 (by omega)
  have a2 : atI (natsD rs) 2 = some (.int (rs.getD 2 0 : Nat)) := at' 2 (by omega)
  have a3 : atI (natsD rs) 3 = some (.int (rs.getD 3 0 : Nat)) := at' 3 (by omega)
  generalize rs.getD 0 0 = r0 at a0 hr0
  generalize rs.getD 1 0 = r1 at a1
  generalize rs.getD 2 0 = r2 at a2
  generalize rs.getD 3 0 = r3 at a3 hr3
  refine dSeq_gen fun R hR => ?_
  simp [a0]
  subst hR
  refine dSeq_gen fun R hR => ?_
  simp [a2]
  refine ⟨by omega, ?_⟩
  have en : (1 + (r0 : Int)).toNat = r0 + 1 := by omega
  rw [en]
  refine lcF_inv (fun i acc S1 => ∃ es : List Nat, acc = natsD es ∧ es.Pairwise (· < ·) ∧ (∀ e ∈ es, e < i) ∧ S1 = S2) ⟨[], rfl, .nil, (by simp), rfl⟩ (fun _ _ _ _ _ _ _ => trivial) ?_ (by rw [rng_len, sizeLine_eq]; omega) ?_
  · rintro i d acc S1 q N hd ⟨es, rfl, hs, he, rfl⟩ hq hlen hN
    obtain ⟨hi, rfl⟩ := rng_get hd
    simp [a2]
    refine opt_at (by omega) (by simp; omega) fun y hy => ?_
    obtain ⟨k, rfl, hk0, hk⟩ : ∃ k : Int, y = .int k ∧ 0 < k ∧ k < 5 := by
      simp at hy
      rcases hy with rfl | rfl | rfl <;> exact ⟨_, rfl, by decide, by decide⟩
    simp
    refine ⟨wide_div hk0 (b := 4) (by omega) (by decide) (by decide), ?_⟩
    split
    · simp at hlen ⊢
      refine ⟨by omega, ?_⟩
      have := hN (natsD (es ++ [i])) _ hq ⟨es ++ [i], rfl, ?_, ?_, rfl⟩ (by simp)
      · simpa using this
      · rw [List.pairwise_append]
        exact ⟨hs, by simp, fun a ha b hb => by simp at hb; subst hb; exact he a ha⟩
      · intro e h
        simp at h
        rcases h with h | h
        · have := he e h; omega
        · omega
    · exact hN (natsD es) _ hq ⟨es, rfl, hs, fun e h => by have := he e h; omega, rfl⟩ (by simp)
  rintro acc S1 ⟨es, rfl, hs, he, rfl⟩
  rw [rng_len] at he
  subst hR
  refine dSeq_gen fun R hR => ?_
  simp
  intro p hp
  subst hR
  refine dSeqFor_gen fun B R hB hR => ?_
  simp [a3]
  refine ⟨by omega, ?_⟩
  refine loop_inv (fun i τ S' => ∃ (mv : List Mv) (x6 x7 x8 x9 x10 x11 : Option D), τ = [some (.int c), some (.int m), some (.rol (natsD rs)), some (.int (1 + r0)), some (.rol (natsD es)), some (.ref p), x6, x7, x8, x9, x10, x11] ∧ S' = upo S1 p (.dN (kset (mv.map mvD))) ∧ (mv.map mvD).Nodup ∧ mv.length ≤ i ∧ (∀ x ∈ mv, LfB x.p) ∧ ∀ x ∈ mv, x.a < r0 + 1 ∧ x.b < r0 + 1) ⟨[], none, none, none, none, none, none, rfl, rfl, .nil, Nat.le_refl _, (by simp), by simp⟩ (fun _ _ _ _ _ => trivial) ?_ ?_
  · rintro i d τ S3 N hd ⟨mv, x6, x7, x8, x9, x10, x11, rfl, rfl, nd, hl, hlf, hab⟩ hN
    obtain ⟨hi, rfl⟩ := rng_get hd
    have bi : Bd 10 (i : Int) := by unfold Bd; omega
    have c4 := (show Bd 3 4 by unfold Bd; decide).cm bi
    have ecut : cutD (natsD rs) (some (4 + 4 * (i : Int))) (some (8 + 4 * (i : Int))) = natsD [rs.getD (4 + 4 * i) 0, rs.getD (4 + 4 * i + 1) 0, rs.getD (4 + 4 * i + 2) 0, rs.getD (4 + 4 * i + 3) 0] := by
      rw [show (4 + 4 * (i : Int)) = ((4 + 4 * i : Nat) : Int) by omega, show (8 + 4 * (i : Int)) = ((8 + 4 * i : Nat) : Int) by omega, cutD_mid _ _ _ (by omega) (by simp; omega), show 8 + 4 * i - (4 + 4 * i) = 4 by omega]
      exact drop_four (by omega)
    subst hB
    simp [c4, ecut]
    have h5 : rs.getD (4 + 4 * i + 1) 0 < 5 := by
      have := hrs (4 + 4 * i + 1) (by omega)
      rw [hat i 1 (by omega) (by omega)] at this
      simpa using this
    simp at h5
    refine ⟨by omega, _, _, rfl, h5, fun q hq => ?_⟩
    generalize rs[4 + 4 * i + 1]?.getD 0 = y1
    generalize rs[4 + 4 * i + 2]?.getD 0 = y2
    generalize rs[4 + 4 * i + 3]?.getD 0 = y3
    generalize rs[4 + 4 * i]?.getD 0 = y0
    have ea : ∀ y : Nat, (y : Int) % (1 + (r0 : Int)) = ((y % (r0 + 1) : Nat) : Int) := fun y => by rw [Int.add_comm, Int.natCast_emod]; rfl
    have ek : D.tup [D.int ((y0 : Int) % (1 + r0)), ptD q, D.int ((y3 : Int) % (1 + r0))] = mvD ⟨y0 % (r0 + 1), q, y3 % (r0 + 1)⟩ := by rw [ea, ea]; rfl
    have ok := okT_mv (m := ⟨y0 % (r0 + 1), q, y3 % (r0 + 1)⟩) hq.leaf
    have l1 := Nat.mod_lt y0 (Nat.succ_pos r0)
    have l3 := Nat.mod_lt y3 (Nat.succ_pos r0)
    rw [ek]
    simp [ok, kset_len]
    rw [if_pos (by omega)]
    refine ⟨by omega, ?_⟩
    simp
    by_cases hm : mvD ⟨y0 % (r0 + 1), q, y3 % (r0 + 1)⟩ ∈ mv.map mvD
    · rw [pt_in hm]
      exact hN _ _ ⟨mv, _, _, _, _, _, _, rfl, rfl, nd, by omega, hlf, hab⟩
    · rw [pt_out hm]
      refine hN _ _ ⟨mv ++ [⟨y0 % (r0 + 1), q, y3 % (r0 + 1)⟩], _, _, _, _, _, _, rfl, by simp, ?_, by simp; omega, ?_, ?_⟩
      · rw [List.map_append, List.nodup_append]
        exact ⟨nd, by simp, fun a ha b hb => by simp at hb; subst hb; rintro rfl; exact hm ha⟩
      · intro x hx
        simp at hx
        rcases hx with hx | rfl
        · exact hlf x hx
        · exact hq
      · intro x hx
        simp at hx
        rcases hx with hx | rfl
        · exact hab x hx
        · exact ⟨l1, l3⟩
  · rintro τ S3 ⟨mv, x6, x7, x8, x9, x10, x11, rfl, rfl, nd, hl, hlf, hab⟩
    subst hR
    simp [a1]
    rw [rng_len] at hl
    have okm : ∀ x ∈ mv, OkMv x := fun x hx => ⟨(hlf x hx).leaf, okP_imp (fun _ => Nm.okS) (hlf x hx).ok⟩
    have hty : ∀ d ∈ mv.map mvD, hasTy mvTy d = true := fun d hd => by
      obtain ⟨x, hx, rfl⟩ := List.mem_map.mp hd
      exact mv_ty (okm x hx)
    have ek : List.map (fun x => x.fst) (kset (List.map mvD mv)) = mv.map mvD := by simp [kset]
    rw [ek]
    refine ⟨by omega, ⟨mvTy, rfl, hty⟩, ?_⟩
    obtain ⟨mv2, pm, e2⟩ := perm_map_ex (srt_perm (mv.map mvD)) rfl
    have st := srt_strict hty nd
    rw [e2] at st ⊢
    have := h ⟨r0 + 1, r1 % (r0 + 1), es, mv2⟩ ⟨Nat.mod_lt _ (Nat.succ_pos _), hs, fun e h => he e h, st, fun x hx => by
      have hx := pm.mem_iff.mp hx
      exact ⟨(hab x hx).1, (hab x hx).2, (hlf x hx).leaf, (hlf x hx).ok⟩⟩ (show r0 + 1 ≤ m by omega) (by show mv2.length ≤ _; rw [pm.length_eq]; omega) fun x hx => hlf x (pm.mem_iff.mp hx)
    have e3 : D.tup [D.int (1 + (r0 : Int)), D.int ((r1 : Int) % (1 + r0)), D.tup (natsD es), D.tup (mv2.map mvD)] = machD ⟨r0 + 1, r1 % (r0 + 1), es, mv2⟩ := by
      have e4 : (1 + (r0 : Int)) = ((r0 + 1 : Nat) : Int) := by omega
      rw [e4]
      rfl
    rw [e3]
    exact .keep (sub.trans (Sub.new hp)) this
end ShB
set_option maxRecDepth 100000
set_option maxHeartbeats 4000000
namespace ShB
open PySem PySem.Spec L2 Dt Sh
@[simp] theorem dInQ_nat {neg : Bool} {m : Nat} {st : List Nat} {S : DH} {Q : DK} : dInQ neg (.int m) (natsD st) S Q = Q (.bl (if neg then !decide (m ∈ st) else decide (m ∈ st))) S := by
  rw [dInQ_fl rfl (by simp [flD]), inF_nat]
end ShB
set_option maxRecDepth 100000
set_option maxHeartbeats 4000000
namespace ShB
open PySem PySem.Spec L2 Dt Sh
theorem inF_strs {w : Str} {ms : List Str} : inF (.str w) (strsD ms) = decide (w ∈ ms) := by
  induction ms with
  | nil => simp [inF]
  | cons a ms ih =>
    simp only [strsD, List.map_cons, inF, List.any_cons] at ih ⊢
    rw [ih]
    simp [eqF]
    rw [str_beq]
    by_cases e : a = w
    · simp [e]
    · simp [e, Ne.symm e]
@[simp] theorem dInQ_strs {neg : Bool} {w : Str} {ms : List Str} {S : DH} {Q : DK} : dInQ neg (.str w) (strsD ms) S Q = Q (.bl (if neg then !decide (w ∈ ms) else decide (w ∈ ms))) S := by
  rw [dInQ_fl rfl (by simp [flD]), inF_strs]
theorem dSeqWhile_gen {c : DTT} {tb r : DTS} {A : DEnds} {τ : DSt} {S : DH} (h : ∀ B R, B = tb → R = r → dSeq (dWhile c B) R A τ S) : dSeq (dWhile c tb) r A τ S := h tb r rfl rfl
end ShB
set_option maxRecDepth 100000
set_option maxHeartbeats 4000000
namespace Sh
open PySem PySem.Spec L2 Dt Sh
theorem perm_map_ex {α β : Type} {f : α → β} {x y : List β} (h : x.Perm y) : ∀ {l : List α}, y = l.map f → ∃ l2 : List α, l2.Perm l ∧ x = l2.map f := by
  induction h with
  | nil => intro l e; cases l with | nil => exact ⟨[], .refl _, rfl⟩ | cons a l => cases e
  | cons a h ih =>
    intro l e
    cases l with
    | nil => cases e
    | cons b l =>
      simp at e
      obtain ⟨l2, p, e2⟩ := ih e.2
      exact ⟨b :: l2, p.cons _, by simp [e.1, e2]⟩
  | swap a b l' =>
    intro l e
    match l, e with
    | c :: d :: l, e => simp at e; exact ⟨d :: c :: l, .swap _ _ _, by simp [e]⟩
  | trans h1 h2 ih1 ih2 =>
    intro l e
    obtain ⟨l2, p, e2⟩ := ih2 e
    obtain ⟨l3, p3, e3⟩ := ih1 e2
    exact ⟨l3, p3.trans p, e3⟩
theorem srt_strict {t : Ty} {ds : List D} (ht : ∀ d ∈ ds, hasTy t d = true) (nd : ds.Nodup) : (srtD ds).Pairwise fun x y => ltD x y = true := by
  have h1 := srt_sorted ds
  have h2 : (srtD ds).Nodup := (srt_perm ds).nodup_iff.mpr nd
  have h3 : ∀ d ∈ srtD ds, hasTy t d = true := fun d hd => ht d (srt_mem.mp hd)
  revert h1 h2 h3
  generalize srtD ds = l
  intro h1 h2 h3
  induction l with
  | nil => exact .nil
  | cons a l ih =>
    rw [List.pairwise_cons] at h1 ⊢
    rw [List.nodup_cons] at h2
    refine ⟨fun b hb => ?_, ih h1.2 h2.2 fun d hd => h3 d (List.mem_cons_of_mem _ hd)⟩
    by_cases e : ltD a b = true
    · exact e
    · exact absurd (ltD_tri (h3 a (List.mem_cons_self ..)) (h3 b (List.mem_cons_of_mem _ hb)) (by simpa using e) (h1.1 b hb)) fun e' => h2.1 (e' ▸ hb)
end Sh
set_option maxRecDepth 100000
set_option maxHeartbeats 4000000
/-! DatDp: dict(list of pairs), keys tuples. -/
namespace Dt
open PySem PySem.Spec L2 PySem.W
def ptAll (acc kvs : List (D × D)) : List (D × D) := kvs.foldl (fun a p => pt a p.1 p.2) acc
theorem RX.all {K : PySem.W.Frag} {H : Hp} : ∀ {kvs acc : List (D × D)} {ps xs : List (NestedKey × Addr × Value)}, RX K H acc xs → RX K H kvs ps → RX K H (ptAll acc kvs) (storedAllH xs ps)
  | [], _, _, _, h, hp => by cases hp; exact h
  | (k, d) :: kvs, acc, _, xs, h, ⟨nk, b, u, s, e, ⟨e1, e2, r1, v, r2, r3⟩, hp⟩ => by
    subst e
    show RX K H (ptAll (Dt.pt acc k d) kvs) (storedAllH (storedH xs nk b u) s)
    exact RX.all (h.pt e1 e2 r1 r2 r3) hp
@[simp] def cDictP : RCD := fun ds S Q => match ds with
  | [d] => opt (seqD S d) fun xs => ∃ kvs : List (D × D), xs = kvs.map (fun p => .tup [p.1, p.2]) ∧ (∀ p ∈ kvs, okT p.1 = true) ∧ newO S (.dN (ptAll [] kvs)) fun p S' => Q (.ref p) S'
  | _ => False
section
variable {X : Cx} {pins : List (Addr × Obj)} {σ : L2.St} {H : Hp} {s : Shared}
end
section
variable {X : Cx}
end
end Dt
set_option maxRecDepth 100000
set_option maxHeartbeats 4000000
/-! DatTs: sets of nested tuples (fewer than 64 unlike ones), over the library's facts on tables of slots. -/
namespace Dt
open PySem PySem.Spec L2 PyProof.Rows
/-! ### what a search asks of keys -/
section
variable {P : Program} {w : World} {A : Around} {E : Value → Shared → Prop} {s : Shared}
theorem all_key {h : Heap} : ∀ {ks : List NestedKey} {vs : List Value} {n : Nat}, NestedAll h ks vs → NestedKey.depthAll ks ≤ n → ∀ v ∈ vs, ∃ k, NestedIs h k v ∧ k.depth ≤ n
  | [], _, n, x, _, v, hv => by cases x; cases hv
  | k :: ks, _, n, x, hn, v, hv => by
    cases x with
    | cons x1 x2 =>
      simp only [NestedKey.depthAll] at hn
      rcases List.mem_cons.mp hv with e | hv
      · rw [e]; exact ⟨k, x1, by omega⟩
      · exact all_key x2 (by omega) v hv
theorem cls_key : ∀ (n : Nat) (k : NestedKey) (v : Value) {Q : Bool → Shared → Prop}, NestedIs s.heap k v → k.depth ≤ n → Q false s → wpAny (model P w) A (ofAClassStatement n v) Q E s := by
  intro n
  induction n with
  | zero =>
    intro k v Q x hn h
    cases x with
    | tup hg hc hd hk => simp only [NestedKey.depth] at hn; omega
    | _ => exact wpAny_pure h
  | succ n ih =>
    intro k v Q x hn h
    cases x with
    | @tup b o items nn ks hg hc hd hk =>
      simp only [NestedKey.depth] at hn
      have hT : s.TypeIs (.ref b) "tuple" := ⟨_, hg, hc⟩
      unfold ofAClassStatement
      refine wpAny_bind (wpAny_typeOf hT ?_)
      dsimp only
      have e : (("tuple" : String) == "tuple") = true := by decide
      simp only [e, if_true, Bool.not_true, Bool.false_eq_true, if_false]
      try refine wpAny_bind (wpAny_pure ?_)
      try simp only [Bool.not_true, Bool.false_eq_true, if_false]
      show wpAny _ _ (seqItems? (.ref b) >>= _) _ _ s
      refine wpAny_bind (wpAny_seqItems hg hd ?_)
      dsimp only
      refine wpAny_bind ?_
      show wpAny _ _ (forIn items _ _) _ _ s
      rw [← Array.forIn_toList]
      refine wpAny_forIn_list _ (fun rest r s' => r.1 = none ∧ s' = s ∧ ∀ v ∈ rest, ∃ k, NestedIs s.heap k v ∧ k.depth ≤ n) _ ?_ ?_ _ _ ⟨rfl, rfl, all_key hk (by omega)⟩
      · rintro v rest r s' ⟨hr, rfl, hall⟩
        obtain ⟨k', x', d'⟩ := hall v List.mem_cons_self
        refine wpAny_bind (ih k' v x' d' ?_)
        simp only [Bool.false_eq_true, if_false]
        exact wpAny_pure ⟨rfl, rfl, fun u hu' => hall u (List.mem_cons_of_mem _ hu')⟩
      · rintro ⟨r1, r2⟩ s' ⟨hr, rfl, _⟩
        simp only at hr
        subst hr
        exact wpAny_pure h
    | _ => exact wpAny_pure h
theorem hv_key : ∀ (n : Nat) (k : NestedKey) (v : Value) {Q : Bool → Shared → Prop}, NestedIs s.heap k v → k.depth ≤ n → (∀ b, Q b s) → wpAny (model P w) A (hashByValue n v) Q E s := by
  intro n
  induction n with
  | zero =>
    intro k v Q x hn h
    cases x with
    | tup hg hc hd hk => simp only [NestedKey.depth] at hn; omega
    | _ => exact wpAny_pure (h _)
  | succ n ih =>
    intro k v Q x hn h
    cases x with
    | @tup b o items nn ks hg hc hd hk =>
      simp only [NestedKey.depth] at hn
      have hT : s.TypeIs (.ref b) "tuple" := ⟨_, hg, hc⟩
      unfold hashByValue
      refine wpAny_bind (wpAny_specialOf hT F.slot_tuple_hash.lookup ?_)
      show wpAny _ _ (seqItems? (.ref b) >>= _) _ _ s
      refine wpAny_bind (wpAny_seqItems hg hd ?_)
      refine wpAny_bind ?_
      show wpAny _ _ (forIn items _ _) _ _ s
      rw [← Array.forIn_toList]
      refine wpAny_forIn_list _ (fun rest r s' => s' = s ∧ ∀ v ∈ rest, ∃ k, NestedIs s.heap k v ∧ k.depth ≤ n) _ ?_ ?_ _ _ ⟨rfl, all_key hk (by omega)⟩
      · rintro v rest r s' ⟨rfl, hall⟩
        obtain ⟨k', x', d'⟩ := hall v List.mem_cons_self
        refine wpAny_bind (ih k' v x' d' fun b => ?_)
        cases b with
        | true =>
          simp only [Bool.not_true, Bool.false_eq_true, if_false]
          exact wpAny_pure ⟨rfl, fun u hu' => hall u (List.mem_cons_of_mem _ hu')⟩
        | false =>
          simp only [Bool.not_false, if_true]
          exact wpAny_pure (wpAny_pure (h _))
      · rintro ⟨r1, r2⟩ s' ⟨rfl, _⟩
        cases r1 with
        | none => exact wpAny_pure (h _)
        | some z => exact wpAny_pure (h _)
    | _ => exact wpAny_pure (h _)
abbrev NIs (P : Program) (w : World) (h : Heap) (k : NestedKey) (a : Addr) : Prop := (nestedKind P w).is h k a
abbrev nhash (w : World) (k : NestedKey) : Int := k.hash w
theorem NIs.at {h h' : Heap} {k : NestedKey} {a : Addr} (x : NIs P w h k a) (hk : ∀ b o vs n, h.get? b = some o → o.data = .seq vs n → h'.get? b = some o) : NIs P w h' k a := nestedKind_stays.stays hk x
theorem NIs.keep {h h' : Heap} {k : NestedKey} {a : Addr} (x : NIs P w h k a) (hk : ∀ b o, h.get? b = some o → h'.get? b = some o) : NIs P w h' k a := x.at fun b o _ _ e _ => hk b o e
/-- a key isn't the set -/
theorem NIs.set {h h' : Heap} {k : NestedKey} {a b : Addr} {o : Obj} {es : Array (Int × Value)} {ep : Nat} {t : SetTable} (x : NIs P w h k b) (ho : h.get? a = some o) (hd : o.data = .set es ep t) (sb : Heap.SameBut a h h') : NIs P w h' k b :=
  x.at fun c o' vs n e q => by
    refine (sb.2 c ?_).trans e
    rintro rfl
    rw [ho] at e
    cases e
    rw [hd] at q
    cases q
/-- a search among keys shows nothing -/
theorem seen_key {k : NestedKey} {b : Addr} {Q : Bool → Shared → Prop} (hk : NIs P w s.heap k b) {ys : List Value} (hy : ∀ y ∈ ys, ∃ k' c, y = Value.ref c ∧ NIs P w s.heap k' c) (h : Q false s) : wpAny (model P w) A (searchCouldBeSeen (.ref b) ys) Q E s := by
  unfold searchCouldBeSeen
  refine wpAny_bind ?_
  refine wpAny_forIn_list _ (fun rest r s' => r.1 = none ∧ s' = s ∧ ∀ y ∈ rest, ∃ k' c, y = Value.ref c ∧ NIs P w s.heap k' c) _ ?_ ?_ _ _ ⟨rfl, rfl, hy⟩
  · rintro v rest r s' ⟨hr, rfl, hall⟩
    obtain ⟨k', c, rfl, hc⟩ := hall v List.mem_cons_self
    have rest' : ∀ y ∈ rest, ∃ k' c, y = Value.ref c ∧ NIs P w s'.heap k' c := fun u hu' => hall u (List.mem_cons_of_mem _ hu')
    dsimp only
    by_cases hv : (b == c || (carriedByValue (.ref b) && carriedByValue (.ref c))) = true
    · refine wp_if_pos hv ?_
      exact wpAny_pure ⟨rfl, rfl, rest'⟩
    · refine wp_if_neg hv ?_
      refine wpAny_bind ((nestedKind P w).quiet hk ?_)
      simp only [Bool.not_true, Bool.false_eq_true, if_false]
      refine wpAny_bind ((nestedKind P w).quiet hc ?_)
      simp only [Bool.not_true, Bool.false_eq_true, if_false]
      refine wpAny_bind (cls_key 8 k _ hk.1 hk.2 ?_)
      simp only [Bool.false_eq_true, if_false]
      refine wpAny_bind (cls_key 8 k' _ hc.1 hc.2 ?_)
      simp only [Bool.false_eq_true, if_false]
      exact wpAny_pure ⟨rfl, rfl, rest'⟩
  · rintro ⟨r1, r2⟩ s' ⟨hr, rfl, _⟩
    simp only at hr
    subst hr
    exact wpAny_pure h
end
end Dt
namespace Dt
open PySem PySem.Spec L2 PyProof.Rows
section
variable {P : Program} {w : World} {A : Around} {E : Value → Shared → Prop} {s : Shared}
/-! ### the set -/
abbrev nrows (w : World) (L : List (Addr × NestedKey)) : List (Int × Value) := L.map fun p => (nhash w p.2, Value.ref p.1)
/-- the set at a holds the keys of L, at these addresses, in the order of its slots -/
structure SetN (P : Program) (w : World) (h : Heap) (a : Addr) (L : List (Addr × NestedKey)) (es : Array (Int × Value)) (ep : Nat) (t : SetTable) : Prop where
  ob : ∃ o, h.get? a = some o ∧ o.ExactSet ∧ o.data = .set es ep t
  rows : es.toList = nrows w L
  tab : TabOk t (L.map fun p => nhash w p.2)
  nd : (L.map (·.2)).Nodup
  key : ∀ p ∈ L, NIs P w h p.2 p.1
  led : w.params.followText "set-order" = true ∨ t.led = true
  room : L.length * 5 < t.mask * 3
  few : L.length < 64
variable {a : Addr} {L : List (Addr × NestedKey)} {es : Array (Int × Value)} {ep : Nat} {t : SetTable}
theorem nrows_len {es : Array (Int × Value)} {L : List (Addr × NestedKey)} (h : es.toList = nrows w L) : es.size = L.length := by
  have h := congrArg List.length h
  rwa [Array.length_toList, List.length_map] at h
theorem fits_of (dm : t.dummies = #[]) (sz : t.place.size = es.size) (le : es.size ≤ t.mask) : t.fits es.size = true := by
  unfold SetTable.fits SetTable.fill
  rw [dm, Bool.and_eq_true, beq_iff_eq, decide_eq_true_eq]
  show t.place.size = es.size ∧ t.place.size + 0 ≤ t.mask
  omega
theorem SetN.sz (R : SetN P w s.heap a L es ep t) : t.place.size = es.size ∧ es.size = L.length := by
  have h1 := R.tab.sz
  rw [List.length_map] at h1
  have h2 := nrows_len R.rows
  exact ⟨h1.trans h2.symm, h2⟩
theorem SetN.fits (R : SetN P w s.heap a L es ep t) : t.fits es.size = true := fits_of R.tab.dm R.sz.1 (by have := R.room; have := R.sz.2; omega)
theorem SetN.entry (R : SetN P w s.heap a L es ep t) {i : Nat} {p : Addr × NestedKey} (h : L[i]? = some p) : es[i]? = some (nhash w p.2, Value.ref p.1) := by
  rw [← Array.getElem?_toList, R.rows, List.getElem?_map, h]
  rfl
theorem SetN.gw (R : SetN P w s.heap a L es ep t) : ¬ t.gaveWay = true := by
  unfold SetTable.gaveWay
  rw [mask_odd R.tab.mok]
  decide
theorem nth_dummy (m : Nat) : ∀ (n : Nat) (p : SetTable.Probe), p.dummy = none → (nth m p n).dummy = none
  | 0, _, h => h
  | n + 1, p, h => nth_dummy m n (adv m p) (by unfold adv; split <;> exact h)
/-- the probe at the c-th step of the way of a hash -/
abbrev prb (t : SetTable) (x : Int) (c : Nat) : SetTable.Probe := nth t.mask (runAt t.mask (SetTable.bits x % (t.mask + 1)) (SetTable.bits x)) c
theorem prb_add (t : SetTable) (x : Int) (c q : Nat) : nth t.mask (prb t x c) q = prb t x (c + q) := (nth_add t.mask c _ q).symm
/-- what a probe meets from the c-th step on, an empty slot standing at the K-th -/
theorem SetN.meets (R : SetN P w s.heap a L es ep t) {x : Int} {K c : Nat} (hKf : K < 10 * SetTable.turns t.mask) (hK : way t.mask x K ∉ t.place.toList) (hKb : ∀ c, c < K → way t.mask x c ∈ t.place.toList) (hc : c ≤ K) :
    (∃ q i p, q < K - c ∧ t.slot (way t.mask x (c + q)) = .live i ∧ t.place.toList[i]? = some (way t.mask x (c + q)) ∧ L[i]? = some p ∧ nhash w p.2 = x ∧ (∀ (c' i' : Nat) (p' : Addr × NestedKey), c ≤ c' → c' < c + q → L[i']? = some p' → t.place.toList[i']? = some (way t.mask x c') → nhash w p'.2 ≠ x) ∧
      t.probe (fun i => (es[i]?.map (·.1)).getD 0) x (prb t x c) = some (.candidate (way t.mask x (c + q)) i (prb t x (c + (q + 1))))) ∨
    ((∀ (c' i' : Nat) (p' : Addr × NestedKey), c ≤ c' → c' < K → L[i']? = some p' → t.place.toList[i']? = some (way t.mask x c') → nhash w p'.2 ≠ x) ∧ t.probe (fun i => (es[i]?.map (·.1)).getD 0) x (prb t x c) = some (.empty (way t.mask x K) none)) := by
  have eW : ∀ q, (nth t.mask (prb t x c) q).j = way t.mask x (c + q) := fun q => congrArg SetTable.Probe.j (prb_add t x c q)
  have hashAt : ∀ (i : Nat) p, L[i]? = some p → (es[i]?.map (·.1)).getD 0 = nhash w p.2 := fun i p hp => by
    rw [R.entry hp]
    rfl
  rcases go_spec t R.tab.ris R.tab.dm (fun i => (es[i]?.map (·.1)).getD 0) x (10 * SetTable.turns t.mask) (K - c) (prb t x c) (nth_dummy _ _ _ rfl) (by omega) (fun q hq => by rw [eW]; exact hKb _ (by omega)) (by rw [eW, show c + (K - c) = K by omega]; exact hK) with ⟨q, i, hq, hi, hh, hno, hpr⟩ | ⟨hno, hpr⟩
  · rw [eW] at hi hpr
    rw [prb_add] at hpr
    have hil : i < L.length := by
      have h1 : i < t.place.toList.length := (List.getElem?_eq_some_iff.mp hi).1
      rw [Array.length_toList] at h1
      have := R.sz
      omega
    have hp : L[i]? = some L[i] := List.getElem?_eq_getElem hil
    refine .inl ⟨q, i, L[i], hq, slot_live R.tab.ris hi, hi, hp, by rw [← hashAt i _ hp]; exact hh, fun c' i' p' a1 a2 a3 a4 => ?_, hpr⟩
    have := hno (c' - c) i' (by omega) (by rw [eW, show c + (c' - c) = c' by omega]; exact a4)
    rwa [hashAt i' p' a3] at this
  · rw [eW, show c + (K - c) = K by omega] at hpr
    refine .inr ⟨fun c' i' p' a1 a2 a3 a4 => ?_, hpr⟩
    have := hno (c' - c) i' (by omega) (by rw [eW, show c + (c' - c) = c' by omega]; exact a4)
    rwa [hashAt i' p' a3] at this
theorem SetN.look (R : SetN P w s.heap a L es ep t) {x : Addr} {k : NestedKey} (hx : NIs P w s.heap k x) (hu : A.units + 8 < cLine) {K : Nat} (hKf : K < 10 * SetTable.turns t.mask)
    (hK : way t.mask (nhash w k) K ∉ t.place.toList) (hKb : ∀ c, c < K → way t.mask (nhash w k) c ∈ t.place.toList) {Q : SetFound → Shared → Prop}
    (hin : k ∈ L.map (·.2) → Q (.there none) s) (hout : k ∉ L.map (·.2) → Q (.free (way t.mask (nhash w k) K) false) s) :
    ∀ (f c : Nat) (stand : Option SetTable.Probe), stand.getD (t.probeStart (nhash w k)) = prb t (nhash w k) c → c ≤ K → K - c < f →
      (∀ (i : Nat) p, L[i]? = some p → p.2 = k → ∃ c', c ≤ c' ∧ c' < K ∧ t.place.toList[i]? = some (way t.mask (nhash w k) c')) →
      wpAny (model P w) A (setSearchFrom a (.ref x) (nhash w k) true f stand) Q E s
  | 0, c, stand, _, _, hf, _ => absurd hf (Nat.not_lt_zero _)
  | f + 1, c, stand, hst, hc, hf, hre => by
    obtain ⟨o, ho, hex, hd⟩ := R.ob
    rw [L2.setSearchFrom_succ]
    refine wpAny_bind (wpAny_setState_of ho hd R.fits ?_)
    dsimp only
    refine wp_if_neg R.gw ?_
    try refine wpAny_bind (wpAny_pure ?_)
    rw [hst]
    rcases R.meets hKf hK hKb hc with ⟨q, i, p, hq, hsl, hi, hp, hh, hno, hpr⟩ | ⟨hno, hpr⟩
    · rw [hpr]
      dsimp only
      have hmem : p ∈ L := List.mem_of_getElem? hp
      have rest : wpAny (model P w) A (L2.searchRest a (.ref x) (nhash w k) true f es t (way t.mask (nhash w k) (c + q)) i (prb t (nhash w k) (c + (q + 1)))) Q E s := by
        unfold L2.searchRest
        rw [R.entry hp]
        dsimp only
        refine wpAny_bind (wpAny_holding ((nestedKind P w).eqBool hu (R.key p hmem) hx ?_))
        refine wpAny_bind (wpAny_setState_of ho hd R.fits ?_)
        dsimp only
        by_cases hkk : p.2 = k
        · refine wp_if_pos (by simp [hkk]) ?_
          exact wpAny_pure (hin (List.mem_map.mpr ⟨p, hmem, hkk⟩))
        · refine wp_if_neg (by simp [hkk]) ?_
          try refine wpAny_bind (wpAny_pure ?_)
          rw [L2.sameMem]
          dsimp only
          simp only [if_true, hsl, R.entry hp]
          refine wpAny_bind (wpAny_isSame_ref_self (wpAny_bind (wpAny_pure ?_)))
          simp only [if_true]
          refine wp_if_neg (by simp [hkk]) ?_
          refine SetN.look R hx hu hKf hK hKb hin hout f (c + (q + 1)) _ rfl (by omega) (by omega) fun i0 p0 h0 hk0 => ?_
          obtain ⟨c', a1, a2, a3⟩ := hre i0 p0 h0 hk0
          refine ⟨c', ?_, a2, a3⟩
          rcases Nat.lt_trichotomy c' (c + q) with z | z | z
          · exact absurd (congrArg (nhash w) hk0) (hno c' i0 p0 a1 z h0 a3)
          · subst z
            have s0 := slot_live R.tab.ris a3
            rw [hsl] at s0
            injection s0 with s0
            rw [← s0, hp] at h0
            exact absurd ((congrArg Prod.snd (Option.some.inj h0)).trans hk0) hkk
          · omega
      by_cases hl : t.led = true
      · refine wp_if_neg (by simp [hl]) ?_
        try refine wpAny_bind (wpAny_pure ?_)
        exact rest
      · refine wp_if_pos (by simp [hl]) ?_
        refine wpAny_bind (seen_key hx (fun y hy => ?_) ?_)
        · obtain ⟨e, he, ee⟩ := List.mem_map.mp hy
          have he1 : e ∈ es ∧ e.1 = nhash w k := by simpa using he
          have he2 : e ∈ es.toList := by simpa using he1.1
          rw [R.rows] at he2
          obtain ⟨p2, hp2, e2⟩ := List.mem_map.mp he2
          exact ⟨p2.2, p2.1, by rw [← ee, ← e2], R.key p2 hp2⟩
        · refine wp_if_neg (by decide) ?_
          try refine wpAny_bind (wpAny_pure ?_)
          exact rest
    · rw [hpr]
      dsimp only
      refine wpAny_pure (hout fun hm => ?_)
      obtain ⟨p0, h0, hk0⟩ := List.mem_map.mp hm
      obtain ⟨i0, h00⟩ := List.getElem?_of_mem h0
      obtain ⟨c', a1, a2, a3⟩ := hre i0 p0 h00 hk0
      exact hno c' i0 p0 a1 a2 h00 a3 (congrArg (nhash w) hk0)
theorem SetN.search (R : SetN P w s.heap a L es ep t) {x : Addr} {k : NestedKey} (hx : NIs P w s.heap k x) (hu : A.units + 8 < cLine) {Q : SetFound → Shared → Prop} (hin : k ∈ L.map (·.2) → Q (.there none) s)
    (hout : ∀ K, k ∉ L.map (·.2) → way t.mask (nhash w k) K ∉ t.place.toList → (∀ c, c < K → way t.mask (nhash w k) c ∈ t.place.toList) → Q (.free (way t.mask (nhash w k) K) false) s) :
    wpAny (model P w) A (setSearch a (.ref x) (nhash w k) true) Q E s := by
  obtain ⟨K, hKf, hK, hKb⟩ := R.tab.first (by rw [List.length_map]; have := R.room; omega) (nhash w k)
  have hbig : K < 100000 := by
    have : 10 * SetTable.turns t.mask ≤ 1420 := by
      unfold SetTable.turns
      rcases R.tab.mok with e | e | e <;> omega
    omega
  unfold setSearch
  refine R.look hx hu hKf hK hKb hin (fun hn => hout K hn hK hKb) 100000 0 none rfl (Nat.zero_le _) (by omega) fun i p hp hk => ?_
  have hi : (L.map fun p => nhash w p.2)[i]? = some (nhash w k) := by rw [List.getElem?_map, hp, ← hk]; rfl
  have hil : i < t.place.toList.length := by
    have h1 : i < L.length := (List.getElem?_eq_some_iff.mp hp).1
    have h2 := R.sz
    rw [Array.length_toList]
    omega
  have hj := List.getElem?_eq_getElem hil
  obtain ⟨c, hc, e⟩ := R.tab.before hK hi hj
  exact ⟨c, Nat.zero_le _, hc, by rw [hj, e]⟩
end
end Dt
namespace Dt
open PySem PySem.Spec L2 PyProof.Rows
section
variable {P : Program} {w : World} {A : Around} {E : Value → Shared → Prop} {s : Shared}
/-! ### adding -/
theorem nrows_put (L : List (Addr × NestedKey)) (p : Nat) (x : Addr) (k : NestedKey) : nrows w (L.take p ++ (x, k) :: L.drop p) = (nrows w L).take p ++ (nhash w k, Value.ref x) :: (nrows w L).drop p := by
  unfold nrows
  rw [List.map_append, List.map_cons, List.map_take, List.map_drop]
theorem getD_of {α : Type} {xs : Array α} {i : Nat} {x d : α} (h : xs[i]? = some x) : xs.getD i d = x := by
  simp [Array.getD_eq_getD_getElem?, h]
/-- rows told in another order -/
theorem nrows_order (L : List (Addr × NestedKey)) (es : Array (Int × Value)) (order : Array Nat) (hr : es.toList = nrows w L) (hp : order.toList.Perm (List.range L.length)) :
    ∃ L2, (order.filterMap (es[·]?)).toList = nrows w L2 ∧ L2.Perm L ∧ (L2.map fun p => nhash w p.2) = order.toList.map fun i => (es.map (·.1)).getD i 0 := by
  have hsz := nrows_len hr
  have ent : ∀ i (h : i < L.length), es[i]? = some (nhash w (L[i]).2, Value.ref (L[i]).1) := fun i h => by
    rw [← Array.getElem?_toList, hr, List.getElem?_map, List.getElem?_eq_getElem h]
    rfl
  have key : ∀ l : List Nat, (∀ i ∈ l, i < L.length) → l.filterMap (fun i => es[i]?) = nrows w (l.filterMap fun i => L[i]?) ∧ ((l.filterMap fun i => L[i]?).map fun p => nhash w p.2) = l.map fun i => (es.map (·.1)).getD i 0 := by
    intro l
    induction l with
    | nil => intro _; exact ⟨rfl, rfl⟩
    | cons i l ih =>
      intro hl
      have hi := hl i List.mem_cons_self
      obtain ⟨e1, e3⟩ := ih fun j hj => hl j (List.mem_cons_of_mem _ hj)
      rw [List.filterMap_cons_some (ent i hi), List.filterMap_cons_some (List.getElem?_eq_getElem hi), e1]
      refine ⟨rfl, ?_⟩
      rw [List.map_cons, List.map_cons, e3, getD_of (x := nhash w (L[i]).2) (by rw [Array.getElem?_map, ent i hi]; rfl)]
  obtain ⟨e1, e3⟩ := key order.toList fun i hi => List.mem_range.mp (hp.mem_iff.mp hi)
  refine ⟨_, by rw [Array.toList_filterMap]; exact e1, ?_, e3⟩
  have h1 : (order.toList.filterMap fun i => L[i]?).Perm ((List.range L.length).filterMap fun i => L[i]?) := hp.filterMap _
  have h2 : ∀ n, n ≤ L.length → (List.range n).filterMap (fun i => L[i]?) = L.take n := by
    intro n
    induction n with
    | zero => intro _; rfl
    | succ n ih =>
      intro hn
      rw [List.range_succ, List.filterMap_append, ih (Nat.le_of_lt hn), List.take_succ, List.getElem?_eq_getElem hn, List.filterMap_cons_some (List.getElem?_eq_getElem hn)]
      rfl
  rwa [h2 L.length (Nat.le_refl _), List.take_length] at h1
variable {a : Addr} {L : List (Addr × NestedKey)} {es : Array (Int × Value)} {ep : Nat} {t : SetTable}
/-- the table laid anew, larger -/
theorem relay_n {o : Obj} (ho : s.heap.get? a = some o) (hex : o.ExactSet) (hd : o.data = .set es ep t) (hrows : es.toList = nrows w L) (hsz : t.place.size = es.size) (hdm : t.dummies = #[]) (hfl : es.size ≤ t.mask)
    (nd : (L.map (·.2)).Nodup) (key : ∀ p ∈ L, NIs P w s.heap p.2 p.1) (ld : w.params.followText "set-order" = true ∨ t.led = true) (few : L.length < 64) {wanted M : Nat}
    (hw : SetTable.sizeAbove wanted - 1 = M) (hM : MaskOk M) (hw2 : SetTable.sizeAbove wanted ≤ 128) (hn : L.length * 5 < M * 3) {Q : Unit → Shared → Prop}
    (hQ : ∀ h' L' es' ep' t', Heap.SameBut a s.heap h' → SetN P w h' a L' es' ep' t' → L'.Perm L → Q () { s with heap := h' }) : wpAny (model P w) A (setRelay a wanted) Q E s := by
  have hsl := nrows_len hrows
  obtain ⟨t', order, e, hp, T, em, el, ep', ed⟩ := relaid_ok t (hs := es.map (·.1)) (wanted := wanted) hw hM (by rw [Array.size_map, hsl]; omega)
  rw [Array.size_map, hsl] at hp
  obtain ⟨L9, r1, r2, r3⟩ := nrows_order L es order hrows hp
  rw [← r3] at T
  have hs2 : (order.filterMap (es[·]?)).size = es.size := by rw [nrows_len r1, r2.length_eq, hsl]
  rw [L2.setRelay_eq]
  refine wpAny_bind (wpAny_setState_of ho hd (fits_of hdm hsz hfl) ?_)
  dsimp only
  refine wp_if_neg (by rw [sizeLine_eq]; omega) ?_
  try refine wpAny_bind (wpAny_pure ?_)
  rw [e]
  dsimp only
  refine wpAny_bind ?_
  refine wp_if_neg (by rw [hs2]; simp) ?_
  try refine wpAny_bind (wpAny_pure ?_)
  refine wpAny_pure ?_
  dsimp only
  refine wpAny_storeSet_of ho hd ?_ (by rw [hs2, hsl, sizeLine_eq]; omega)
  have sb : Heap.SameBut a s.heap (s.heap.update a (Obj.putSet (order.filterMap (es[·]?)) t')) := Heap.SameBut.update ..
  exact hQ _ L9 (order.filterMap (es[·]?)) (ep + 1) t' sb ⟨⟨_, store_at ho hd, ⟨hex.1, hex.2.1, hex.2.2⟩, rfl⟩, r1, T, (r2.map (·.2)).nodup_iff.mpr nd, fun p hpm => (key p (r2.mem_iff.mp hpm)).set ho hd sb, by rw [el]; exact ld, by rw [r2.length_eq, em]; exact hn, by rw [r2.length_eq]; exact few⟩ r2
theorem TabOk.unplain {t : SetTable} {hs : List Int} (T : TabOk t hs) : TabOk { t with plain := false } hs := ⟨T.ris, T.dm, T.sz, T.mok, T.bd, T.reach⟩
theorem SetN.add (R : SetN P w s.heap a L es ep t) {x : Addr} {k : NestedKey} (hx : NIs P w s.heap k x) (hu : A.units + 8 < cLine) (hfew : L.length + 1 < 64) {Q : Bool → Shared → Prop}
    (hQ : ∀ b h' L' es' ep' t', Heap.SameBut a s.heap h' → SetN P w h' a L' es' ep' t' → (k ∈ L.map (·.2) → L' = L) → (k ∉ L.map (·.2) → L'.Perm ((x, k) :: L)) → Q b { s with heap := h' }) :
    wpAny (model P w) A (setAddHashed a (.ref x) (nhash w k)) Q E s := by
  obtain ⟨o, ho, hex, hd⟩ := R.ob
  have hsl := R.sz.2
  have hroom := R.room
  unfold setAddHashed
  refine wpAny_holding ?_
  rw [show (100000 : Nat) = 99999 + 1 from rfl, L2.setAddHashedIn_succ]
  refine wpAny_bind (wpAny_setState_of ho hd R.fits ?_)
  dsimp only
  refine wp_if_neg (by simp [byScan, Value.scannable]) ?_
  try refine wpAny_bind (wpAny_pure ?_)
  refine wpAny_bind (R.search hx hu (fun hm => ?_) fun K hm hK hb => ?_)
  · dsimp only
    exact wpAny_pure (hQ false s.heap L es ep t (Heap.SameBut.refl a s.heap) R (fun _ => rfl) fun z => absurd hm z)
  · dsimp only
    refine wpAny_bind (wpAny_setState_of ho hd R.fits ?_)
    dsimp only
    obtain ⟨q1, q2, q3, q4, q5, q6, q7, q8, q9⟩ := R.tab.put hK hb
    generalize hpt : t.put (way t.mask (nhash w k) K) = pt at q1 q3 q4 q5 q6 q7 q8 q9 ⊢
    obtain ⟨t0, p⟩ := pt
    dsimp only at q1 q3 q4 q5 q6 q7 q8 q9 ⊢
    subst q1
    have hin : (SetTable.insertAt es (SetTable.below t.place (way t.mask (nhash w k) K)) (nhash w k, Value.ref x)).toList = nrows w (L.take (SetTable.below t.place (way t.mask (nhash w k) K)) ++ (x, k) :: L.drop (SetTable.below t.place (way t.mask (nhash w k) K))) := by
      rw [SetTable.toList_insertAt, nrows_put, R.rows]
    generalize SetTable.below t.place (way t.mask (nhash w k) K) = p at q2 q3 hin ⊢
    have pm : (L.take p ++ (x, k) :: L.drop p).Perm ((x, k) :: L) := by
      have h : (L.take p ++ (x, k) :: L.drop p).Perm ((x, k) :: (L.take p ++ L.drop p)) := List.perm_middle
      rwa [List.take_append_drop] at h
    have hlen : (L.take p ++ (x, k) :: L.drop p).length = L.length + 1 := pm.length_eq
    have hhs : (L.take p ++ (x, k) :: L.drop p).map (fun p => nhash w p.2) = (L.map fun p => nhash w p.2).take p ++ nhash w k :: (L.map fun p => nhash w p.2).drop p := by
      rw [List.map_append, List.map_cons, List.map_take, List.map_drop]
    rw [← hhs] at q3
    have nd1 : ((L.take p ++ (x, k) :: L.drop p).map (·.2)).Nodup := (pm.map (·.2)).nodup_iff.mpr (by rw [List.map_cons]; exact List.nodup_cons.mpr ⟨hm, R.nd⟩)
    have hes : (SetTable.insertAt es p (nhash w k, Value.ref x)).size = L.length + 1 := by rw [nrows_len hin, hlen]
    generalize SetTable.insertAt es p (nhash w k, Value.ref x) = es1 at hin hes ⊢
    generalize L.take p ++ (x, k) :: L.drop p = L1 at pm hlen q3 nd1 hin
    have fin : ∀ t1 : SetTable, TabOk t1 (L1.map fun p => nhash w p.2) → t1.mask = t.mask → t1.led = t.led → t1.fill = L.length + 1 →
        wpAny (model P w) A (do storeSet a es1 t1; if (!false && t1.tooFull) = true then do { setRelay a (SetTable.grown (es.size + 1)); pure true } else pure true) Q E s := by
      intro t1 T m1 l1 f1
      refine wpAny_bind (wpAny_storeSet_of ho hd ?_ (by rw [hes, sizeLine_eq]; omega))
      have sb : Heap.SameBut a s.heap (s.heap.update a (Obj.putSet es1 t1)) := Heap.SameBut.update ..
      have ho1 := store_at (es' := es1) (t' := t1) ho hd
      generalize s.heap.update a (Obj.putSet es1 t1) = h1 at sb ho1 ⊢
      have key1 : ∀ p ∈ L1, NIs P w h1 p.2 p.1 := fun p hp => by
        rcases List.mem_cons.mp (pm.mem_iff.mp hp) with e | hp
        · rw [e]; exact hx.set ho hd sb
        · exact (R.key p hp).set ho hd sb
      have ld1 : w.params.followText "set-order" = true ∨ t1.led = true := by rw [l1]; exact R.led
      by_cases hf : t1.tooFull = true
      · refine wp_if_pos (by simp [hf]) (wpAny_bind ?_)
        have hfull : (L.length + 1) * 5 ≥ t.mask * 3 := by
          have h := hf
          unfold SetTable.tooFull at h
          rwa [decide_eq_true_eq, f1, m1] at h
        rw [hsl]
        have hsz1 : t1.place.size = es1.size := by
          have h := T.sz
          rw [List.length_map, hlen] at h
          rw [h, hes]
        have cases2 : (t.mask = 7 ∧ L.length = 4) ∨ (t.mask = 31 ∧ L.length = 18) := by
          rcases R.tab.mok with e | e | e
          · left; rw [e] at hfull hroom; exact ⟨e, by omega⟩
          · right; rw [e] at hfull hroom; exact ⟨e, by omega⟩
          · exfalso; rw [e] at hfull; omega
        have go : ∀ M, SetTable.sizeAbove (SetTable.grown (L.length + 1)) - 1 = M → MaskOk M → SetTable.sizeAbove (SetTable.grown (L.length + 1)) ≤ 128 → (L.length + 1) * 5 < M * 3 →
            wpAny (model P w) A (setRelay a (SetTable.grown (L.length + 1))) (fun _ s' => wpAny (model P w) A (pure true) Q E s') E { s with heap := h1 } := fun M h1' h2' h3' h4' => by
          refine relay_n (s := { s with heap := h1 }) ho1 ⟨hex.1, hex.2.1, hex.2.2⟩ rfl hin hsz1 T.dm (by rw [hes, m1]; rcases cases2 with ⟨e, e2⟩ | ⟨e, e2⟩ <;> omega) nd1 key1 ld1 (by rw [hlen]; exact hfew) h1' h2' h3' (by rw [hlen]; exact h4') ?_
          intro h2 L9 es2 ep2 t2 sb2 R2 pm2
          exact wpAny_pure (hQ true h2 L9 es2 ep2 t2 (sb.trans sb2) R2 (fun z => absurd z hm) fun _ => pm2.trans pm)
        rcases cases2 with ⟨_, e2⟩ | ⟨_, e2⟩
        · exact go 31 (by rw [e2, size_20]) (.inr (.inl rfl)) (by rw [e2, size_20]; decide) (by omega)
        · exact go 127 (by rw [e2, size_76]) (.inr (.inr rfl)) (by rw [e2, size_76]; decide) (by omega)
      · refine wp_if_neg (by simp [hf]) ?_
        refine wpAny_pure (hQ true h1 L1 es1 (ep + 1) t1 sb ⟨⟨_, ho1, ⟨hex.1, hex.2.1, hex.2.2⟩, rfl⟩, hin, T, nd1, key1, ld1, ?_, by rw [hlen]; exact hfew⟩ (fun z => absurd z hm) fun _ => pm)
        have h := hf
        unfold SetTable.tooFull at h
        rw [decide_eq_true_eq, f1] at h
        rw [hlen]
        omega
    rw [List.length_map] at q9
    by_cases hpl : t0.plain = true
    · refine wp_if_pos hpl (wpAny_bind (hv_key 8 k _ hx.1 hx.2 fun b => ?_))
      cases b with
      | true => exact fin t0 q3 q4 q5 q9
      | false => exact fin { t0 with plain := false } (TabOk.unplain q3) q4 q5 q9
    · refine wp_if_neg hpl (wpAny_bind (wpAny_pure ?_))
      exact fin t0 q3 q4 q5 q9
end
end Dt
namespace Dt
open PySem PySem.Spec PySem.W L2 PyProof.Rows
/-! ### set(list) -/
def addN (acc : List (Addr × NestedKey)) (p : Addr × NestedKey) : List (Addr × NestedKey) := if p.2 ∈ acc.map (·.2) then acc else acc ++ [p]
def firstN (l : List (Addr × NestedKey)) : List (Addr × NestedKey) := l.foldl addN []
theorem firstN_take {l : List (Addr × NestedKey)} {i : Nat} {p : Addr × NestedKey} (h : l[i]? = some p) : firstN (l.take (i + 1)) = addN (firstN (l.take i)) p := by
  unfold firstN
  rw [List.take_succ, h, List.foldl_append]
  rfl
theorem foldN_mono : ∀ (l acc : List (Addr × NestedKey)), acc.length ≤ (l.foldl addN acc).length
  | [], _ => Nat.le_refl _
  | p :: l, acc => by
    refine Nat.le_trans ?_ (foldN_mono l (addN acc p))
    unfold addN
    split
    · exact Nat.le_refl _
    · simp
theorem firstN_mono (l : List (Addr × NestedKey)) (i : Nat) : (firstN (l.take i)).length ≤ (firstN l).length := by
  have h := foldN_mono (l.drop i) (firstN (l.take i))
  unfold firstN at h ⊢
  rwa [← List.foldl_append, List.take_append_drop] at h
theorem foldN_mem : ∀ (l acc : List (Addr × NestedKey)), ∀ p ∈ l.foldl addN acc, p ∈ acc ∨ p ∈ l
  | [], _, p, h => .inl h
  | q :: l, acc, p, h => by
    rcases foldN_mem l (addN acc q) p h with z | z
    · unfold addN at z
      split at z
      · exact .inl z
      · rcases List.mem_append.mp z with z | z
        · exact .inl z
        · exact .inr (by rw [List.mem_singleton.mp z]; exact List.mem_cons_self)
    · exact .inr (List.mem_cons_of_mem _ z)
section
variable {P : Program} {w : World} {A : Around} {E : Value → Shared → Prop} {s : Shared}
theorem SetN.keep {h h' : Heap} {a : Addr} {L : List (Addr × NestedKey)} {es : Array (Int × Value)} {ep : Nat} {t : SetTable} (R : SetN P w h a L es ep t) (ha : ∀ o, h.get? a = some o → h'.get? a = some o) (ht : ∀ p ∈ L, NIs P w h' p.2 p.1) : SetN P w h' a L es ep t := by
  obtain ⟨o, ho, r⟩ := R.ob
  exact ⟨⟨o, ha o ho, r⟩, R.rows, R.tab, R.nd, ht, R.led, R.room, R.few⟩
theorem setN_fresh {h : Heap} {a : Addr} (ho : h.get? a = some (newSet w)) : SetN P w h a [] #[] 0 (.fresh 0 0 (!w.params.followText "set-order")) where
  ob := ⟨_, ho, ⟨rfl, rfl, rfl⟩, rfl⟩
  rows := rfl
  tab := ⟨List.Pairwise.nil, rfl, rfl, .inl rfl, fun x hx => (by cases hx), fun i h j hi => (by simp at hi)⟩
  nd := List.nodup_nil
  key := fun p hp => (by cases hp)
  led := by
    show _ ∨ (!w.params.followText "set-order") = true
    cases w.params.followText "set-order"
    · exact .inr rfl
    · exact .inl rfl
  room := by
    show 0 * 5 < 7 * 3
    decide
  few := by
    show 0 < 64
    decide
theorem nset_loop {I : Addr} {fp wr : List Addr} {G : Array GenState → Array GenState → Prop} {n : Nat} {Pv : Nat → Value → Prop} {St : Nat → Shared → Prop} {R : Result → Shared → Prop} {B : Addr} {all : List (Addr × NestedKey)}
    (W : WalksS P w A.in1 I fp wr G n Pv St) (hB : B ∉ fp) (hn : n = all.length) (hv : ∀ i v, Pv i v → ∃ p, all[i]? = some p ∧ v = .ref p.1) (hb : (firstN all).length < 63) (h0 : Heap) (hk : ∀ p ∈ all, NIs P w h0 p.2 p.1) (hB0 : h0.get? B = none) (hw0 : ∀ b ∈ wr, h0.get? b = none) (hu : A.in1.units + 8 < cLine)
    (hR : ∀ s' s0 L es ep t, Moved (B :: wr) G s0 s' → SetN P w s'.heap B L es ep t → L.Perm (firstN all) → s0 = s → R (.ok (.ret .none)) s') :
    ∀ (m i : Nat) (s1 : Shared), n - i = m → i ≤ n → St i s1 → (∀ b o, h0.get? b = some o → s1.heap.get? b = some o) → (∃ L es ep t, SetN P w s1.heap B L es ep t ∧ L.Perm (firstN (all.take i))) → (∀ s', Moved (B :: wr) G s1 s' → Moved (B :: wr) G s s') →
      codeAny (model P w) A (.builtin "set.update.loop" ⟨[.ref B, .ref I], []⟩) R s1 := by
  have hBw : B ∉ wr := fun h => hB (W.sub _ h)
  have more : ∀ b ∈ wr, b ∈ B :: wr := fun b hb => List.mem_cons_of_mem _ hb
  have keepM : ∀ {s s' : Shared}, Moved wr G s s' → (∀ b o, h0.get? b = some o → s.heap.get? b = some o) → ∀ b o, h0.get? b = some o → s'.heap.get? b = some o := fun hm hkp b o e =>
    hm.heap b o (fun hb => by rw [hw0 b hb] at e; cases e) (hkp b o e)
  have sub : ∀ {L : List (Addr × NestedKey)} {i : Nat}, L.Perm (firstN (all.take i)) → ∀ p ∈ L, p ∈ all := fun {L i} pm p hp => by
    rcases foldN_mem _ _ p (pm.mem_iff.mp hp) with z | z
    · cases z
    · exact List.mem_of_mem_take z
  intro m
  induction m with
  | zero =>
    intro i s1 hm hi hst hkp ⟨L, es, ep, t, hS, pm⟩ mv
    have hin : i = n := by omega
    subst hin
    (refine codeAny_builtin F.entry_set_update_loop ?_; rw [Around.under_plainId F.plain_set_update_loop _])
    refine (show wpAny _ A.in1 (pyNext (.ref I) >>= _) _ _ s1 from wpAny_bind (W.done s1 _ _ hst fun s' hm => wpAny_pure (hR s' s L es ep t (mv s' (hm.mono more)) ?_ ?_ rfl)))
    · exact hS.keep (fun o e => hm.heap B o hBw e) fun p hp => (hk p (sub pm p hp)).keep (keepM hm hkp)
    · rwa [show all.take i = all from List.take_of_length_le (by omega)] at pm
  | succ m ih =>
    intro i s1 hm hi hst hkp ⟨L, es, ep, t, hS, pm⟩ mv
    have hlt : i < n := by omega
    (refine codeAny_builtin F.entry_set_update_loop ?_; rw [Around.under_plainId F.plain_set_update_loop _])
    refine (show wpAny _ A.in1 (pyNext (.ref I) >>= _) _ _ s1 from wpAny_bind (W.item i s1 _ _ hlt hst fun v s' hP hst' hm => ?_))
    obtain ⟨p, hp, rfl⟩ := hv i v hP
    have hkp' := keepM hm hkp
    have hS' : SetN P w s'.heap B L es ep t := hS.keep (fun o e => hm.heap B o hBw e) fun q hq => (hk q (sub pm q hq)).keep hkp'
    have hx : NIs P w s'.heap p.2 p.1 := (hk p (List.mem_of_getElem? hp)).keep hkp'
    refine (show wpAny _ A.in1 (holding [Value.ref p.1] (setAdd B (.ref p.1)) >>= _) _ _ s' from wpAny_bind (wpAny_holding ?_))
    unfold setAdd
    refine wpAny_holding (wpAny_bind ((nestedKind P w).pyHash (k := p.2) hu hx ?_))
    have room : L.length + 1 < 64 := by
      have := firstN_mono all i
      rw [pm.length_eq]
      omega
    refine SetN.add (s := { s' with toks := s'.toks + (nestedKind P w).draws p.2 }) hS' hx hu room fun b h' L' es' ep' t' sb hS2 c1 c2 => ?_
    have pm' : L'.Perm (firstN (all.take (i + 1))) := by
      rw [firstN_take hp]
      have hmem : p.2 ∈ L.map (·.2) ↔ p.2 ∈ (firstN (all.take i)).map (·.2) := (pm.map (·.2)).mem_iff
      unfold addN
      by_cases c : p.2 ∈ L.map (·.2)
      · rw [c1 c, if_pos (hmem.mp c)]
        exact pm
      · rw [if_neg (fun z => c (hmem.mpr z))]
        refine (c2 c).trans ((pm.cons _).trans ?_)
        exact (List.perm_append_comm (l₁ := [p]))
    have hkp2 : ∀ b o, h0.get? b = some o → h'.get? b = some o := fun b o e => (sb.2 b (fun z => by rw [z, hB0] at e; cases e)).trans (hkp' b o e)
    refine wpAny_pure ⟨plainId_quiet F.plain_set_update_loop _, ih (i + 1) _ (by omega) hlt (W.frame _ s' _ _ hst' (Nat.le_add_right _ _) fun c hc o e => ?_) hkp2 ⟨L', es', ep', t', hS2, pm'⟩ fun s'' hm'' => mv s'' (Moved.trans W.gtrans ((hm.mono more).then_heap (Nat.le_add_right _ _) fun c o hc e => ?_) hm'')⟩
    · exact (sb.2 c (fun z : c = B => hB (by rw [← z]; exact hc))).trans e
    · exact (sb.2 c (fun z : c = B => hc (by rw [z]; exact List.mem_cons_self))).trans e
set_option maxHeartbeats 8000000 in
theorem call_setN {l : Addr} {items : Array Value} {all : List (Addr × NestedKey)} {Q : Value → Shared → Prop} (hh : A.handled = none) (hu : A.units + 16 < cLine) (hl : s.heap.IsList l items) (hit : items.toList = all.map fun p => Value.ref p.1) (hk : ∀ p ∈ all, NIs P w s.heap p.2 p.1) (hb : (firstN all).length < 63)
    (h : ∀ (h' : Heap) (tk : Nat) L es ep t, SetN P w h' s.heap.objs.size L es ep t → L.Perm (firstN all) → (∀ b o, b < s.heap.objs.size → s.heap.get? b = some o → h'.get? b = some o) → Q (.ref s.heap.objs.size) { s with heap := h', toks := tk }) :
    wpAny (model P w) A (call (.type "set") [.ref l]) Q E s := by
  have hn : items.size = all.length := by rw [← Array.length_toList, hit, List.length_map]
  obtain ⟨c, tl, hmro⟩ := F.called_set.mro
  have hmade := F.called_set.made; have hsub := F.called_set.sub
  refine wpAny_call (codeAny_of_tree (show wpAny _ _ (callAny (.type "set") _) _ _ _ from wpAny_pure ⟨Code.quiet_builtin _ (by decide +kernel), codeAny_builtin F.entry_type_call ?_⟩))
  rw [Around.under_plain (weight_type_call_type "set" [.ref l] []) rfl]
  have h1 := F.called_set.notType; have h2 := F.called_set.canCreate; have hct := F.typeCall_set_1 (.ref l)
  repeat (any_goals (first | assumption | wp_step))
  refine codeAny_mono (code_set_led1 (.ref l) (E := E) (Q₁ := fun obj s₁ => obj = .ref s.heap.objs.size ∧ s₁ = { s with heap := s.heap.push (newSet w) }) ⟨rfl, rfl⟩) fun r s₁ hr => ?_
  match r, hr with
  | .error e, hr => exact hr
  | .ok .next, hr => exact hr.elim
  | .ok .brk, hr => exact hr.elim
  | .ok .cont, hr => exact hr.elim
  | .ok (.ret obj), ⟨e1, e2⟩ =>
    subst e1; subst e2
    have hS : (s.heap.push (newSet w)).get? s.heap.objs.size = some (newSet w) := Heap.get?_push_size _ rfl
    have hT : Shared.TypeIs { s with heap := s.heap.push (newSet w) } (.ref s.heap.objs.size) "set" := ⟨_, hS, rfl⟩
    have hli := F.called_set.init.lookup; have hbi := F.called_set.init.bind (.ref s.heap.objs.size)
    repeat (any_goals (first | assumption | wp_step))
    refine codeAny_mono (codeAny_call_builtin (R := wants (fun r s₂ => r = .none ∧ ∃ h' tk L es ep t, s₂ = { s with heap := h', toks := tk } ∧ SetN P w h' s.heap.objs.size L es ep t ∧ L.Perm (firstN all) ∧ ∀ b o, b < s.heap.objs.size → s.heap.get? b = some o → h'.get? b = some o) E) F.called_set.init.plain F.entry_set_init (check_set_init_1 hT ?_)) fun r₂ s₂ hr₂ => ?_
    · obtain ⟨⟨ocls, odict, odata, oslots⟩, hol, hcl, nl, hdl⟩ := hl
      simp only at hcl hdl
      subst hcl; subst hdl
      have hol' : (s.heap.push (newSet w)).get? l = some { cls := .type "list", dict := odict, data := .seq items nl, slots := oslots } := Heap.get?_push_of_some _ hol
      have hsls := F.sub_list_set; have hslf := F.sub_list_frozenset; have hne : (Value.type "list" == Value.type "dict") = false := by decide
      have hl1 : (s.heap.push (newSet w)).IsList l items := ⟨_, hol', rfl, nl, rfl⟩
      unfold Builtin.«set.__init__» noKeywords Builtin.Frozenset.updateFrom
      (generalize hPI : pyIter = PI; wp_walk; subst hPI)
      refine wpAny_pyIter_list hl1 (wpAny_bind (wpAny_runValue ?_))
      have hlS : l < s.heap.objs.size := Heap.lt_size hol
      have hh3 : A.in1.in1.in1.handled = none := by simp [hh]
      have hz : (s.heap.push (newSet w)).objs.size = s.heap.objs.size + 1 := Heap.size_push ..
      have hneI : l ≠ (s.heap.push (newSet w)).objs.size := fun z => absurd hlS (by rw [z, Heap.size_push]; exact Nat.not_lt_of_le (Nat.le_succ _))
      have hSf : s.heap.objs.size ∉ [(s.heap.push (newSet w)).objs.size, l] := by
        rw [Heap.size_push]
        simp only [List.mem_cons, List.not_mem_nil, or_false, not_or]
        exact ⟨fun z => absurd z (Nat.ne_of_lt (Nat.lt_succ_self _)), fun z => absurd hlS (by rw [← z]; exact Nat.lt_irrefl _)⟩
      have hval : ∀ (i : Nat) (v : Value), items[i]? = some v → ∃ p, all[i]? = some p ∧ v = .ref p.1 := fun i v hv => by
        rw [← Array.getElem?_toList, hit, List.getElem?_map] at hv
        obtain ⟨p, h1, h2⟩ := Option.map_eq_some_iff.mp hv
        exact ⟨p, h1, h2.symm⟩
      have none_of : ∀ b, s.heap.objs.size ≤ b → s.heap.get? b = none := fun b hb => by
        cases q : s.heap.get? b with
        | none => rfl
        | some o => exact absurd (Nat.lt_of_lt_of_le (Heap.lt_size q) hb) (Nat.lt_irrefl _)
      refine nset_loop (B := s.heap.objs.size) (all := all) ((Walks.list hh3 _ l hneI items).toS) hSf hn hval hb s.heap hk (none_of _ (Nat.le_refl _)) (fun b hb => none_of b (by
          rw [List.mem_singleton.mp hb, Heap.size_push]
          exact Nat.le_succ _)) (by simp [Around.in1]; omega) (fun s' s0 L es ep t hm hS' pm e0 => ?_) (items.size - 0) 0 _ (by omega) (Nat.zero_le _) ⟨⟨_, Heap.get?_push_size _ rfl, rfl, rfl⟩, (hl1.push _)⟩ (fun b o e => Heap.get?_push_of_some _ (Heap.get?_push_of_some _ e)) ⟨[], #[], 0, _, setN_fresh (Heap.get?_push_of_some _ hS), List.Perm.refl _⟩ (fun _ z => z)
      subst e0
      obtain ⟨h', g', d', tk', os'⟩ := s'
      have eg : g' = s.gens := hm.gens
      have ed : d' = s.drawn := hm.drawn
      have eo : os' = s.os := hm.os
      subst eg; subst ed; subst eo
      refine (show wpAny _ _ _ _ _ _ from wpAny_pure (show wpAny _ _ (ret Value.none) _ _ _ from wpAny_pure ⟨rfl, h', tk', L, es, ep, t, rfl, hS', pm, fun b o hb e => ?_⟩))
      exact hm.heap b o (by rw [Heap.size_push]; simp only [List.mem_cons, List.not_mem_nil, or_false, not_or]; exact ⟨Nat.ne_of_lt hb, Nat.ne_of_lt (Nat.lt_succ_of_lt hb)⟩) (Heap.get?_push_of_some _ (Heap.get?_push_of_some _ e))
    · match r₂, hr₂ with
      | .error e, hr₂ => exact hr₂
      | .ok .next, hr₂ => exact hr₂.elim
      | .ok .brk, hr₂ => exact hr₂.elim
      | .ok .cont, hr₂ => exact hr₂.elim
      | .ok (.ret r), ⟨e1, h', tk, L, es, ep, t, e2, hS', pm, hk'⟩ =>
        subst e1; subst e2
        repeat (any_goals (first | assumption | wp_step))
        exact h _ _ _ _ _ _ hS' pm hk'
end
end Dt
set_option maxRecDepth 100000
set_option maxHeartbeats 4000000
namespace Dt
open PySem PySem.Spec PySem.W L2 PyProof.Rows
section
variable {P : Program} {w : World} {A : Around} {E : Value → Shared → Prop} {s : Shared}
set_option maxHeartbeats 8000000 in
theorem call_setNT {l : Addr} {items : Array Value} {all : List (Addr × NestedKey)} {Q : Value → Shared → Prop} (hh : A.handled = none) (hu : A.units + 16 < cLine) (hl : s.heap.IsTuple l items) (hit : items.toList = all.map fun p => Value.ref p.1) (hk : ∀ p ∈ all, NIs P w s.heap p.2 p.1) (hb : (firstN all).length < 63)
    (h : ∀ (h' : Heap) (tk : Nat) L es ep t, SetN P w h' s.heap.objs.size L es ep t → L.Perm (firstN all) → (∀ b o, b < s.heap.objs.size → s.heap.get? b = some o → h'.get? b = some o) → Q (.ref s.heap.objs.size) { s with heap := h', toks := tk }) :
    wpAny (model P w) A (call (.type "set") [.ref l]) Q E s := by
  have hn : items.size = all.length := by rw [← Array.length_toList, hit, List.length_map]
  obtain ⟨c, tl, hmro⟩ := F.called_set.mro
  have hmade := F.called_set.made; have hsub := F.called_set.sub
  refine wpAny_call (codeAny_of_tree (show wpAny _ _ (callAny (.type "set") _) _ _ _ from wpAny_pure ⟨Code.quiet_builtin _ (by decide +kernel), codeAny_builtin F.entry_type_call ?_⟩))
  rw [Around.under_plain (weight_type_call_type "set" [.ref l] []) rfl]
  have h1 := F.called_set.notType; have h2 := F.called_set.canCreate; have hct := F.typeCall_set_1 (.ref l)
  repeat (any_goals (first | assumption | wp_step))
  refine codeAny_mono (code_set_led1 (.ref l) (E := E) (Q₁ := fun obj s₁ => obj = .ref s.heap.objs.size ∧ s₁ = { s with heap := s.heap.push (newSet w) }) ⟨rfl, rfl⟩) fun r s₁ hr => ?_
  match r, hr with
  | .error e, hr => exact hr
  | .ok .next, hr => exact hr.elim
  | .ok .brk, hr => exact hr.elim
  | .ok .cont, hr => exact hr.elim
  | .ok (.ret obj), ⟨e1, e2⟩ =>
    subst e1; subst e2
    have hS : (s.heap.push (newSet w)).get? s.heap.objs.size = some (newSet w) := Heap.get?_push_size _ rfl
    have hT : Shared.TypeIs { s with heap := s.heap.push (newSet w) } (.ref s.heap.objs.size) "set" := ⟨_, hS, rfl⟩
    have hli := F.called_set.init.lookup; have hbi := F.called_set.init.bind (.ref s.heap.objs.size)
    repeat (any_goals (first | assumption | wp_step))
    refine codeAny_mono (codeAny_call_builtin (R := wants (fun r s₂ => r = .none ∧ ∃ h' tk L es ep t, s₂ = { s with heap := h', toks := tk } ∧ SetN P w h' s.heap.objs.size L es ep t ∧ L.Perm (firstN all) ∧ ∀ b o, b < s.heap.objs.size → s.heap.get? b = some o → h'.get? b = some o) E) F.called_set.init.plain F.entry_set_init (check_set_init_1 hT ?_)) fun r₂ s₂ hr₂ => ?_
    · obtain ⟨⟨ocls, odict, odata, oslots⟩, hol, hcl, nl, hdl⟩ := hl
      simp only at hcl hdl
      subst hcl; subst hdl
      have hol' : (s.heap.push (newSet w)).get? l = some { cls := .type "tuple", dict := odict, data := .seq items nl, slots := oslots } := Heap.get?_push_of_some _ hol
      have hsls := F.sub_tuple_set; have hslf := F.sub_tuple_frozenset; have hne : (Value.type "tuple" == Value.type "dict") = false := by decide
      have hl1 : (s.heap.push (newSet w)).IsTuple l items := ⟨_, hol', rfl, nl, rfl⟩
      unfold Builtin.«set.__init__» noKeywords Builtin.Frozenset.updateFrom
      (generalize hPI : pyIter = PI; wp_walk; subst hPI)
      refine wpAny_pyIter_tuple hl1 (wpAny_bind (wpAny_runValue ?_))
      have hlS : l < s.heap.objs.size := Heap.lt_size hol
      have hh3 : A.in1.in1.in1.handled = none := by simp [hh]
      have hz : (s.heap.push (newSet w)).objs.size = s.heap.objs.size + 1 := Heap.size_push ..
      have hneI : l ≠ (s.heap.push (newSet w)).objs.size := fun z => absurd hlS (by rw [z, Heap.size_push]; exact Nat.not_lt_of_le (Nat.le_succ _))
      have hSf : s.heap.objs.size ∉ [(s.heap.push (newSet w)).objs.size, l] := by
        rw [Heap.size_push]
        simp only [List.mem_cons, List.not_mem_nil, or_false, not_or]
        exact ⟨fun z => absurd z (Nat.ne_of_lt (Nat.lt_succ_self _)), fun z => absurd hlS (by rw [← z]; exact Nat.lt_irrefl _)⟩
      have hval : ∀ (i : Nat) (v : Value), items[i]? = some v → ∃ p, all[i]? = some p ∧ v = .ref p.1 := fun i v hv => by
        rw [← Array.getElem?_toList, hit, List.getElem?_map] at hv
        obtain ⟨p, h1, h2⟩ := Option.map_eq_some_iff.mp hv
        exact ⟨p, h1, h2.symm⟩
      have none_of : ∀ b, s.heap.objs.size ≤ b → s.heap.get? b = none := fun b hb => by
        cases q : s.heap.get? b with
        | none => rfl
        | some o => exact absurd (Nat.lt_of_lt_of_le (Heap.lt_size q) hb) (Nat.lt_irrefl _)
      refine nset_loop (B := s.heap.objs.size) (all := all) ((Walks.tuple hh3 _ l hneI items).toS) hSf hn hval hb s.heap hk (none_of _ (Nat.le_refl _)) (fun b hb => none_of b (by
          rw [List.mem_singleton.mp hb, Heap.size_push]
          exact Nat.le_succ _)) (by simp [Around.in1]; omega) (fun s' s0 L es ep t hm hS' pm e0 => ?_) (items.size - 0) 0 _ (by omega) (Nat.zero_le _) ⟨⟨_, Heap.get?_push_size _ rfl, rfl, rfl⟩, (hl1.push _)⟩ (fun b o e => Heap.get?_push_of_some _ (Heap.get?_push_of_some _ e)) ⟨[], #[], 0, _, setN_fresh (Heap.get?_push_of_some _ hS), List.Perm.refl _⟩ (fun _ z => z)
      subst e0
      obtain ⟨h', g', d', tk', os'⟩ := s'
      have eg : g' = s.gens := hm.gens
      have ed : d' = s.drawn := hm.drawn
      have eo : os' = s.os := hm.os
      subst eg; subst ed; subst eo
      refine (show wpAny _ _ _ _ _ _ from wpAny_pure (show wpAny _ _ (ret Value.none) _ _ _ from wpAny_pure ⟨rfl, h', tk', L, es, ep, t, rfl, hS', pm, fun b o hb e => ?_⟩))
      exact hm.heap b o (by rw [Heap.size_push]; simp only [List.mem_cons, List.not_mem_nil, or_false, not_or]; exact ⟨Nat.ne_of_lt hb, Nat.ne_of_lt (Nat.lt_succ_of_lt hb)⟩) (Heap.get?_push_of_some _ (Heap.get?_push_of_some _ e))
    · match r₂, hr₂ with
      | .error e, hr₂ => exact hr₂
      | .ok .next, hr₂ => exact hr₂.elim
      | .ok .brk, hr₂ => exact hr₂.elim
      | .ok .cont, hr₂ => exact hr₂.elim
      | .ok (.ret r), ⟨e1, h', tk, L, es, ep, t, e2, hS', pm, hk'⟩ =>
        subst e1; subst e2
        repeat (any_goals (first | assumption | wp_step))
        exact h _ _ _ _ _ _ hS' pm hk'
end
end Dt
set_option maxRecDepth 100000
set_option maxHeartbeats 4000000
namespace Dt
open PySem PySem.Spec L2 PySem.W PyProof.Rows
section
variable {X : Cx} {pins : List (Addr × Obj)} {σ : L2.St} {H : Hp} {s : Shared} {a : Addr} {u : HO}
theorem LeH.thaw {H' : Hp} (le : LeH H H') (e : H a = some u) (mu : Mut (some u)) {v : HO} : LeH H (upd H' a v) :=
  ⟨fun p xs z => by rw [upd_ne (fun q => by rw [q, e] at z; cases z; exact mu)]; exact le.tup p xs z, fun p o w z => by rw [upd_ne (fun q => by rw [q, e] at z; cases z; exact mu)]; exact le.fz p o w z⟩
theorem LeW.thaw {o : Obj} (e : H a = some (.frz o u)) (mu : Mut (some u)) (nl : ∀ xs, u ≠ .lst xs) {v : HO} : LeW H (upd H a v) :=
  ⟨fun p xs z => by rw [upd_ne (fun q => by rw [q, e] at z; cases z)]; exact z, fun p o xs z => by rw [upd_ne (fun q => by rw [q, e] at z; cases z; exact nl _ rfl)]; exact z, fun p o xs z => by rw [upd_ne (fun q => by rw [q, e] at z; cases z; exact mu)]; exact z⟩
/-- the keys of the locked dict at d, as a row -/
def Itz (d : Addr) (o : Obj) (u : HO) (xs : List V) : It :=
  ⟨fun i H => H d = some (.frz o u) ∧ i < xs.length, fun i H x H' => H' = H ∧ xs[i]? = some x, fun i H => H d = some (.frz o u) ∧ xs.length ≤ i⟩
/-- for x in d: d is not written in the meantime -/
def iZ (X : Cx) (td : TE) : TI := fun σ H R => td σ H fun x H1 => ∃ d ob ks, x = .ref d ∧ ROb X.w X.K H1 d ob ∧ keysO ob = some ks ∧
  ∀ o u xs, H1 d = some u → Mut (some u) → RDs X.K H1 ks xs → (∀ o' u', X.H_0 d ≠ some (.frz o' u')) → R (Itz d o u xs) (upd H1 d (.frz o u))
end
section
variable {X : Cx} {elt tg iter : Expr} {ifs : List Expr} {scope : Scope} {own : List (Str × Nat)} {pos spos py : Pos} {g : DTG} {tt : DTT} {te tl : DTE}
/-- [.. for x in d if ..], d a dict that is not written in the meantime (nor read) -/
@[simp] def dLcK (tl : DTE) (g : DTG) (tt : DTT) (te : DTE) (vs : List Nat) : DTE := fun E τ S Q => tl E τ S fun d S1 => match d with
  | .ref a => (match S1 a with
    | some ob => opt (keysO ob) fun ks => ∀ p, S1 p = none → dLcL g tt te DW0 (wipeD τ vs) (fun _ => True) p (fun S' => Q (.ref p) (upo S' a ob)) ks (upo (delo S1 a) p (.lst []))
    | none => False)
  | _ => False
/-- what the comprehension leaves, ahead of the thaw -/
def QZ (X : Cx) (Q : VK) : VK := fun v H' => ∃ (a : Addr) (o : Obj) (u : HO), H' a = some (.frz o u) ∧ (∀ o' u', X.H_0 a ≠ some (.frz o' u')) ∧ Q v (upd H' a u)
end
end Dt
set_option maxRecDepth 100000
set_option maxHeartbeats 4000000
namespace Dt
open PySem PySem.Spec L2 PyProof.Rows
section
variable {X : Cx}
/-! ### count, index, remove: plain data -/
def mCount : RMD := fun d ds S Q => ∃ (y : D) (xs : List D), ds = [y] ∧ seqD S d = some xs ∧ Sm 60 y ∧ (∀ x ∈ xs, Sm 60 x) ∧ Q (.int (xs.count y : Nat)) S
def mIndex : RMD := fun d ds S Q => ∃ (y : D) (xs : List D) (j : Nat), ds = [y] ∧ seqD S d = some xs ∧ Sm 60 y ∧ (∀ x ∈ xs, Sm 60 x) ∧ xs[j]? = some y ∧ (∀ m, m < j → xs[m]? ≠ some y) ∧ Q (.int j) S
def mRemove : RMD := fun d ds S Q => mLst ds d S fun xs up => ∃ (y : D) (j : Nat), ds = [y] ∧ Sm 60 y ∧ (∀ x ∈ xs, Sm 60 x) ∧ xs[j]? = some y ∧ (∀ m, m < j → xs[m]? ≠ some y) ∧ Q .non (up (xs.eraseIdx j))
@[simp] def mClear : RMD := fun d ds S Q => mLst ds d S fun xs up => match ds with | [] => Q .non (up []) | _ => False
@[simp] def mPopAt : RMD := fun d ds S Q => mLst ds d S fun xs up => match ds with | [.int i] => (-(2 ^ 63) ≤ i ∧ i < 2 ^ 63) ∧ opt (seqIndex? i xs.length) fun k => opt xs[k]? fun y => Q y (up (xs.eraseIdx k)) | _ => False
/-! ### texts -/
@[simp] def mSplit : RMD := fun d ds S Q => match d, ds with | .str a, [.str b] => (b.length == 0) = false ∧ a.length + 2 ≤ sizeLine ∧ newO S (.lst ((Txt.split a b).map D.str)) fun p S' => Q (.ref p) S' | _, _ => False
@[simp] def cStr : RCD := fun ds S Q => match ds with | [.int i] => i.natAbs.log2 < 1920 ∧ Q (.str (toString i)) S | [.str a] => Q (.str a) S | _ => False
@[simp] def cIntS : RCD := fun ds S Q => match ds with | [.int i] => Q (.int i) S | [.bl b] => Q (.int (if b then 1 else 0)) S | [.str a] => a.length ≤ 640 ∧ opt (PySem.intText? a) fun n => Q (.int n) S | _ => False
end
section
variable {X : Cx} {tg l : Expr} {tl : DTE} {p pos : Pos}
@[simp] def dRev (tl : DTE) : DTI := fun E τ S R => tl E τ S fun d S1 => match d with
  | .tup ds => R (fun _ => True) ds.reverse S1
  | .rol ds => R (fun _ => True) ds.reverse S1
  | .ref a => (match S1 a with | some (.lst ds) => R (fun S => S a = some (.lst ds)) ds.reverse S1 | _ => False)
  | _ => False
/-! ### e[::-1] of a list -/
@[simp] def dRevL (tl : DTE) : DTE := fun E τ S Q => tl E τ S fun d S1 => opt (seqD S1 d) fun xs => newO S1 (.lst xs.reverse) fun p S' => Q (.ref p) S'
@[simp] def dRevLF (tl : DTE) : DTE := fun E τ S Q => tl E τ S fun d S1 => opt (seqD S1 d) fun xs => Q (.rol xs.reverse) S1
/-! ### tuple(reversed(e)), e a list -/
@[simp] def dTupRev (tl : DTE) : DTE := fun E τ S Q => tl E τ S fun d S1 => opt (seqD S1 d) fun xs => Q (.tup xs.reverse) S1
end
end Dt
set_option maxRecDepth 100000
set_option maxHeartbeats 4000000
namespace Dt
open PySem PySem.Spec L2 PyProof.Rows
section
variable {prog : Program} {w : World} {A : Around} {E : Value → Shared → Prop} {s : Shared} {R : Result → Shared → Prop}
end
section
variable {prog : Program} {w : World} {A : Around} {E : Value → Shared → Prop} {s : Shared} {R : Result → Shared → Prop}
end
section
variable {X : Cx} {l : Expr} {tl : DTE} {te : TE} {p p2 pos pos2 : Pos}
/-- tuple(reversed(x)), x a list or a tuple -/
def tTupRevA (K : PySem.W.Frag) (te : TE) : TE := fun σ H Q => te σ H fun v H1 => ∃ (a : Addr) (xs : List V), v = .ref a ∧ SqT K H1 a xs ∧ ∀ q, H1 q = none → Q (.ref q) (upd H1 q (.tup xs.reverse))
@[simp] def dTupRevT (tl : DTE) : DTE := fun E τ S Q => tl E τ S fun d S1 => match d with | .tup xs => Q (.tup xs.reverse) S1 | _ => False
end
end Dt
set_option maxRecDepth 100000
set_option maxHeartbeats 4000000
namespace Dt
open PySem PySem.Spec L2 PyProof.Rows
section
variable {prog : Program} {w : World} {A : Around} {E : Value → Shared → Prop} {s : Shared} {R : Result → Shared → Prop}
end
section
variable {X : Cx} {l : Expr} {tl : DTE} {te : TE} {p p2 pos pos2 : Pos}
/-- list(reversed(x)), x a tuple -/
def tLstRevA (K : PySem.W.Frag) (te : TE) : TE := fun σ H Q => te σ H fun v H1 => ∃ (a : Addr) (xs : List V), v = .ref a ∧ SqT K H1 a xs ∧ ∀ q, H1 q = none → Q (.ref q) (upd H1 q (.lst xs.reverse))
@[simp] def dLstRevT (tl : DTE) : DTE := fun E τ S Q => tl E τ S fun d S1 => match d with | .tup xs => newO S1 (.lst xs.reverse) fun p S' => Q (.ref p) S' | _ => False
@[simp] def dLstRevTF (tl : DTE) : DTE := fun E τ S Q => tl E τ S fun d S1 => match d with | .tup xs => Q (.rol xs.reverse) S1 | _ => False
end
end Dt
set_option maxRecDepth 100000
set_option maxHeartbeats 4000000
/-! DatE: exceptions: made, raised, caught, asked. -/
namespace Dt
open PySem PySem.Spec L2 PyProof.Rows
/-! ### an exception that is being made -/
/-- the base's __init__ is ValueError's -/
structure BaseI (K : PySem.W.Frag) (B : Addr) : Prop where
  rd : PySem.W.readsIn K B (.type "type") = true
  ga : PySem.W.specialIn K (.ref B) "__getattribute__" = some (some (.builtin "type.__getattribute__"))
  ini : PySem.W.findCls K (.ref B) (.type "type") "__init__" = some (.val (.builtin "ValueError.__init__"))
/-- B.__init__(self, ..) -/
@[simp] def dVeI (C : Addr) (t : DTA) : DTE := fun E τ S Q => t E τ S fun ds S1 => match ds with
  | .ref a :: ws => ws.length ≤ 1000 ∧ S1 a = some (.ex0 C) ∧ Q .non S1
  | _ => False
/-- self.f = e -/
def dPutXK (C : Addr) (f : Str) (y : D) (N : DH → Prop) : D → DH → Prop := fun d S2 => match d with
  | .ref a => (match S2 a with
    | some (.ex0 C') => C' = C ∧ newO S2 (.xm [(f, y)]) fun dx S3 => N (upo S3 a (.ex1 C dx))
    | some (.ex1 C' dx) => C' = C ∧ (match S2 dx with | some (.xm fs) => fs.length ≤ 900 ∧ N (upo S2 dx (.xm ((f, y) :: fs))) | _ => False)
    | _ => False)
  | _ => False
@[simp] def dPutX (C : Addr) (f : Str) (to te : DTE) : DTS := fun A τ S => te A.xe τ S fun y S1 => to A.xe τ S1 (dPutXK C f y (A.nx τ))
section
variable {X : Cx} {B C : Addr} {o e : Expr} {es : List Expr} {x f : Str} {t : DTA} {to te : DTE} {p p' p1 p2 pos : Pos}
end
/-! ### C(..), an exception -/
section
variable {X : Cx} {pins : List (Addr × Obj)} {σ : L2.St}
variable {k : Nat} {fI C : Addr} {fd : FuncData} {ps : List Str} {sp : DSp} {s : Shared}
end
/-! ### what is known of such a class -/
def xfactB (K : PySem.W.Frag) (C fI : Addr) (fl : List Str) : Bool :=
  decide (PySem.W.findIn K (.ref C) "__setattr__" = some (some (.builtin "object.__setattr__"))) && (decide (PySem.W.subIn K (.ref C) (.type "BaseException") = some true) && (decide (PySem.W.typeIn K (.ref C) = some (.type "type")) && (PySem.W.keepIn K (.ref C) &&
  (decide (PySem.W.findIn K (.ref C) "__init__" = some (some (.ref fI))) && (decide (PySem.W.typeIn K (.ref fI) = some (.type "function")) && (decide (PySem.W.findIn K (.ref C) "__getattribute__" = some (some (.builtin "BaseException.__getattribute__"))) && (decide (PySem.W.findIn K (.ref C) "__getattr__" = some none) &&
  (PySem.W.hasDictIn K C && (decide (PySem.W.findIn K (.ref C) "__class__" = some (some (.builtin "object.__class__"))) && (decide (PySem.W.specialIn K (.builtin "object.__class__") "__get__" = some (some (.builtin "getset_descriptor.__get__"))) && (decide (PySem.W.takesIn K (.builtin "object.__class__") = some true) &&
  (decide (PySem.W.mroIn K C (.type "object") = some true) && fl.all fun f => decide (PySem.W.findIn K (.ref C) f = some none)))))))))))))
/-- an own class of exceptions: fI its __init__, fl its fields -/
structure ExT (K : PySem.W.Frag) (C fI : Addr) (fl : List Str) : Prop where
  oc : OexC K C
  ini : PySem.W.findIn K (.ref C) "__init__" = some (some (.ref fI))
  ty : PySem.W.typeIn K (.ref fI) = some (.type "function")
  xf : XfC K C
  ec : ExcC K C
  no : ∀ f ∈ fl, NoAttr K C f
def basefB (K : PySem.W.Frag) (B : Addr) : Bool := PySem.W.readsIn K B (.type "type") && (decide (PySem.W.specialIn K (.ref B) "__getattribute__" = some (some (.builtin "type.__getattribute__"))) && decide (PySem.W.findIn K (.ref B) "__init__" = some (some (.builtin "ValueError.__init__"))))
/-- isinstance of such exceptions: the answers by their class -/
def kitfB (K : PySem.W.Frag) (c : Value) (subs : List (Addr × Bool)) : Bool := subs.all fun p => decide (PySem.W.kitOne K (.ref p.1) c = some p.2)
def kitsB (K : PySem.W.Frag) (cs : List Value) (subs : List (Addr × Bool)) : Bool := subs.all fun p => decide (PySem.W.kitAny K (.ref p.1) cs = some p.2)
/-- except c: the answers by their class -/
def exmfB (K : PySem.W.Frag) (c : Value) (subs : List (Addr × Bool)) : Bool := subs.all fun p => decide (PySem.W.exmOne K (.ref p.1) c = some p.2)
/-! ### raise C(..), C(..) as a value -/
@[simp] def dRaise (C : Addr) (sp : DSp) (t : DTA) : DTS := fun A τ S => t A.xe τ S fun ds S1 => ds.length ≤ 1000 ∧ ∀ a, S1 a = none → sp (.ref a :: ds) (upo S1 a (.ex0 C))
  (fun d S' => d = .non ∧ ∃ dx fs, dx ≠ a ∧ S' a = some (.ex1 C dx) ∧ S' dx = some (.xm fs) ∧ A.xe C fs τ (delo (delo S' a) dx)) fun _ _ _ => False
@[simp] def dMakeX (C : Addr) (sp : DSp) (t : DTA) : DTE := fun E τ S Q => t E τ S fun ds S1 => ds.length ≤ 1000 ∧ ∀ a, S1 a = none → sp (.ref a :: ds) (upo S1 a (.ex0 C))
  (fun d S' => d = .non ∧ ∃ dx fs, dx ≠ a ∧ S' a = some (.ex1 C dx) ∧ S' dx = some (.xm fs) ∧ Q (.ref a) (upo (upo (delo (delo S' a) dx) dx (.xd fs)) a (.exc C dx))) fun _ _ _ => False
section
variable {X : Cx} {k : Nat} {fI C : Addr} {fd : FuncData} {ps fl : List Str} {sp : DSp} {x : Str} {e : Expr} {es : List Expr} {t : DTA} {p pos pos' : Pos}
end
/-! ### asking an exception -/
def dFldXK (Cs : List Addr) (f : Str) (Q : DK) : DK := fun d S1 => match d with
  | .ref a => (match S1 a with
    | some (.exc C dd) => C ∈ Cs ∧ (match S1 dd with | some (.xd fs) => opt (fs.lookup f) fun v => Q v S1 | _ => False)
    | _ => False)
  | _ => False
/-- e.f -/
@[simp] def dFldX (Cs : List Addr) (f : Str) (te : DTE) : DTE := fun E τ S Q => te E τ S (dFldXK Cs f Q)
/-- isinstance(e, c): the answers by e's class -/
def dIsEK (subs : List (Addr × Bool)) (Q : DK) : DK := fun d S1 => match d with
  | .ref a => (match S1 a with | some (.exc C dd) => (∃ fs, S1 dd = some (.xd fs)) ∧ ∃ b, (C, b) ∈ subs ∧ Q (.bl b) S1 | _ => False)
  | _ => False
@[simp] def dIsE (subs : List (Addr × Bool)) (te : DTE) : DTE := fun E τ S Q => te E τ S (dIsEK subs Q)
section
variable {X : Cx} {pins : List (Addr × Obj)} {σ : L2.St} {H : Hp} {s : Shared} {a C dd : Addr}
end
section
variable {X : Cx} {e : Expr} {te : DTE} {f x : Str} {p p2 pos : Pos} {Cs : List Addr} {subs : List (Addr × Bool)} {C : Addr}
def rIsX (K : PySem.W.Frag) (c : V) (cv : Value) : List V → Hp → VK → Prop := fun xs H Q => ∃ (a C dd : Addr) (fs : List (Str × V)) (b : Bool), xs = [.ref a, c] ∧ ExcC K C ∧ H a = some (excHO C dd a) ∧ H dd = some (.xd fs) ∧ PySem.W.kitOne K (.ref C) cv = some b ∧ Q (.bl b) H
/-- class names, one by one -/
@[simp] def dCs (cs : List Addr) : DTA := fun _ _ S Q => Q (cs.map D.ref) S
def rIsXs (K : PySem.W.Frag) (cs : List Addr) : List V → Hp → VK → Prop := fun xs H Q => ∃ (a C dd : Addr) (fs : List (Str × V)) (b : Bool) (tp : Addr), xs = [.ref a, .ref tp] ∧ ExcC K C ∧ H a = some (excHO C dd a) ∧ H dd = some (.xd fs) ∧ SqT K H tp (cs.map V.ref) ∧ PySem.W.kitAny K (.ref C) (cs.map Value.ref) = some b ∧ Q (.bl b) H
end
/-! ### defs that may be called where an exception is handled -/
structure DFnT (P : Program) (w : World) (K : PySem.W.Frag) (mg : Str → Option Value) (base : Heap) (k : Nat) (f : Addr) (fd : FuncData) (ps : List Str) (sp : DSp) : Prop where
  mono : ∀ ds S (Q Q' : DK) (E E' : DXK), (∀ d S', Q d S' → Q' d S') → (∀ C fs S', E C fs S' → E' C fs S') → sp ds S Q E → sp ds S Q' E'
  len : ∀ ds S Q E, sp ds S Q E → ds.length = ps.length
  run : ∀ (A : Around) (outer : List Env) (s : Shared) (H : Hp) (args : Args) (us : List Value) (vs : List V) (Q : VK) (E : XK), L2H.RoomH k A → A.guards = some [] → Env0 P w K mg base A outer s H → BindsTo s fd args (ps.zip us) → Vals vs us →
    upSp w K sp vs H Q E → codeAny (model P w) A (.call (.ref f) args) (CR (L2.CX P w) outer P w H s Q E) s
/-- the context of a def's body, an exception handled ahead of it or not -/
def cxN (P : Program) (w : World) (K : PySem.W.Frag) (mg : Str → Option Value) (base : Heap) (N : List Str) (qual : Str) (scope : Scope) (f : Addr) (cd : Value) (A : Around) (outer : List Env) (s : Shared) (H : Hp) (E : XK) : Cx :=
  { cxOf (L2.CX P w) P w K mg base N qual scope f cd A outer s H E with calm := false }
section
variable {X : Cx} {k : Nat} {f : Addr} {fd : FuncData} {ps : List Str} {sp : DSp} {x : Str} {p pos : Pos} {e : Expr} {es : List Expr} {t : DTA}
end
/-! ### try: body / except x as n: suite -/
section
variable {X : Cx} {pins : List (Addr × Obj)} {σ : L2.St} {H : Hp} {s : Shared}
end
/-- the ends of a suite that has an exception's name in slot i -/
def sufA (A : DEnds) (i : Nat) : DEnds where
  nx := fun τ S => A.nx (τ.set i none) S
  rt := A.rt
  bk := fun τ S => A.bk (τ.set i none) S
  ct := fun τ S => A.ct (τ.set i none) S
@[simp] theorem sufA_nx (A : DEnds) (i : Nat) (τ : DSt) (S : DH) : (sufA A i).nx τ S = A.nx (τ.set i none) S := rfl
@[simp] theorem sufA_rt (A : DEnds) (i : Nat) : (sufA A i).rt = A.rt := rfl
/-- what a try's body wishes of an exception: subs says which classes the clause takes -/
def tryX (subs : List (Addr × Bool)) (i : Nat) (ts : DTS) (A : DEnds) : DW := fun C fs τ S => ∃ b, (C, b) ∈ subs ∧ (b = true → ∀ a dd, S a = none → S dd = none → a ≠ dd → ts (sufA A i) (τ.set i (some (.ref a))) (upo (upo S dd (.xd fs)) a (.exc C dd))) ∧ (b = false → A.xe C fs τ S)
@[simp] def dTry (subs : List (Addr × Bool)) (i : Nat) (tb ts : DTS) : DTS := fun A τ S => tb { A with xe := tryX subs i ts A } τ S
section
variable {X : Cx} {x n : Str} {c : Value} {i : Nat} {body suite : List Stmt} {b₀ : Stmt} {np pos pos' : Pos} {tb ts : DTS} {subs : List (Addr × Bool)}
end
/-! ### small things -/
theorem _root_.L2H.RoomH.units {A : Around} {k : Nat} (hr : L2H.RoomH k A) : A.units + 64 < cLine := by
  have := hr.un
  omega
def basexB (K : PySem.W.Frag) (B : Addr) : Bool := PySem.W.readsIn K B (.type "type") && (decide (PySem.W.specialIn K (.ref B) "__getattribute__" = some (some (.builtin "type.__getattribute__"))) &&
  match PySem.W.findCls K (.ref B) (.type "type") "__init__" with | some (.val v) => decide (v = .builtin "ValueError.__init__") | _ => false)
section
variable {K : PySem.W.Frag} {f : Str} {C fI : Addr} {fl : List Str} {Cs : List Addr} {b : Bool} {subs : List (Addr × Bool)}
end
/-- d[k] of a written dict of texts' -/
def dKixK (tbl : List (Str × D)) (Q : DK) : DK := fun d S => match d with | .str z => opt (tbl.lookup z) fun y => Q y S | _ => False
@[simp] def dKix (tbl : List (Str × D)) (tk : DTE) : DTE := fun E τ S Q => tk E τ S (dKixK tbl Q)
/-- what a written dict holds -/
structure KTbl (K : PySem.W.Frag) (w : World) (a : Addr) (tbl : List (Str × D)) : Prop where
  at_ : ∀ z y, tbl.lookup z = some y → ∃ v, KDct K w a z v ∧ ∀ H, RD K H y v
section
variable {X : Cx} {x : Str} {a : Addr} {tbl : List (Str × D)} {b : Expr} {tb : DTE} {p pos : Pos}
end
/-! count, index of truths in a list of truths -/
def mCountB : RMD := fun d ds S Q => ∃ (y : Bool) (xs : List Bool), ds = [.bl y] ∧ seqD S d = some (xs.map .bl) ∧ Q (.int (xs.count y : Nat)) S
def mIndexB : RMD := fun d ds S Q => ∃ (y : Bool) (xs : List Bool) (j : Nat), ds = [.bl y] ∧ seqD S d = some (xs.map .bl) ∧ xs[j]? = some y ∧ (∀ m, m < j → xs[m]? ≠ some y) ∧ Q (.int j) S
section
variable {X : Cx}
/-- str(x), x an int, a text or a tuple of data -/
@[simp] def cStrG : RCD := fun ds S Q => match ds with
  | [.int i] => i.natAbs.log2 < 1920 ∧ Q (.str (toString i)) S
  | [.str a] => Q (.str a) S
  | [.tup xs] => cRepr [.tup xs] S Q
  | _ => False
end
end Dt
set_option maxRecDepth 100000
set_option maxHeartbeats 4000000
namespace Dt
open PySem PySem.Spec L2 PyProof.Rows PySem.W
/-! DatH: d.items(): sorted, walked. -/
section
variable {X : Cx} {pins : List (Addr × Obj)} {σ : L2.St} {H : Hp} {s : Shared}
open L2.DX (itemsO itemsO_ok takeT)
def pairD (q : Key × D) : D := .tup [keyD q.1, q.2]
def tItems (te : TE) : TE := fun σ H Q => te σ H fun x H1 => ∃ (a : Addr) (kvs : List (Key × V)), x = .ref a ∧ H1 a = some (.dK kvs) ∧ ∀ p, H1 p = none → Q (.ref p) (upd H1 p (itemsO p a))
theorem RKs.at_ {K : PySem.W.Frag} {H : Hp} {κ : Type} : ∀ {kvs : List (κ × D)} {ws : List (κ × V)} {i : Nat} {q : κ × V}, RKs K H kvs ws → ws[i]? = some q → ∃ d, kvs[i]? = some (q.1, d) ∧ RD K H d q.2
  | [], _, i, q, h, e => by cases h; simp at e
  | (k, d) :: r, _, i, q, h, e => by
    obtain ⟨v, s, rfl, h1, h2⟩ := h
    cases i with
    | zero => simp at e; subst e; exact ⟨d, rfl, h1⟩
    | succ i => exact RKs.at_ (kvs := r) (ws := s) (i := i) (q := q) h2 (by simpa using e)
def rSortV (w : World) (K : PySem.W.Frag) : List V → Hp → VK → Prop := fun vs H Q => ∃ (p a : Addr) (kvs : List (Key × D)) (S : DH), vs = [.ref p] ∧ H p = some (itemsO p a) ∧ S a = some (.dK kvs) ∧ Rep w K S H ∧ (∃ t, sortTy t = true ∧ ∀ d ∈ kvs.map pairD, hasTy t d = true) ∧
  ∀ q H', S q = none → LeH H H' → Rep w K (upo S q (.lst (srtD (kvs.map pairD)))) H' → Q (.ref q) H'
/-- sorted(e.items()) -/
def dSortItems (t : DTE) : DTE := fun E τ S Q => t E τ S fun d S1 => match d with
  | .ref a => (match S1 a with
    | some (.dK kvs) => cSrt (kvs.map pairD) fun ys => newO S1 (.lst ys) fun p S' => Q (.ref p) S'
    | _ => False)
  | _ => False
@[simp] def dSortItemsF (t : DTE) : DTE := fun E τ S Q => t E τ S fun d S1 => match d with
  | .ref a => (match S1 a with
    | some (.dK kvs) => cSrt (kvs.map pairD) fun ys => Q (.rol ys) S1
    | _ => False)
  | _ => False
def dSortItemsK (Q : DK) : DK := fun d S1 => match d with
  | .ref a => (match S1 a with
    | some (.dK kvs) => cSrt (kvs.map pairD) fun ys => Q (.rol ys) S1
    | _ => False)
  | _ => False
theorem dSortItems_eq {t : DTE} {E : DW} {τ : DSt} {S : DH} {Q : DK} : dSortItemsF t E τ S Q = t E τ S (dSortItemsK Q) := rfl
end
section
variable {X : Cx}
/-! ### len(set(e)) -/
def rLenSet (w : World) : List V → Hp → VK → Prop := fun vs H Q => ∃ (p : Addr) (ks : List Key), vs = [.ref p] ∧ H p = some (setHO w p ks) ∧ Q (.int (ks.length : Nat)) H
@[simp] def dLenSet (t : DTE) : DTE := fun E τ S Q => t E τ S fun d S1 => ∃ all : List Key, seqD S1 d = some (all.map keyD) ∧ all.length + 1 < scanBound ∧ Q (.int ((firstK all).length : Nat)) S1
end
/-! list(reversed(x)), x a list -/
section
variable {prog : Program} {w : World} {A : Around} {E : Value → Shared → Prop} {s : Shared} {R : Result → Shared → Prop}
end
section
variable {X : Cx} {l : Expr} {tl : DTE} {te : TE} {p p2 pos pos2 : Pos}
def tLstRevL (K : PySem.W.Frag) (te : TE) : TE := fun σ H Q => te σ H fun v H1 => ∃ (a : Addr) (xs : List V), v = .ref a ∧ SqL K H1 a xs ∧ ∀ q, H1 q = none → Q (.ref q) (upd H1 q (.lst xs.reverse))
@[simp] def dLstRevL (tl : DTE) : DTE := fun E τ S Q => tl E τ S fun d S1 => opt (seqD S1 d) fun xs => newO S1 (.lst xs.reverse) fun p S' => Q (.ref p) S'
@[simp] def dLstRevLF (tl : DTE) : DTE := fun E τ S Q => tl E τ S fun d S1 => opt (seqD S1 d) fun xs => Q (.rol xs.reverse) S1
end
end Dt
set_option maxRecDepth 100000
set_option maxHeartbeats 4000000
namespace Dt
open PySem PySem.Spec PySem.W L2 PyProof.Rows
/-! ### sorted(set(e)), len(set(e)), e a list of tuples -/
/-- each as it is met first -/
def addD (acc : List D) (d : D) : List D := if d ∈ acc then acc else acc ++ [d]
def firstD (ds : List D) : List D := ds.foldl addD []
theorem foldD_mem {d : D} : ∀ (ds acc : List D), d ∈ ds.foldl addD acc ↔ d ∈ acc ∨ d ∈ ds
  | [], acc => by simp
  | e :: ds, acc => by
    rw [List.foldl_cons, foldD_mem ds (addD acc e)]
    unfold addD
    by_cases h : e ∈ acc
    · rw [if_pos h]
      constructor
      · rintro (z | z)
        · exact .inl z
        · exact .inr (List.mem_cons_of_mem _ z)
      · rintro (z | z)
        · exact .inl z
        · rcases List.mem_cons.mp z with rfl | z
          · exact .inl h
          · exact .inr z
    · rw [if_neg h]
      simp only [List.mem_append, List.mem_cons, List.not_mem_nil, or_false]
      constructor
      · rintro ((z | z) | z)
        · exact .inl z
        · exact .inr (.inl z)
        · exact .inr (.inr z)
      · rintro (z | z | z)
        · exact .inl (.inl z)
        · exact .inl (.inr z)
        · exact .inr z
theorem firstD_mem {d : D} {ds : List D} : d ∈ firstD ds ↔ d ∈ ds := by
  unfold firstD
  rw [foldD_mem]
  simp
theorem foldD_nd : ∀ (ds acc : List D), acc.Nodup → (ds.foldl addD acc).Nodup
  | [], _, h => h
  | e :: ds, acc, h => foldD_nd ds _ (by
    unfold addD
    split
    · exact h
    · rename_i hn
      rw [List.nodup_append]
      exact ⟨h, by simp, fun a ha b hb => by rw [List.mem_singleton.mp hb]; exact fun z => hn (z ▸ ha)⟩)
theorem firstD_nd (ds : List D) : (firstD ds).Nodup := foldD_nd ds [] .nil
/-- a key stands for its datum -/
def EN (K : PySem.W.Frag) (H : Hp) (p : Addr × NestedKey) (d : D) : Prop := nkey d = some p.2 ∧ p.2.depth ≤ 8 ∧ RD K H d (.ref p.1)
theorem EN.le {K : PySem.W.Frag} {H H' : Hp} (le : LeH H H') {p : Addr × NestedKey} {d : D} (h : EN K H p d) : EN K H' p d := ⟨h.1, h.2.1, h.2.2.le le⟩
theorem en_mem {K : PySem.W.Frag} {H : Hp} {p : Addr × NestedKey} {d : D} (h : EN K H p d) : ∀ {acc : List (Addr × NestedKey)} {ds : List D}, EachIs (EN K H) acc ds → (p.2 ∈ acc.map (·.2) ↔ d ∈ ds)
  | _, _, .nil => by simp
  | _, _, .cons (a := q) (b := e) a t => by
    have ih := en_mem h t
    rw [List.map_cons, List.mem_cons, List.mem_cons, ih]
    have : p.2 = q.2 ↔ d = e := key_iff h.1 a.1
    rw [this]
theorem en_fold {K : PySem.W.Frag} {H : Hp} : ∀ {l : List (Addr × NestedKey)} {ds : List D} {acc : List (Addr × NestedKey)} {ad : List D}, EachIs (EN K H) l ds → EachIs (EN K H) acc ad → EachIs (EN K H) (l.foldl addN acc) (ds.foldl addD ad)
  | _, _, acc, ad, .nil, h => h
  | _, _, acc, ad, .cons (a := q) (b := e) (as := l) (bs := ds) a t, h => by
    show EachIs (EN K H) (l.foldl addN (addN acc q)) (ds.foldl addD (addD ad e))
    refine en_fold t ?_
    have m := en_mem a h
    unfold addN addD
    by_cases c : e ∈ ad
    · rw [if_pos (m.mpr c), if_pos c]
      exact h
    · rw [if_neg (fun z => c (m.mp z)), if_neg c]
      exact each_snoc a h
/-- the set at a, without the keys themselves -/
def SetN0 (w : World) (h : Heap) (a : Addr) (L : List (Addr × NestedKey)) : Prop := ∃ (es : Array (Int × Value)) (ep : Nat) (t : SetTable), (∃ o, h.get? a = some o ∧ o.ExactSet ∧ o.data = .set es ep t) ∧ es.toList = nrows w L ∧ TabOk t (L.map fun p => nhash w p.2) ∧ (L.map (·.2)).Nodup ∧
  (w.params.followText "set-order" = true ∨ t.led = true) ∧ L.length * 5 < t.mask * 3 ∧ L.length < 64
def setNO (w : World) (a : Addr) (L : List (Addr × NestedKey)) : HO := .ext fun h => SetN0 w h a L
theorem setNO_ok {P : Program} {w : World} {H : Hp} {h : Heap} {a : Addr} {L : List (Addr × NestedKey)} (R : SetN0 w h a L) : ObjOk P w H h a (setNO w a L) := by
  have ⟨es, ep, t, ⟨o, ho, r⟩, q⟩ := id R
  refine ⟨R, ⟨o, ho⟩, fun h1 h2 p k => ?_⟩
  obtain ⟨es', ep', t', ⟨o', ho', r'⟩, q'⟩ := p
  exact ⟨es', ep', t', ⟨o', k o' ho', r'⟩, q'⟩
theorem setNO_at {P : Program} {w : World} {H : Hp} {h : Heap} {a : Addr} {L : List (Addr × NestedKey)} (hok : HOk P w H h) (e : H a = some (setNO w a L)) : SetN0 w h a L := by
  have x : ObjOk P w H h a (.ext fun h => SetN0 w h a L) := hok a _ e
  exact x.1
section
variable {X : Cx}
theorem ents_of {pins : List (Addr × Obj)} {σ : L2.St} {H : Hp} {s : Shared} (I : Inv X pins σ H s) : ∀ {ds : List D} {xs : List V} {its : List Value}, (∀ d ∈ ds, okT d = true) → RDs X.K H ds xs → Vals xs its →
    ∃ all : List (Addr × NestedKey), its = all.map (fun p => Value.ref p.1) ∧ EachIs (EN X.K H) all ds ∧ ∀ p ∈ all, NIs X.prog X.w s.heap p.2 p.1
  | [], xs, its, _, rd, rv => by
    cases rd
    cases rv
    exact ⟨[], rfl, .nil, fun p hp => absurd hp (by simp)⟩
  | d :: ds, xs, its, hk, rd, rv => by
    obtain ⟨v, xs', rfl, r1, r2⟩ := rd
    cases rv with
    | cons q1 q2 =>
      obtain ⟨all, e1, h2, h3⟩ := ents_of I (fun d hd => hk d (List.mem_cons_of_mem _ hd)) r2 q2
      obtain ⟨nk, b, en, dn, rfl, rfl, is⟩ := okT_key I (hk d (List.mem_cons_self ..)) r1 q1
      refine ⟨(b, nk) :: all, by rw [e1]; rfl, .cons ⟨en, dn, r1⟩ h2, fun p hp => ?_⟩
      rcases List.mem_cons.mp hp with rfl | hp
      · exact is
      · exact h3 p hp
def rSetN (K : PySem.W.Frag) (w : World) : List V → Hp → VK → Prop := fun vs H Q => ∃ (a : Addr) (xs : List V) (ds : List D), vs = [.ref a] ∧ (SqX K H a xs ∨ SqT K H a xs) ∧ RDs K H ds xs ∧ (∀ d ∈ ds, okT d = true) ∧ (firstD ds).length < 63 ∧
  ∀ p L L1, H p = none → L.Perm L1 → EachIs (EN K H) L1 (firstD ds) → Q (.ref p) (upd H p (setNO w p L))
theorem cr_setN (hc : X.calm = true) (hu : X.A.units + 64 < cLine) : CallR X (.type "set") (rSetN X.K X.w) := by
  intro pins s σ H vs us Q I r ⟨a, xs, ds, e, sq, rs, hk, hb, q⟩
  subst e
  rw [Vals.ref1 r]
  rcases sq with sq | sq
  rotate_left
  · obtain ⟨its, vi, ⟨o, ho, hcl, n, hda⟩, zl⟩ := I.tuple sq
    obtain ⟨all, e1, h2, h3⟩ := ents_of I hk rs vi
    have ef := en_fold h2 (acc := []) (ad := []) .nil
    refine call_setNT (all := all) (I.ok.hd hc) (by omega) ⟨o, ho, hcl, n, hda⟩ (by simpa using e1) h3 (by have := ef.length; unfold firstN; unfold firstD at hb; omega) fun h' tk L es ep t R pm k => ?_
    refine ⟨.ref _, upd H s.heap.objs.size (setNO X.w s.heap.objs.size L), I.laid (t' := tk) (fun b u e => k b u (Heap.lt_size e) e) (Nat.le_refl _) (setNO_ok ⟨es, ep, t, R.ob, R.rows, R.tab, R.nd, R.led, R.room, R.few⟩), rfl, q _ L _ (I.hok.fresh (Nat.le_refl _)) pm ef⟩
  obtain ⟨its, n, vi, zl, ln, ho⟩ := sqX_get I sq
  obtain ⟨all, e1, h2, h3⟩ := ents_of I hk rs vi
  have ef := en_fold h2 (acc := []) (ad := []) .nil
  refine call_setN (all := all) (I.ok.hd hc) (by omega) ⟨_, ho, rfl, n, rfl⟩ (by simpa using e1) h3 (by have := ef.length; unfold firstN; unfold firstD at hb; omega) fun h' tk L es ep t R pm k => ?_
  refine ⟨.ref _, upd H s.heap.objs.size (setNO X.w s.heap.objs.size L), I.laid (t' := tk) (fun b u e => k b u (Heap.lt_size e) e) (Nat.le_refl _) (setNO_ok ⟨es, ep, t, R.ob, R.rows, R.tab, R.nd, R.led, R.room, R.few⟩), rfl, q _ L _ (I.hok.fresh (Nat.le_refl _)) pm ef⟩
def rSortN (K : PySem.W.Frag) (w : World) : List V → Hp → VK → Prop := fun vs H Q => ∃ (p : Addr) (L L1 : List (Addr × NestedKey)) (ds : List D) (t : Ty), vs = [.ref p] ∧ H p = some (setNO w p L) ∧ L.Perm L1 ∧ EachIs (EN K H) L1 ds ∧ sortTy t = true ∧ (∀ d ∈ ds, hasTy t d = true) ∧
  ∀ ys xs q, ys.Perm ds → H q = none → RDs K H (srtD ys) xs → Q (.ref q) (upd H q (.lst xs))
theorem cr_sortN (hc : X.calm = true) (hu : X.A.units + 64 < cLine) : CallR X (.builtin "sorted") (rSortN X.K X.w) := by
  intro pins s σ H vs us Q I r ⟨p, L, L1, ds, t, e, hp, pL, eL, hty, hd, q⟩
  subst e
  rw [Vals.ref1 r]
  obtain ⟨es, ep, tb, ⟨o, ho, hex, hdat⟩, hrows, T, nd, ld, room, few⟩ := setNO_at I.hok hp
  have hsl := nrows_len hrows
  have hpl : tb.place.size = es.size := by
    have h := T.sz
    rw [List.length_map] at h
    rw [h, hsl]
  refine Calls.call_function_entry kind_sorted plain_sorted entry_sorted (args_sorted1 _) ?_
  unfold Builtin.«sorted»
  refine wpAny_bind (m := checkCount "sorted" 1 1 _) (wpAny_pure (wpAny_bind (collect_set (A := X.A.in1) (I.ok.hd hc) ⟨o, ho, hex.1, hdat⟩ (fits_of T.dm hpl (by omega)) (by unfold scanBound; omega) T.ris ld fun s1 out k1 hz g1 o1 pm => ?_)))
  have hes : es.toList.map (·.2) = L.map fun q => Value.ref q.1 := by
    rw [hrows, List.map_map]
    rfl
  rw [hes] at pm
  have e0 : EachIs (fun u d => ∃ x, RelV x u ∧ RD X.K H d x) (L1.map fun q => Value.ref q.1) ds := each_map2 (fun q : Addr × NestedKey => Value.ref q.1) (eL.mono fun q d h => ⟨.ref q.1, rfl, h.2.2⟩)
  obtain ⟨ks, pk, ee⟩ := each_perm (pm.trans (pL.map _)) e0
  have hd' : ∀ d ∈ ks, hasTy t d = true := fun d h => hd d (pk.mem_iff.mp h)
  have hol : out.length = L.length := by rw [pm.length_eq, List.length_map]
  have hlen : out.length ≤ sizeLine := by rw [hol, sizeLine_eq]; omega
  have sm : ∀ d ∈ ks, Sm 50 d := fun d z => (hasTy_sm t d (hd' d z)).mono (sortTy_dep hty)
  refine wpAny_bind (wpAny_newList ?_ hlen)
  have hoL : (s1.heap.push (seqObj "list" out.toArray 0)).get? s1.heap.objs.size = some (seqObj "list" out.toArray 0) := Heap.get?_push_size _ rfl
  have rep0 : Rep X.w X.K (fun _ => none) H := fun b o e => nomatch e
  have er : EachIs (fun u d => ∃ as, Reads (sortingHeap (s1.heap.push (seqObj "list" out.toArray 0)) s1.heap.objs.size out) u (toP d) as) out ks := by
    refine EachIs.mono (fun u d z => ?_) (each_and ee sm)
    obtain ⟨⟨x, a1, a2⟩, a3⟩ := z
    obtain ⟨as, ra⟩ := Dp.reads I (toP d) x u ((a3.pd fun _ => none).dp rep0 _ _ _ a2) a1
    exact ⟨as, Reads.keeps (fun b o q => by
      have q1 := k1 b o q
      exact sortingHeap_old (Nat.ne_of_lt (Heap.lt_size q1)) (Heap.get?_push_of_some _ q1)) ra⟩
  show wpAny _ _ _ _ _ { s1 with heap := s1.heap.push (seqObj "list" out.toArray 0) }
  have Srt := SortsAt.data (prog := X.prog) (w := X.w) (A := X.A.in1.in1) (s := { s1 with heap := sortingHeap (s1.heap.push (seqObj "list" out.toArray 0)) s1.heap.objs.size out }) (each_map (R := fun v d => ∃ as, Reads (sortingHeap (s1.heap.push (seqObj "list" out.toArray 0)) s1.heap.objs.size out) v d as) toP er) (cd_sorted.AllAlike.of' hd') (sortable_ty hty hd') (bound_map (A := X.A.in1.in1) fun b hb => by
    have h2 := (sm b hb).2
    show X.A.units + 2 + _ < _
    rw [dep_P]; omega)
  refine wpAny_bind (wpAny_holding (wpAny_call_entry slot_list_sort ⟨_, hoL, rfl⟩ entry_list_sort
    (list_sort_vals (s := { s1 with heap := s1.heap.push (seqObj "list" out.toArray 0) }) hoL Srt hlen ⟨_, rfl, ?_⟩) (args_list_sort _)))
  have out2 := sortVals_data (R := fun u d => ∃ x, RelV x u ∧ RD X.K H d x) false ee er (cd_sorted.AllAlike.of' hd')
  rw [srtD_eq] at out2
  obtain ⟨ys, r1, r2⟩ := rel_each out2
  obtain ⟨e', he'⟩ := sortedHeap_at (vs := out) (out := (sortVals (dataKind (sortingHeap (s1.heap.push (seqObj "list" out.toArray 0)) s1.heap.objs.size out) (ks.map toP)) false out out).toArray) hoL
  have hn : H s1.heap.objs.size = none := I.hok.fresh hz
  have hyl : ys.length ≤ sizeLine := by rw [← r2.length, srt_len, ← ee.length]; exact hlen
  have kp : ∀ b u, s.heap.get? b = some u → (sortedHeap (s1.heap.push (seqObj "list" out.toArray 0)) s1.heap.objs.size out (sortVals (dataKind (sortingHeap (s1.heap.push (seqObj "list" out.toArray 0)) s1.heap.objs.size out) (ks.map toP)) false out out).toArray).get? b = some u := fun b u e => by
    have z := k1 b u e
    have lt := Heap.lt_size z
    rw [sortedHeap_old (Nat.ne_of_lt lt) (by rw [Heap.size_push]; exact Nat.lt_succ_of_lt lt)]
    exact Heap.get?_push_of_some _ z
  refine wpAny_pure ⟨_, rfl, .ref s1.heap.objs.size, upd H s1.heap.objs.size (.lst ys), ?_, rfl, q ks ys s1.heap.objs.size pk hn r2⟩
  obtain ⟨hp1, ge1, dr1, tk1, os1⟩ := s1
  cases g1
  cases o1
  have J : Inv X pins σ (upd H hp1.objs.size (.lst ys)) { s with heap := sortedHeap (hp1.push (seqObj "list" out.toArray 0)) hp1.objs.size out (sortVals (dataKind (sortingHeap (hp1.push (seqObj "list" out.toArray 0)) hp1.objs.size out) (ks.map toP)) false out out).toArray, drawn := dr1, toks := tk1 } :=
    I.call (ch := []) (Un.laid kp hz hn) (I.hok.laid kp hz ⟨hyl, _, e', r1, he'⟩) I.bare (fun _ z => nomatch z)
  exact J
def rLenN (w : World) : List V → Hp → VK → Prop := fun vs H Q => ∃ (p : Addr) (L : List (Addr × NestedKey)), vs = [.ref p] ∧ H p = some (setNO w p L) ∧ Q (.int (L.length : Nat)) H
theorem nodup_sub_lenD : ∀ {xs ys : List D}, xs.Nodup → (∀ x ∈ xs, x ∈ ys) → xs.length ≤ ys.length
  | [], _, _, _ => Nat.zero_le _
  | x :: xs, ys, nd, h => by
    obtain ⟨h1, h2⟩ := List.nodup_cons.mp nd
    have hx := h x List.mem_cons_self
    have ih := nodup_sub_lenD (ys := ys.erase x) h2 fun y hy => (List.mem_erase_of_ne (fun e => h1 (by rw [← e]; exact hy))).mpr (h y (List.mem_cons_of_mem _ hy))
    have e := List.length_erase_of_mem hx
    have hp : 0 < ys.length := List.length_pos_of_mem hx
    rw [List.length_cons]
    omega
theorem firstD_few {ds M : List D} (h : ∀ d ∈ ds, d ∈ M) : (firstD ds).length ≤ M.length := nodup_sub_lenD (firstD_nd ds) fun d hd => h d (firstD_mem.mp hd)
theorem firstD_len (ds : List D) : (firstD ds).length ≤ ds.length := firstD_few fun _ h => h
theorem row_rd {K : PySem.W.Frag} {w : World} {S : DH} {H : Hp} {d : D} {v : V} {ds : List D} (rep : Rep w K S H) (rd : RD K H d v) (e : rowD S d = some ds) : ∃ a xs, v = .ref a ∧ (SqX K H a xs ∨ SqT K H a xs) ∧ RDs K H ds xs := by
  cases d with
  | tup xs =>
    cases e
    obtain ⟨a, ys, rfl, sq, rs⟩ : ∃ a ys, v = V.ref a ∧ SqT K H a ys ∧ RDs K H ds ys := rd
    exact ⟨a, ys, rfl, .inr sq, rs⟩
  | _ =>
    obtain ⟨a, ys, h1, h2, h3⟩ := seqD_rd rep rd e
    exact ⟨a, ys, h1, .inl h2, h3⟩
/-- sorted(set(e)), a new list -/
@[simp] def dSortN (t : DTE) : DTE := fun E τ S Q => t E τ S fun d S1 => opt (rowD S1 d) fun ds => ∃ ty, (∀ d ∈ ds, okT d = true) ∧ (firstD ds).length < 63 ∧ sortTy ty = true ∧ (∀ d ∈ ds, hasTy ty d = true) ∧ newO S1 (.lst (ssD ds)) fun p S' => Q (.ref p) S'
/-- sorted(set(e)), frozen -/
@[simp] def dSortNF (t : DTE) : DTE := fun E τ S Q => t E τ S fun d S1 => opt (rowD S1 d) fun ds => ∃ ty, (∀ d ∈ ds, okT d = true) ∧ (firstD ds).length < 63 ∧ sortTy ty = true ∧ (∀ d ∈ ds, hasTy ty d = true) ∧ Q (.rol (ssD ds)) S1
/-- len(set(e)) -/
@[simp] def dLenN (t : DTE) : DTE := fun E τ S Q => t E τ S fun d S1 => opt (rowD S1 d) fun ds => (∀ d ∈ ds, okT d = true) ∧ (firstD ds).length < 63 ∧ Q (.int ((firstD ds).length : Nat)) S1
variable {x y : Str} {e : Expr} {p p' pos pos' : Pos} {t : DTE}
theorem de_sortN (hc : X.calm = true) (hu : X.A.units + 64 < cLine) (hgs : Gl X "sorted") (hms : X.mg "sorted" = none) (hgt : Gl X "set") (hmt : X.mg "set" = none) (hbs : bootBuiltins "sorted" = some (.builtin "sorted")) (hbt : bootBuiltins "set" = some (.type "set")) (he : DE X e t)
    (h1 : starEach [e] X.env = (false, eval e X.env) :: starEach [] X.env := by rfl) (h2 : starEach [Expr.Call (.Name "set" p') [e] [] pos'] X.env = (false, eval (Expr.Call (.Name "set" p') [e] [] pos') X.env) :: starEach [] X.env := by rfl) :
    DE X (.Call (.Name "sorted" p) [.Call (.Name "set" p') [e] [] pos'] [] pos) (dSortN t) := by
  refine ⟨fun E E' τ S Q Q' hE k q => he.mono _ _ _ _ _ _ hE (fun d S1 q => opt_mono (fun _ ⟨ty, a2, a3, a4, a5, a6⟩ => ⟨ty, a2, a3, a4, a5, fun q hq => k _ _ (a6 q hq)⟩) q) q, pE_imp (pe_callB (cr_sortN hc hu) hgs hms hbs (pa_cons (pe_callTy (cr_setN hc hu) hgt hmt hbt (pa_cons he.run pa_nil h1) (by decide) (by decide) h1 rfl) pa_nil h2) (by decide) (by decide) h2 rfl) fun σ H Q ⟨E, τ, S, w, rl, q⟩ => ?_⟩
  refine he.to w rl q fun d S1 v H1 le w1 r1 rd z => ?_
  obtain ⟨ds, hsq, ty, hk, hb, hty, hd, h⟩ := opt_ex z
  obtain ⟨a, xs, rfl, sq, rs⟩ := row_rd r1.rep rd hsq
  refine ⟨a, xs, ds, rfl, sq, rs, hk, hb, fun p L L1 hp pm ef => ⟨p, L, L1, firstD ds, ty, rfl, upd_same, pm, ef.mono fun _ _ z => z.le (LeH.new hp), hty, fun d h => hd d (firstD_mem.mp h), fun ys xs q pb hq rx => ?_⟩⟩
  have es : srtD ys = ssD ds := srt_one (t := ty) (fun d h => hd d (firstD_mem.mp (pb.mem_iff.mp h))) (pb.trans (perm_of_mem (firstD_nd ds) (nodup_eraseDups _ _ (Nat.le_refl _)) fun x => by rw [firstD_mem, List.mem_eraseDups]))
  rw [es] at rx
  have rg := r1.rep.garb (u := setNO X.w p L) hp
  exact h q (rg.free hq) _ _ (le.trans ((LeH.new hp).trans (LeH.new hq))) (rg.new hq ⟨xs, upd_same, rx.le (LeH.new hq)⟩) rfl
theorem de_sortNF (hc : X.calm = true) (hu : X.A.units + 64 < cLine) (hgs : Gl X "sorted") (hms : X.mg "sorted" = none) (hgt : Gl X "set") (hmt : X.mg "set" = none) (hbs : bootBuiltins "sorted" = some (.builtin "sorted")) (hbt : bootBuiltins "set" = some (.type "set")) (he : DE X e t)
    (h1 : starEach [e] X.env = (false, eval e X.env) :: starEach [] X.env := by rfl) (h2 : starEach [Expr.Call (.Name "set" p') [e] [] pos'] X.env = (false, eval (Expr.Call (.Name "set" p') [e] [] pos') X.env) :: starEach [] X.env := by rfl) :
    DE X (.Call (.Name "sorted" p) [.Call (.Name "set" p') [e] [] pos'] [] pos) (dSortNF t) :=
  (de_fz (de_sortN hc hu hgs hms hgt hmt hbs hbt he h1 h2)).sub (fun E E' τ S Q Q' hE k q => he.mono _ _ _ _ _ _ hE (fun d S1 q => opt_mono (fun _ ⟨ty, a2, a3, a4, a5, a6⟩ => ⟨ty, a2, a3, a4, a5, k _ _ a6⟩) q) q) fun E τ S Q q => he.mono _ _ _ _ _ _ (fun _ _ _ _ z => z) (fun d S1 q => opt_mono (fun _ ⟨ty, a2, a3, a4, a5, a6⟩ => ⟨ty, a2, a3, a4, a5, fun p hp => fzK_new hp a6⟩) q) q
end
end Dt
set_option maxRecDepth 100000
set_option maxHeartbeats 4000000
/-! DatRt: t[::-1] of a tuple. -/
namespace Dt
open PySem PySem.Spec L2 PyProof.Rows
section
variable {prog : Program} {w : World} {A : Around} {E : Value → Shared → Prop} {s : Shared}
theorem back_adjust (n : Nat) : Builtin.Slice.sliceAdjust none none (-1) (n : Int) = ((n : Int) - 1, -1) := by
  unfold Builtin.Slice.sliceAdjust
  rfl
theorem back_places (n : Nat) : Builtin.Slice.slicePlaces ((n : Int) - 1) (-1) (-1) = n := by
  unfold Builtin.Slice.slicePlaces
  have h1 : ¬ ((-1 : Int) > 0) := by omega
  simp only [h1, if_false, show (-(-1) : Int) = 1 from rfl, Int.ediv_one]
  split <;> omega
theorem fm_congr {α β : Type} {f g : α → Option β} : ∀ {l : List α}, (∀ x ∈ l, f x = g x) → l.filterMap f = l.filterMap g
  | [], _ => rfl
  | a :: l, h => by rw [List.filterMap_cons, List.filterMap_cons, h a (List.mem_cons_self ..), fm_congr fun x hx => h x (List.mem_cons_of_mem _ hx)]
theorem back_pick (xs : Array Value) : ((List.range xs.size).filterMap fun (m : Nat) => xs[(((xs.size : Int) - 1) + (m : Int) * (-1)).toNat]?).toArray = xs.toList.reverse.toArray := by
  congr 1
  have go : ∀ l : List Value, ((List.range l.length).filterMap fun (m : Nat) => l[(((l.length : Int) - 1) + (m : Int) * (-1)).toNat]?) = l.reverse := fun l => by
    have e : ((List.range l.length).filterMap fun (m : Nat) => l[(((l.length : Int) - 1) + (m : Int) * (-1)).toNat]?) = (List.range l.length).filterMap fun m => l.reverse[m]? := by
      refine fm_congr fun m hm => ?_
      have hm := List.mem_range.mp hm
      rw [List.getElem?_reverse hm]
      congr 1
      omega
    rw [e]
    have : ∀ r : List Value, ((List.range r.length).filterMap fun m => r[m]?) = r := fun r => by
      induction r with
      | nil => rfl
      | cons a r ih =>
        rw [List.length_cons, List.range_succ_eq_map, List.filterMap_cons]
        simp only [List.getElem?_cons_zero, List.filterMap_map]
        exact congrArg (a :: ·) ih
    have := this l.reverse
    rwa [List.length_reverse] at this
  have := go xs.toList
  rw [Array.length_toList] at this
  rw [← this]
  refine fm_congr fun m _ => ?_
  rw [Array.getElem?_toList]
theorem back_applied {sl : Addr} {vs : Value} {n : Nat} {Q : Int × Int × Nat → Shared → Prop} (hs : s.heap.IsSliceOf sl .none .none vs) (ps : IsPart vs (some (-1)))
    (h : Q ((n : Int) - 1, -1, n) s) : wpAny (model prog w) A (Builtin.Slice.sliceApplied (.ref sl) (pure (n : Int))) Q E s := by
  obtain ⟨os, hos, hcs, hds⟩ := id hs
  unfold Builtin.Slice.sliceApplied Builtin.Slice.sliceFields
  refine wpAny_bind (wpAny_bind (wpAny_field hos hds (x := .none) rfl (wpAny_bind (wpAny_field hos hds (x := .none) rfl (wpAny_bind (wpAny_field hos hds (x := vs) rfl (wpAny_pure ?_)))))))
  refine wpAny_bind (HT.slicePart_ ps ?_)
  show wpAny _ _ (if ((-1 : Int) == 0) = true then _ else _) _ _ s
  rw [if_neg (by decide)]
  refine wpAny_bind (HT.slicePart_ .none (wpAny_bind (HT.slicePart_ .none (wpAny_bind (wpAny_pure ?_)))))
  show wpAny _ _ (match Builtin.Slice.sliceAdjust none none (-1) (n : Int) with | (lo, hi) => pure (lo, (-1 : Int), Builtin.Slice.slicePlaces lo hi (-1))) _ _ s
  rw [back_adjust]
  show wpAny _ _ (pure ((n : Int) - 1, (-1 : Int), Builtin.Slice.slicePlaces ((n : Int) - 1) (-1) (-1))) _ _ s
  rw [back_places]
  exact wpAny_pure h
theorem getItem_back {t sl : Addr} {items : Array Value} {vs : Value} {Q : Value → Shared → Prop} (ht : IsTup s.heap t items) (hs : s.heap.IsSliceOf sl .none .none vs) (ps : IsPart vs (some (-1)))
    (h : Q (.ref s.heap.objs.size) { s with heap := s.heap.push { cls := .type "tuple", data := .seq items.toList.reverse.toArray } })
    (hsz : items.size ≤ sizeLine) : wpAny (model prog w) A (getItem (.ref t) (.ref sl)) Q E s := by
  have hok : sizeOk (.seq items.toList.reverse.toArray) := by
    show items.toList.reverse.toArray.size ≤ sizeLine
    rw [List.size_toArray, List.length_reverse, Array.length_toList]
    exact hsz
  obtain ⟨os, hos, hcs, hds⟩ := id hs
  have hTs : s.TypeIs (.ref sl) "slice" := ⟨os, hos, hcs⟩
  unfold getItem
  try with_reducible refine wpAny_holding ?_
  first | refine wpAny_bind (wpAny_pure ?_) | skip
  refine wpAny_bind (wpAny_sequenceKey ht.typeIs (by decide) ?_)
  refine wpAny_bind (wpAny_callSpecial?_slot (name := Str.ofString "__getitem__") ht.typeIs PyProof.Rows.slot_tuple_getitem
    (wpAny_call_entry PyProof.Rows.slot_tuple_getitem ht.typeIs entry_tuple_getitem ?_ (args_tuple_getitem _ _)))
  show wpAny _ _ (Builtin.Tuple.tupleItemsOf (.ref t) >>= _) _ _ s
  refine wpAny_bind (PyProof.Rows.tupleItemsOf_ ht ?_)
  refine wpAny_bind (wpAny_typeOf hTs ?_)
  rw [if_pos (by decide)]
  refine wpAny_bind (back_applied hs ps ?_)
  show wpAny _ _ (if (((items.size : Int) - 1) == 0 && (-1 : Int) == 1 && items.size == items.size) = true then _ else _) _ _ s
  rw [if_neg (by simp), back_pick]
  first
    | exact wpAny_bind (m := Builtin.Tuple.tupleExact _) (wpAny_newObj_type (wpAny_pure ⟨_, rfl, wpAny_pure h⟩) hok)
    | exact wpAny_bind (m := Builtin.Tuple.tupleExact _) (wpAny_newObj_type (wpAny_bind (wpAny_pure (wpAny_pure ⟨_, rfl, wpAny_pure h⟩))) hok)
    | exact wpAny_bind (wpAny_bind (m := Builtin.Tuple.tupleExact _) (wpAny_newObj_type (wpAny_pure (wpAny_pure ⟨_, rfl, wpAny_pure h⟩)) hok))
    | exact wpAny_bind (wpAny_bind (m := Builtin.Tuple.tupleExact _) (wpAny_newObj_type (wpAny_pure ⟨_, rfl, wpAny_pure h⟩) hok))
end
section
variable {X : Cx}
def tBackT (K : PySem.W.Frag) (te : TE) : TE := fun σ H Q => te σ H fun x H1 => ∃ a xs, x = .ref a ∧ SqT K H1 a xs ∧ ∀ p, H1 p = none → Q (.ref p) (upd H1 p (.tup xs.reverse))
theorem pe_backT {e : Expr} {te : TE} {k : Nat} {p1 p2 p3 pos : Pos} (he : PE X e te) : PE X (.Subscript e (.Slice none none (some (.UnaryOp .USub (.Constant (.int 1) k p1) p2)) p3) pos) (tBackT X.K te) := by
  refine ⟨fun pins s σ H Q I h => ?_⟩
  refine Subscript_ (thn (he.run pins s σ H _ I h) fun v s1 ⟨x, H1, I1, r1, a, xs, ex, hx, q⟩ => ?_)
  subst ex
  cases r1
  have hst : PO X (some (.UnaryOp .USub (.Constant (.int 1) k p1) p2)) (tPart (tUn (rU fun i => .int (-i)) (tC (.int 1)))) := po_some (pe_un un_neg pe_int)
  refine wpAny_Slice (thn (po_none.run pins s1 σ H1 (fun o H2 => o = none ∧ H2 = H1) I1 ⟨rfl, rfl⟩) fun vl s2 ⟨l, H2, I2, pl, el, e2⟩ => ?_)
  subst el e2
  refine thn (po_none.run pins s2 σ H2 (fun o H3 => o = none ∧ H3 = H2) I2 ⟨rfl, rfl⟩) fun vu s3 ⟨u, H3, I3, pu, eu, e3⟩ => ?_
  subst eu e3
  refine thn (hst.run pins s3 σ H3 (fun o H4 => o = some (-1) ∧ H4 = H3) I3 ⟨1, rfl, -1, rfl, rfl, rfl⟩) fun vs s4 ⟨o, H4, I4, ps, eo, e4⟩ => ?_
  subst eo e4
  have I5 : Inv X pins σ H4 { s4 with heap := s4.heap.push { cls := .type "slice", data := .fields #[vl, vu, vs] } } := I4.kept (t' := s4.toks) fun b ob q => Heap.get?_push_of_some _ q
  obtain ⟨its, r, ht, hz⟩ := I5.tuple hx
  have hlen := r.length
  cases pl
  cases pu
  show wpAny (model X.prog X.w) X.A (subscriptTail e (.Slice none none (some (.UnaryOp .USub (.Constant (.int 1) k p1) p2)) p3) (.ref a) (.ref s4.heap.objs.size)) (EP X pins σ Q) X.xe { s4 with heap := s4.heap.push { cls := .type "slice", data := .fields #[.none, .none, vs] } }
  refine tail_any (ops := [.ref a, .ref s4.heap.objs.size]) ht.typeIs PyProof.Rows.slot_tuple_getitem.lookup ?_ (by with_unfolding_all rfl)
  refine getItem_back ht (Heap.IsSliceOf.new _ .none .none vs) ps ?_ (by rw [List.size_toArray]; omega)
  refine ⟨.ref _, _, I5.laid (t' := s4.toks) (o := .tup xs.reverse) (fun b ob q => Heap.get?_push_of_some _ q) (Nat.le_refl _) ?_, rfl, q _ (I5.hok.fresh (Nat.le_refl _))⟩
  exact ⟨by rw [List.length_reverse]; exact hz, _, r.reverse, IsTup.new _ _⟩
@[simp] def dBackT (tl : DTE) : DTE := fun E τ S Q => tl E τ S fun d S1 => match d with | .tup xs => Q (.tup xs.reverse) S1 | _ => False
theorem de_backT {e : Expr} {tl : DTE} {k : Nat} {p1 p2 p3 pos : Pos} (hl : DE X e tl) : DE X (.Subscript e (.Slice none none (some (.UnaryOp .USub (.Constant (.int 1) k p1) p2)) p3) pos) (dBackT tl) := by
  refine ⟨fun E E' τ S Q Q' he k q => hl.mono _ _ _ _ _ _ he (fun d S1 z => by cases d <;> first | exact z.elim | exact k _ _ z) q, pE_imp (pe_backT hl.run) fun σ H Q ⟨E, τ, S, w, r, q⟩ => ?_⟩
  refine hl.to w r q fun d S1 x H1 le w1 r1 rd z => ?_
  cases d with
  | tup xs =>
    obtain ⟨a, ys, rfl, sq, rs⟩ : ∃ a ys, x = V.ref a ∧ SqT X.K H1 a ys ∧ RDs X.K H1 xs ys := rd
    exact ⟨a, ys, rfl, sq, fun p hp => z _ _ (le.trans (LeH.new hp)) (r1.rep.garb hp) ⟨p, ys.reverse, rfl, .of upd_same, rs.reverse.le (LeH.new hp)⟩⟩
  | _ => exact z.elim
end
end Dt
set_option maxRecDepth 100000
set_option maxHeartbeats 4000000
namespace L30
open PySem PySem.Spec L2
open Rc
open ShB hiding dSeqWhile_gen
open Sh hiding N_l_cell_at N_l_leaf deeps_mem perm_map_ex r_l_cell_at r_l_leaf sp_l_leaf sp_l_leaf_mono srt_strict t_l_cell_at t_l_leaf
open Dt hiding nkeys sp_l_cell_at sp_l_cell_at_mono
/-! K30p: odd leaves beside right ones: what is a pattern, a leaf. -/
def odd13 : List D := [.tup [.str "stay", .str "a"], .tup [], .str "stay", .rol [.str "stay"], .tup [.str "step", .str "up", .str "a"], .tup [.str "step", .str "on"], .tup [.str "step", .str "on", .str ""], .tup [.str "at", .str "A"], .non,
  .tup [.str "step", .str "on", .str "**"], .tup [.str "at", .str "*"], .tup [.str "off"], .tup [.str "at", .str "ninesigns"]]
def sp_is_leaf_patterns : DSp := fun ds S Q _ => ∃ d, ds = [d] ∧ ((∃ p : Pt, d = ptD p ∧ p.okP Nm ∧ Q (.bl p.isLeaf) S) ∨ (d ∈ odd13 ∧ Q (.bl false) S))
theorem sp_is_leaf_patterns_mono : SpMono sp_is_leaf_patterns := fun ds S Q Q' E E' k _ ⟨d, h1, h⟩ => ⟨d, h1, h.imp (fun ⟨p, a, b, h⟩ => ⟨p, a, b, k _ _ h⟩) fun ⟨a, h⟩ => ⟨a, k _ _ h⟩⟩
def sp_parts_right : DSp := fun ds S Q _ => ∃ d, ds = [d] ∧ ((∃ p : Pt, d = ptD p ∧ p.okP Nm ∧ p.kids.length ≤ 39 ∧ Q (.rol (ptDs p.kids)) S) ∨ (d ∈ odd13 ∧ Q .non S))
theorem sp_parts_right_mono : SpMono sp_parts_right := fun ds S Q Q' E E' k _ ⟨d, h1, h⟩ => ⟨d, h1, h.imp (fun ⟨p, a, b, c, h⟩ => ⟨p, a, b, c, k _ _ h⟩) fun ⟨a, h⟩ => ⟨a, k _ _ h⟩⟩
def sp_is_pattern : DSp := fun ds S Q _ => ∃ d, ds = [d] ∧ ((∃ p : Pt, d = ptD p ∧ p.okP Nm ∧ Pt.few p ∧ p.all.length ≤ 40 ∧ p.deep ≤ 10 ∧ Q (.bl true) S) ∨ (d ∈ odd13 ∧ Q (.bl false) S))
theorem sp_is_pattern_mono : SpMono sp_is_pattern := fun ds S Q Q' E E' k _ ⟨d, h1, h⟩ => ⟨d, h1, h.imp (fun ⟨p, a, b, c, e, f, h⟩ => ⟨p, a, b, c, e, f, k _ _ h⟩) fun ⟨a, h⟩ => ⟨a, k _ _ h⟩⟩
theorem one1 {x a : Str} {S : DH} {Q : DK} {E : DXK} (hx : okS x) (ha : okS a) (h : Q (.bl (decide (x = a))) S) : sp_is_one_of [.str x, .rol [.str a]] S Q E :=
  one_of (l := [a]) hx (by simpa using ha) (by simpa using h)
theorem one2 {x a b : Str} {S : DH} {Q : DK} {E : DXK} (hx : okS x) (ha : okS a) (hb : okS b) (h : Q (.bl (decide (x = a ∨ x = b))) S) : sp_is_one_of [.str x, .rol [.str a, .str b]] S Q E :=
  one_of (l := [a, b]) hx (by simpa using ⟨ha, hb⟩) (by simpa using h)
theorem oneT2 {x a b : Str} {S : DH} {Q : DK} {E : DXK} (hx : okS x) (ha : okS a) (hb : okS b) (h : Q (.bl (decide (x = a ∨ x = b))) S) : sp_is_one_of [.str x, .tup [.str a, .str b]] S Q E :=
  one_ofT (l := [a, b]) hx (by simpa using ⟨ha, hb⟩) (by simpa using h)
theorem word_no {w : Str} {S : DH} {Q : DK} {E : DXK} (hl : w.length ≤ 1000000) (ho : okS w) (hn : nameB w = false) (hs : decide (w = "*") = false) (h : Q (.bl false) S) : sp_is_word [.str w] S Q E := ⟨w, rfl, hl, ho, by rw [hn, hs]; exact h⟩
theorem name_no {w : Str} {S : DH} {Q : DK} {E : DXK} (hl : w.length ≤ 1000000) (hn : nameB w = false) (h : Q (.bl false) S) : sp_is_name [.str w] S Q E := ⟨w, rfl, hl, by rw [hn]; exact h⟩
def t_is_leaf_patterns : DTS := (dSeq (dIf (dOr (dNot (dTest (dIsi "tuple" (dVar 0)))) (dTest (dOp (dEq false) (dCB cLen (dCons (dVar 0) dNil)) (dC (.int 0)))))
      (dRet (dC (.bl false)))
      dNx)
    (dSeq (dIf (dTest (dCall sp_is_one_of (dCons (dOp dIxS (dVar 0) (dC (.int 0))) (dCons (dLstF (dCons (dC (.str "stay")) dNil)) dNil))))
      (dRet (dOp (dEq false) (dCB cLen (dCons (dVar 0) dNil)) (dC (.int 1))))
      dNx)
    (dSeq (dIf (dTest (dCall sp_is_one_of (dCons (dOp dIxS (dVar 0) (dC (.int 0))) (dCons (dLstF (dCons (dC (.str "step")) dNil)) dNil))))
      (dRet (dAndV (dOp (dEq false) (dCB cLen (dCons (dVar 0) dNil)) (dC (.int 3))) (dAndV (dCall sp_is_one_of (dCons (dOp dIxS (dVar 0) (dC (.int 1))) (dCons (dC (.tup [.str "on", .str "back"])) dNil))) (dCall sp_is_word (dCons (dOp dIxS (dVar 0) (dC (.int 2))) dNil)))))
      dNx)
    (dRet (dAndV (dCall sp_is_one_of (dCons (dOp dIxS (dVar 0) (dC (.int 0))) (dCons (dLstF (dCons (dC (.str "at")) (dCons (dC (.str "off")) dNil))) dNil))) (dAndV (dOp (dEq false) (dCB cLen (dCons (dVar 0) dNil)) (dC (.int 2))) (dCall sp_is_name (dCons (dOp dIxS (dVar 0) (dC (.int 1))) dNil))))))))
abbrev N_is_leaf_patterns : List Str := ["thing"]
def t_parts_right : DTS := (dSeq (dIf (dTest (dCall sp_is_leaf_patterns (dCons (dVar 0) dNil)))
      (dRet (dLstF dNil))
      dNx)
    (dSeq (dIf (dOr (dNot (dTest (dIsi "tuple" (dVar 0)))) (dTest (dOp (dEq true) (dCB cLen (dCons (dVar 0) dNil)) (dC (.int 2)))))
      (dRet (dC .non))
      dNx)
    (dSeq (dIf (dTest (dCall sp_is_one_of (dCons (dOp dIxS (dVar 0) (dC (.int 0))) (dCons (dLstF (dCons (dC (.str "many")) dNil)) dNil))))
      (dRet (dLstF (dCons (dOp dIxS (dVar 0) (dC (.int 1))) dNil)))
      dNx)
    (dSeq (dIf (dOr (dNot (dTest (dCall sp_is_one_of (dCons (dOp dIxS (dVar 0) (dC (.int 0))) (dCons (dLstF (dCons (dC (.str "then")) (dCons (dC (.str "either")) dNil))) dNil))))) (dNot (dTest (dIsi "tuple" (dOp dIxS (dVar 0) (dC (.int 1)))))))
      (dRet (dC .non))
      dNx)
    (dSeq (dIf (dTest (dOp rGt (dCB cLen (dCons (dOp dIxS (dVar 0) (dC (.int 1))) dNil)) (dC (.int 39))))
      (dRet (dC .non))
      dNx)
    (dRet (dCB cListAF (dCons (dOp dIxS (dVar 0) (dC (.int 1))) dNil))))))))
abbrev N_parts_right : List Str := ["thing"]
def t_is_pattern : DTS := (dSeq (dAsg (dLst (dCons (dTup (dCons (dVar 0) (dCons (dC (.int 1)) dNil))) dNil)) (dGN 1))
    (dSeq (dAsg (dC (.int 0)) (dGN 2))
    (dSeq (dWhile (dTest (dOp rGt (dCB cLen (dCons (dVar 1) dNil)) (dC (.int 0))))
      (dSeq (dAsg (dBM "list" mPop (dVar 1) dNil) (dGTupA 2 (dGCons (dGN 3) (dGCons (dGN 4) dGNil))))
    (dSeq (dAsg (dOp dAddF (dVar 2) (dC (.int 1))) (dGN 2))
    (dSeq (dAsg (dCall sp_parts_right (dCons (dVar 3) dNil)) (dGN 5))
    (dSeq (dIf (dOr (dTest (dOp (dIsN false) (dVar 5) (dC .non))) (dOr (dTest (dOp rGt (dVar 4) (dC (.int 10)))) (dTest (dOp rGt (dVar 2) (dC (.int 40))))))
      (dRet (dC (.bl false)))
      dNx)
    (dDrop (dBM "list" mExtend (dVar 1) (dCons (dFz (dLc (dSeqI (dVar 5)) (dGN 6) dYes (dTup (dCons (dVar 6) (dCons (dOp dAddF (dVar 4) (dC (.int 1))) dNil))) [6])) dNil))))))))
    (dRet (dC (.bl true))))))
abbrev N_is_pattern : List Str := ["thing", "left", "count", "part", "deep", "some", "one"]
theorem r_is_leaf_patterns (ds S Q E) (h : sp_is_leaf_patterns ds S Q E) : t_is_leaf_patterns (dEnd Q E) (dstart N_is_leaf_patterns ds) S := by
  obtain ⟨d, rfl, h⟩ := h
  rcases h with ⟨p, rfl, ho, h⟩ | ⟨hd, h⟩
  case inr =>
    simp only [odd13, List.mem_cons, List.not_mem_nil, or_false] at hd
    rcases hd with rfl | rfl | rfl | rfl | rfl | rfl | rfl | rfl | rfl | rfl | rfl | rfl | rfl
    all_goals
      simp [t_is_leaf_patterns, dstart, tyName]
      try exact .same h
      repeat' first
        | exact .same h
        | (refine one1 (by unfold okS; decide +kernel) (by unfold okS; decide +kernel) ?_; simp)
        | (refine one2 (by unfold okS; decide +kernel) (by unfold okS; decide +kernel) (by unfold okS; decide +kernel) ?_; simp)
        | (refine oneT2 (by unfold okS; decide +kernel) (by unfold okS; decide +kernel) (by unfold okS; decide +kernel) ?_; simp)
        | refine word_no (by decide +kernel) (by unfold okS; decide +kernel) (by decide +kernel) (by decide +kernel) ?_
        | refine name_no (by decide +kernel) (by decide +kernel) ?_
  have hs := ho _ (Pt.self_all p)
  obtain ⟨o1, o2, o3, o4, o5, o6, o7, o8, o9⟩ := okS_lit
  have m1 : ∀ y ∈ ([Str.ofString "stay"] : List Str), okS y := by simpa using o1
  have m2 : ∀ y ∈ ([Str.ofString "step"] : List Str), okS y := by simpa using o2
  have m3 : ∀ y ∈ ([Str.ofString "at", Str.ofString "off"] : List Str), okS y := by simpa using ⟨o3, o4⟩
  have m4 : ∀ y ∈ ([Str.ofString "on", Str.ofString "back"] : List Str), okS y := by simpa using ⟨o5, o6⟩
  unfold t_is_leaf_patterns
  cases p with
  | stay =>
    simp [dstart, ptD]
    refine one_of (l := [Str.ofString "stay"]) o1 m1 ?_
    simp
    exact .same h
  | step b w =>
    have hw : okS w ∧ w.length ≤ 1000000 ∧ (nameB w || decide (w = "*")) = true := by
      rcases hs with rfl | hs
      · exact ⟨okS_star, by decide +kernel, by decide +kernel⟩
      · exact ⟨nm_ok hs, by have := hs.2.1; omega, by rw [nameB_of hs]; rfl⟩
    simp [dstart, ptD]
    refine one_of (l := [Str.ofString "stay"]) o2 m1 ?_
    simp
    refine one_of (l := [Str.ofString "step"]) o2 m2 ?_
    simp
    refine one_ofT (l := [Str.ofString "on", Str.ofString "back"]) (by cases b <;> assumption) m4 ?_
    cases b
    all_goals
      simp
      refine ⟨w, rfl, hw.2.1, hw.1, ?_⟩
      rw [hw.2.2]
      exact .same h
  | mark b m =>
    have hs' : Nm m := hs
    simp [dstart, ptD]
    refine one_of (l := [Str.ofString "stay"]) (by cases b <;> assumption) m1 ?_
    cases b
    all_goals
      simp
      refine one_of (l := [Str.ofString "step"]) (by assumption) m2 ?_
      simp
      refine one_of (l := [Str.ofString "at", Str.ofString "off"]) (by assumption) m3 ?_
      simp
      refine ⟨m, rfl, by have := hs'.2.1; omega, ?_⟩
      rw [nameB_of hs']
      exact .same h
  | seq b ps =>
    simp [dstart, ptD]
    refine one_of (l := [Str.ofString "stay"]) (by cases b <;> assumption) m1 ?_
    cases b
    all_goals
      simp
      refine one_of (l := [Str.ofString "step"]) (by assumption) m2 ?_
      simp
      refine one_of (l := [Str.ofString "at", Str.ofString "off"]) (by assumption) m3 ?_
      simp
      exact .same h
  | many p =>
    simp [dstart, ptD]
    refine one_of (l := [Str.ofString "stay"]) (by assumption) m1 ?_
    simp
    refine one_of (l := [Str.ofString "step"]) (by assumption) m2 ?_
    simp
    refine one_of (l := [Str.ofString "at", Str.ofString "off"]) (by assumption) m3 ?_
    simp
    exact .same h
theorem r_parts_right (ds S Q E) (h : sp_parts_right ds S Q E) : t_parts_right (dEnd Q E) (dstart N_parts_right ds) S := by
  obtain ⟨d, rfl, h⟩ := h
  rcases h with ⟨p, rfl, ho, hk, h⟩ | ⟨hd, h⟩
  case inr =>
    unfold t_parts_right
    refine dSeqIf_gen fun A B R hA hB hR => ?_
    simp [dstart]
    refine ⟨d, rfl, .inr ⟨hd, ?_⟩⟩
    simp
    subst hB
    simp
    subst hR
    simp only [odd13, List.mem_cons, List.not_mem_nil, or_false] at hd
    rcases hd with rfl | rfl | rfl | rfl | rfl | rfl | rfl | rfl | rfl | rfl | rfl | rfl | rfl
    all_goals
      simp [tyName]
      try exact .same h
      repeat' first
        | exact .same h
        | (refine one1 (by unfold okS; decide +kernel) (by unfold okS; decide +kernel) ?_; simp)
        | (refine one2 (by unfold okS; decide +kernel) (by unfold okS; decide +kernel) (by unfold okS; decide +kernel) ?_; simp)
  obtain ⟨o1, o2, o3, o4, o5, o6, o7, o8, o9⟩ := okS_lit
  have m1 : ∀ y ∈ ([Str.ofString "many"] : List Str), okS y := by simpa using o7
  have m3 : ∀ y ∈ ([Str.ofString "then", Str.ofString "either"] : List Str), okS y := by simpa using ⟨o8, o9⟩
  unfold t_parts_right
  refine dSeqIf_gen fun A B R hA hB hR => ?_
  simp [dstart]
  refine ⟨_, rfl, .inl ⟨p, rfl, ho, ?_⟩⟩
  cases hl : p.isLeaf
  · simp
    subst hB
    simp
    subst hR
    cases p with
    | seq b ps =>
      have hk' : ps.length ≤ 39 := hk
      simp [ptD]
      refine one_of (l := [Str.ofString "many"]) (by cases b <;> assumption) m1 ?_
      cases b
      all_goals
        simp
        refine one_of (l := [Str.ofString "then", Str.ofString "either"]) (by assumption) m3 ?_
        simp [ptDs_len]
        rw [if_neg (by omega)]
        exact .same h
    | many p =>
      simp [ptD]
      refine one_of (l := [Str.ofString "many"]) (by assumption) m1 ?_
      simp
      exact .same h
    | _ => simp [Pt.isLeaf] at hl
  · simp
    subst hA
    simp
    cases p <;> simp [Pt.isLeaf] at hl <;> exact .same h
theorem r_is_pattern (ds S Q E) (h : sp_is_pattern ds S Q E) : t_is_pattern (dEnd Q E) (dstart N_is_pattern ds) S := by
  obtain ⟨d, rfl, h⟩ := h
  rcases h with ⟨p, rfl, ho, hf, h40, h10, h⟩ | ⟨hd, h⟩
  case inr =>
    unfold t_is_pattern
    refine dSeq_gen fun R hR => ?_
    simp [dstart]
    intro l hl
    subst hR
    refine dSeq_gen fun R hR => ?_
    simp
    subst hR
    refine dSeqWhile_gen fun B R hB hR => ?_
    refine while_inv (fun τ S' => S' = upo S l (.lst [.tup [d, .int 1]]) ∧ τ = [some d, some (.ref l), some (.int 0), none, none, none, none]) (fun _ _ => 0) ⟨rfl, rfl⟩ ?_
    rintro τ S2 N ⟨rfl, rfl⟩ hN
    simp
    subst hB
    refine dSeq_gen fun R' hR' => ?_
    simp
    subst hR'
    refine dSeq_gen fun R' hR' => ?_
    simp
    subst hR'
    refine dSeq_gen fun R' hR' => ?_
    simp
    refine ⟨d, rfl, .inr ⟨hd, ?_⟩⟩
    subst hR'
    refine dSeqIf_gen fun A B R' hA hB hR' => ?_
    simp
    subst hA
    simp
    exact .keep (S := S) (Sub.new hl) h
  unfold t_is_pattern
  refine dSeq_gen fun R hR => ?_
  simp [dstart]
  intro l hl
  subst hR
  refine dSeq_gen fun R hR => ?_
  simp
  subst hR
  refine dSeqWhile_gen fun B R hB hR => ?_
  refine while_inv (fun τ S' => ∃ (L : List (Pt × Nat)) (c : Nat) (x3 x4 x5 x6 : Option D), τ = [some (ptD p), some (.ref l), some (.int (c : Nat)), x3, x4, x5, x6] ∧ S' = upo S l (.lst (L.map fun e => .tup [ptD e.1, .int (e.2 : Nat)])) ∧
      c + (L.flatMap fun e => e.1.all).length = p.all.length ∧ ∀ e ∈ L, e.1.okP Nm ∧ Pt.few e.1 ∧ e.2 + e.1.deep ≤ 11)
    (fun (τ : DSt) _ => match τ[2]? with | some (some (D.int j)) => (200000 - j).toNat | _ => 0) ⟨[(p, 1)], 0, none, none, none, none, rfl, rfl, by simp, by simp; exact ⟨ho, hf, by omega⟩⟩ ?_
  rintro τ S2 N ⟨L, c, x3, x4, x5, x6, rfl, rfl, hc, hL⟩ hN
  rcases List.eq_nil_or_concat L with rfl | ⟨L0, ⟨t, dp⟩, rfl⟩
  · simp
    subst hR
    simp
    exact .keep (S := S) (Sub.new hl) h
  · have hte := hL (t, dp) (by simp)
    have htk : t.kids.length ≤ 39 := hte.2.1 t (Pt.self_all t)
    simp
    subst hB
    refine dSeq_gen fun R' hR' => ?_
    simp
    subst hR'
    refine dSeq_gen fun R' hR' => ?_
    simp
    subst hR'
    refine dSeq_gen fun R' hR' => ?_
    simp
    refine ⟨_, rfl, .inl ⟨t, rfl, hte.1, htk, ?_⟩⟩
    subst hR'
    refine dSeqIf_gen fun A B R' hA hB hR' => ?_
    have hlen : c + 1 + ((L0.flatMap fun e => e.1.all).length + (t.all.length - 1)) = p.all.length := by
      have := Pt.all_pos t
      have e1 : ([(t, dp)].flatMap fun e : Pt × Nat => e.1.all).length = t.all.length := by simp
      rw [List.concat_eq_append, List.flatMap_append, List.length_append, e1] at hc
      omega
    have hdd : dp ≤ 10 := by
      have h1 := hte.2.2
      have h2 : 1 ≤ t.deep := by cases t <;> simp [Pt.deep]
      simp at h1
      omega
    simp
    rw [if_neg (by omega), if_neg (by omega)]
    subst hB
    simp
    subst hR'
    have hk : (t.kids.flatMap Pt.all).length + 1 = t.all.length := by rw [Pt.all_kids t]; simp
    simp
    refine lcF_map (G := fun _ => True) (fun d => .tup [d, .int ((dp : Int) + 1)]) (fun _ _ _ => trivial) (fun d hd acc p N hp hl hN => ?_) (by rw [ptDs_len]; exact Nat.lt_of_le_of_lt htk (by decide)) ?_
    · simp
      exact ⟨by simpa using hl, hN⟩
    · simp
      have hpl : p.all.length ≤ 40 := h40
      have hL0 : L0.length ≤ 40 := by
        have : ∀ M : List (Pt × Nat), M.length ≤ (M.flatMap fun e => e.1.all).length := fun M => by
          induction M with
          | nil => simp
          | cons e M ih => rw [List.flatMap_cons, List.length_append, List.length_cons]; have := Pt.all_pos e.1; omega
        have := this L0
        omega
      have hkid : ∀ (ks : List Pt) (m : Nat), ((ks.map fun k => (k, m)).flatMap fun e : Pt × Nat => e.1.all) = ks.flatMap Pt.all := fun ks m => by
        rw [List.flatMap_map]
      refine ⟨by rw [ptDs_len]; omega, hN _ _ ⟨L0 ++ t.kids.map fun k => (k, dp + 1), c + 1, _, _, _, _, rfl, ?_, ?_, fun e he => ?_⟩ ?_⟩
      · congr 2
        rw [List.map_append, ptDs_map]
        simp
      · rw [List.flatMap_append, hkid, List.length_append]
        omega
      · rcases List.mem_append.mp he with he | he
        · exact hL e (by rw [List.concat_eq_append]; exact List.mem_append_left _ he)
        · obtain ⟨k, hk1, rfl⟩ := List.mem_map.mp he
          refine ⟨okP_kids hte.1 hk1, fun r hr => hte.2.1 r (by rw [Pt.all_kids]; exact List.mem_cons_of_mem _ (List.mem_flatMap.mpr ⟨k, hk1, hr⟩)), ?_⟩
          have := hte.2.2
          have h3 : k.deep + 1 ≤ t.deep := kid_deep hk1
          simp at this ⊢
          omega
      · simp
        omega
end L30
set_option maxRecDepth 100000
set_option maxHeartbeats 4000000
namespace L30
open PySem PySem.Spec L2
open Rc
open ShB hiding dSeqWhile_gen
open Sh hiding N_l_cell_at N_l_leaf deeps_mem perm_map_ex r_l_cell_at r_l_leaf sp_l_leaf sp_l_leaf_mono srt_strict t_l_cell_at t_l_leaf
open Dt hiding nkeys sp_l_cell_at sp_l_cell_at_mono
/-! K30q: the program's look at machines. -/
def LfD (d : D) : Prop := ∃ p : Pt, p.isLeaf = true ∧ p.okP Nm ∧ d = ptD p
/-- a leaf, or an odd thing in its place -/
def LfT (d : D) : Prop := LfD d ∨ d ∈ odd13 ∨ d = ptD (.seq true []) ∨ d = ptD (.many .stay)
def stN (d : D) (n : Int) : Prop := ∃ i : Int, d = .int i ∧ 0 ≤ i ∧ i < n
def MvN (d : D) (n : Int) : Prop := ∃ a p b, d = .tup [a, p, b] ∧ stN a n ∧ LfD p ∧ stN b n
def MoT (d : D) : Prop := imm d = true ∧ ((∀ a p b, d ≠ .tup [a, p, b]) ∨ ∃ a p b, d = .tup [a, p, b] ∧ imm a = true ∧ LfT p ∧ imm b = true)
theorem nm_no : ¬ Nm (Str.ofString "") ∧ ¬ Nm (Str.ofString "**") ∧ ¬ Nm (Str.ofString "A") ∧ ¬ Nm (Str.ofString "*") ∧ ¬ Nm (Str.ofString "ninesigns") := by
  have key : ∀ {w : Str}, nameB w = false → ¬ Nm w := fun {w} h n => by rw [nameB_of n] at h; cases h
  exact ⟨key (by decide +kernel), key (by decide +kernel), key (by decide +kernel), key (by decide +kernel), key (by decide +kernel)⟩
theorem odd_no {d : D} (hd : d ∈ odd13) : ¬ LfD d := by
  obtain ⟨n1, n2, n3, n4, n5⟩ := nm_no
  rintro ⟨p, lf, ok, e⟩
  have ok1 := ok _ (Pt.self_all p)
  have s1 : ¬ (Str.ofString "" = Str.ofString "*") := by decide +kernel
  have s2 : ¬ (Str.ofString "**" = Str.ofString "*") := by decide +kernel
  simp only [odd13, List.mem_cons, List.not_mem_nil, or_false] at hd
  rcases hd with rfl | rfl | rfl | rfl | rfl | rfl | rfl | rfl | rfl | rfl | rfl | rfl | rfl <;> cases p with
    | stay => simp [ptD] at e
    | step b w =>
      cases b <;> simp [ptD] at e
      all_goals
        try (obtain rfl := e
             first
              | exact ok1.elim s1 n1
              | exact ok1.elim s2 n2)
    | mark b w =>
      cases b <;> simp [ptD] at e
      all_goals
        try (obtain rfl := e
             first
              | exact n3 ok1
              | exact n4 ok1
              | exact n5 ok1)
    | many q => cases lf
    | seq b q => cases lf
def hdD (d : D) : D := match d with | .tup (x :: _) => x | _ => .non
theorem pt_no {q : Pt} (h : q.isLeaf = false) : ¬ LfD (ptD q) := by
  rintro ⟨p, lf, ok, e⟩
  have e := congrArg hdD e
  have hp : hdD (ptD p) = .str "stay" ∨ hdD (ptD p) = .str "step" ∨ hdD (ptD p) = .str "at" ∨ hdD (ptD p) = .str "off" := by
    cases p with
    | stay => exact .inl rfl
    | step b w => exact .inr (.inl rfl)
    | mark b w => cases b <;> simp [ptD, hdD]
    | many q => cases lf
    | seq b q => cases lf
  have hq : hdD (ptD q) = .str "many" ∨ hdD (ptD q) = .str "then" ∨ hdD (ptD q) = .str "either" := by
    cases q with
    | stay => cases h
    | step _ _ => cases h
    | mark _ _ => cases h
    | many q => exact .inl rfl
    | seq b q => cases b <;> simp [ptD, hdD]
  rw [e] at hq
  rcases hp with z | z | z | z <;> rw [z] at hq <;> simp at hq
/-- plain data that may be compared -/
structure Fine (d : D) : Prop where
  im : imm d = true
  lay : (toP d).canLay0 = true
  dp : dep d ≤ 20
theorem fines {ds : List D} (h : ∀ x ∈ ds, Fine x) : imms ds = true ∧ PyData.canLayAll0 (toPs ds) = true ∧ deps ds ≤ 20 := by
  induction ds with
  | nil => exact ⟨rfl, rfl, Nat.zero_le _⟩
  | cons a ds ih =>
    obtain ⟨h1, h2, h3⟩ := ih fun x hx => h x (List.mem_cons_of_mem _ hx)
    have ha := h a (List.mem_cons_self ..)
    refine ⟨?_, ?_, ?_⟩
    · show (imm a && imms ds) = true
      rw [ha.im, h1]
      rfl
    · show ((toP a).canLay0 && PyData.canLayAll0 (toPs ds)) = true
      rw [ha.lay, h2]
      rfl
    · show max (dep a) (deps ds) ≤ 20
      have := ha.dp
      omega
theorem dEq_nilF {neg : Bool} {ds : List D} {S : DH} {Q : DK} (h : ∀ x ∈ ds, Fine x) (q : Q (.bl (if neg then !ds.isEmpty else ds.isEmpty)) S) : dEq neg (.rol ds) (.rol []) S Q := by
  obtain ⟨h1, h2, h3⟩ := fines h
  show dEqG neg (.rol ds) (.rol []) S Q
  refine ⟨toP (.rol ds), toP (.rol []), imm_pd S _ h1, imm_pd S _ rfl, ?_, by rfl, ?_⟩
  · unfold SeqAt.shaped
    rw [dep_P]
    have e : (toP (.rol ds)).canLay0 = true := h2
    rw [e, decide_eq_true (show dep (.rol ds) ≤ 64 from by show deps ds + 1 ≤ 64; omega)]
    rfl
  · cases ds with
    | nil => exact q
    | cons a ds => exact q
def sp_is_whole : DSp := fun ds S Q _ => ∃ (d : D) (a b : Int), ds = [d, .int a, .int b] ∧ imm d = true ∧ ∀ r : Bool, (r = true ↔ ∃ i : Int, d = .int i ∧ a ≤ i ∧ i ≤ b) → Q (.bl r) S
theorem sp_is_whole_mono : SpMono sp_is_whole := fun ds S Q Q' E E' k _ ⟨d, a, b, h1, h2, h⟩ => ⟨d, a, b, h1, h2, fun r z => k _ _ (h r z)⟩
def sp_is_leaf_machines : DSp := fun ds S Q _ => ∃ (d : D), ds = [d] ∧ LfT d ∧ ∀ r : Bool, (r = true ↔ LfD d) → Q (.bl r) S
theorem sp_is_leaf_machines_mono : SpMono sp_is_leaf_machines := fun ds S Q Q' E E' k _ ⟨d, h1, h2, h⟩ => ⟨d, h1, h2, fun r z => k _ _ (h r z)⟩
def sp_is_move : DSp := fun ds S Q _ => ∃ (d : D) (n : Int), ds = [d, .int n] ∧ MoT d ∧ ∀ r : Bool, (r = true ↔ MvN d (n + 1)) → Q (.bl r) S
theorem sp_is_move_mono : SpMono sp_is_move := fun ds S Q Q' E E' k _ ⟨d, n, h1, h2, h⟩ => ⟨d, n, h1, h2, fun r z => k _ _ (h r z)⟩
def sp_rises : DSp := fun ds S Q _ => ∃ (xs : List D) (t : Ty), ds = [.tup xs] ∧ (∀ x ∈ xs, hasTy t x = true) ∧ tyDep t ≤ 50 ∧ xs.length ≤ 1000 ∧ ∀ r : Bool, (r = true ↔ xs.Pairwise fun x y => ltD x y = true) → Q (.bl r) S
theorem sp_rises_mono : SpMono sp_rises := fun ds S Q Q' E E' k _ ⟨xs, t, h1, h2, h3, h4, h⟩ => ⟨xs, t, h1, h2, h3, h4, fun r z => k _ _ (h r z)⟩
/-- neighbours tell of all -/
theorem pairs_next {xs : List D} (h : ∀ i a b, xs[i]? = some a → xs[i + 1]? = some b → ltD a b = true) : xs.Pairwise fun x y => ltD x y = true := by
  induction xs with
  | nil => exact .nil
  | cons a xs ih =>
    have ih := ih fun i u v hu hv => h (i + 1) u v (by simpa using hu) (by simpa using hv)
    refine List.pairwise_cons.mpr ⟨fun y hy => ?_, ih⟩
    cases xs with
    | nil => cases hy
    | cons b xs =>
      have hab := h 0 a b rfl rfl
      rcases List.mem_cons.mp hy with rfl | hy
      · exact hab
      · exact ltD_trans hab ((List.pairwise_cons.mp ih).1 y hy)
theorem pairs_get {xs : List D} (h : xs.Pairwise fun x y => ltD x y = true) {i : Nat} {a b : D} (ha : xs[i]? = some a) (hb : xs[i + 1]? = some b) : ltD a b = true := by
  obtain ⟨h1, e1⟩ := List.getElem?_eq_some_iff.mp ha
  obtain ⟨h2, e2⟩ := List.getElem?_eq_some_iff.mp hb
  have := List.pairwise_iff_getElem.mp h i (i + 1) h1 h2 (Nat.lt_succ_self _)
  rw [e1, e2] at this
  exact this
def t_is_whole : DTS := (dRet (dAndV (dIsi "int" (dVar 0)) (dAndV (dNotV (dIsi "bool" (dVar 0))) (dChain rLe rLe (dVar 1) (dVar 0) (dVar 2)))))
abbrev N_is_whole : List Str := ["thing", "least", "most"]
def t_rises : DTS := (dSeq (dFor (dRng1 (dCons (dOp rSub (dCB cLen (dCons (dVar 0) dNil)) (dC (.int 1))) dNil)) (dGN 1)
      (dIf (dNot (dTest (dOp (rOrd false) (dOp dIxS (dVar 0) (dVar 1)) (dOp dIxS (dVar 0) (dOp dAddF (dVar 1) (dC (.int 1)))))))
      (dRet (dC (.bl false)))
      dNx))
    (dRet (dC (.bl true))))
abbrev N_rises : List Str := ["things", "place"]
def t_is_leaf_machines : DTS := (dRet (dAndV (dCall sp_is_pattern (dCons (dVar 0) dNil)) (dOp (dIn false) (dOp dIxS (dVar 0) (dC (.int 0))) (dC (.tup [.str "stay", .str "step", .str "at", .str "off"])))))
abbrev N_is_leaf_machines : List Str := ["thing"]
def t_is_move : DTS := (dSeq (dIf (dOr (dNot (dTest (dIsi "tuple" (dVar 0)))) (dTest (dOp (dEq true) (dCB cLen (dCons (dVar 0) dNil)) (dC (.int 3)))))
      (dRet (dC (.bl false)))
      dNx)
    (dRet (dAndV (dCall sp_is_whole (dCons (dOp dIxS (dVar 0) (dC (.int 0))) (dCons (dC (.int 0)) (dCons (dVar 1) dNil)))) (dAndV (dCall sp_is_leaf_machines (dCons (dOp dIxS (dVar 0) (dC (.int 1))) dNil)) (dCall sp_is_whole (dCons (dOp dIxS (dVar 0) (dC (.int 2))) (dCons (dC (.int 0)) (dCons (dVar 1) dNil))))))))
abbrev N_is_move : List Str := ["thing", "last"]
theorem r_is_whole (ds S Q E) (h : sp_is_whole ds S Q E) : t_is_whole (dEnd Q E) (dstart N_is_whole ds) S := by
  obtain ⟨d, a, b, rfl, hi, h⟩ := h
  unfold t_is_whole
  cases d with
  | ref _ => cases hi
  | int i =>
    simp [dstart, tyName]
    by_cases c : a ≤ i
    · rw [if_pos c]
      exact .same (h _ (by simp [c]))
    · rw [if_neg c]
      exact .same (h _ (by simp [c]))
  | _ =>
    simp [dstart, tyName]
    exact .same (h false (by simp))
theorem r_is_leaf_machines (ds S Q E) (h : sp_is_leaf_machines ds S Q E) : t_is_leaf_machines (dEnd Q E) (dstart N_is_leaf_machines ds) S := by
  obtain ⟨d, rfl, ht, h⟩ := h
  have j1 : inF (D.str (Str.ofString "stay")) [D.str (Str.ofString "stay"), D.str (Str.ofString "step"), D.str (Str.ofString "at"), D.str (Str.ofString "off")] = true := by decide +kernel
  have j2 : inF (D.str (Str.ofString "step")) [D.str (Str.ofString "stay"), D.str (Str.ofString "step"), D.str (Str.ofString "at"), D.str (Str.ofString "off")] = true := by decide +kernel
  have j3 : inF (D.str (Str.ofString "at")) [D.str (Str.ofString "stay"), D.str (Str.ofString "step"), D.str (Str.ofString "at"), D.str (Str.ofString "off")] = true := by decide +kernel
  have j4 : inF (D.str (Str.ofString "off")) [D.str (Str.ofString "stay"), D.str (Str.ofString "step"), D.str (Str.ofString "at"), D.str (Str.ofString "off")] = true := by decide +kernel
  have j5 : inF (D.str (Str.ofString "then")) [D.str (Str.ofString "stay"), D.str (Str.ofString "step"), D.str (Str.ofString "at"), D.str (Str.ofString "off")] = false := by decide +kernel
  have j6 : inF (D.str (Str.ofString "many")) [D.str (Str.ofString "stay"), D.str (Str.ofString "step"), D.str (Str.ofString "at"), D.str (Str.ofString "off")] = false := by decide +kernel
  unfold t_is_leaf_machines
  rcases ht with ⟨p, lf, ok, rfl⟩ | hd | rfl | rfl
  · have hr := h true ⟨fun _ => ⟨p, lf, ok, rfl⟩, fun _ => rfl⟩
    simp [dstart]
    refine ⟨_, rfl, .inl ⟨p, rfl, ok, ?_, ?_, ?_, ?_⟩⟩
    · intro q hq
      cases p <;> first | (simp [Pt.all, Pt.alls] at hq; subst hq; simp [Pt.kids]; done) | cases lf
    · cases p <;> first | (simp [Pt.all]; done) | cases lf
    · cases p <;> first | (simp [Pt.deep]; done) | cases lf
    · cases p with
      | stay => simp [ptD, j1]; exact .same hr
      | step b w => simp [ptD, j2]; exact .same hr
      | mark b w => cases b <;> simp [ptD, j3, j4] <;> exact .same hr
      | many q => cases lf
      | seq b q => cases lf
  · have hr := h false ⟨fun z => (by cases z), fun z => absurd z (odd_no hd)⟩
    simp [dstart]
    exact ⟨d, rfl, .inr ⟨hd, .same hr⟩⟩
  · have hr := h false ⟨fun z => (by cases z), fun z => absurd z (pt_no rfl)⟩
    simp [dstart]
    refine ⟨_, rfl, .inl ⟨.seq true [], rfl, ?_, ?_, by decide, by decide, ?_⟩⟩
    · intro q hq
      simp [Pt.all, Pt.alls] at hq
      subst hq
      trivial
    · intro q hq
      simp [Pt.all, Pt.alls] at hq
      subst hq
      simp [Pt.kids]
    · simp [ptD, j5]
      exact .same hr
  · have hr := h false ⟨fun z => (by cases z), fun z => absurd z (pt_no rfl)⟩
    simp [dstart]
    refine ⟨_, rfl, .inl ⟨.many .stay, rfl, ?_, ?_, by decide, by decide, ?_⟩⟩
    · intro q hq
      simp [Pt.all, Pt.alls] at hq
      rcases hq with rfl | rfl <;> trivial
    · intro q hq
      simp [Pt.all, Pt.alls] at hq
      rcases hq with rfl | rfl <;> simp [Pt.kids]
    · simp [ptD, j6]
      exact .same hr
theorem r_is_move (ds S Q E) (h : sp_is_move ds S Q E) : t_is_move (dEnd Q E) (dstart N_is_move ds) S := by
  obtain ⟨d, n, rfl, ⟨hi, hd⟩, h⟩ := h
  unfold t_is_move
  refine dSeqIf_gen fun A B R hA hB hR => ?_
  rcases hd with hd | ⟨a, p, b, rfl, ha, hp, hb⟩
  · have hr : ∀ r : Bool, r = false → Q (.bl r) S := fun r e => h r (by rw [e]; simp; rintro ⟨a, p, b, e, _⟩; exact hd a p b e)
    cases d with
    | ref _ => cases hi
    | tup xs =>
      simp [dstart, tyName]
      rw [if_neg (fun e => by
        match xs, e with
        | [a, p, b], _ => exact hd a p b rfl)]
      subst hA
      simp
      exact .same (hr false rfl)
    | _ =>
      simp [dstart, tyName]
      subst hA
      simp
      exact .same (hr false rfl)
  · simp [dstart, tyName]
    subst hB
    simp
    subst hR
    simp
    refine ⟨a, 0, n, rfl, ha, fun r1 h1 => ?_⟩
    dsimp only
    cases r1 with
    | false =>
      simp
      exact .same (h false ⟨fun z => (by cases z), fun ⟨a', p', b', e, ⟨i, ei, i0, i1⟩, _⟩ => by
        cases e
        exact absurd (h1.mpr ⟨i, ei, i0, by omega⟩) (by simp)⟩)
    | true =>
      simp
      refine ⟨p, rfl, hp, fun r2 h2 => ?_⟩
      dsimp only
      cases r2 with
      | false =>
        simp
        exact .same (h false ⟨fun z => (by cases z), fun ⟨a', p', b', e, _, l, _⟩ => by
          cases e
          exact absurd (h2.mpr l) (by simp)⟩)
      | true =>
        simp
        refine ⟨b, 0, n, rfl, hb, fun r3 h3 => .same (h r3 ?_)⟩
        rw [h3]
        obtain ⟨i, ei, i0, i1⟩ := h1.mp rfl
        constructor
        · rintro ⟨j, ej, j0, j1⟩
          exact ⟨a, p, b, rfl, ⟨i, ei, i0, by omega⟩, h2.mp rfl, ⟨j, ej, j0, by omega⟩⟩
        · rintro ⟨a', p', b', e, _, _, ⟨j, ej, j0, j1⟩⟩
          cases e
          exact ⟨j, ej, j0, by omega⟩
theorem r_rises (ds S Q E) (h : sp_rises ds S Q E) : t_rises (dEnd Q E) (dstart N_rises ds) S := by
  obtain ⟨xs, t, rfl, ht, hdp, hl, h⟩ := h
  unfold t_rises
  refine dSeqFor_gen fun B R hB hR => ?_
  simp [dstart]
  refine ⟨⟨by omega, by omega⟩, ?_⟩
  have rl : (rngD 0 (xs.length - 1)).length = xs.length - 1 := by simp [rngD]
  refine loop_inv (fun i τ S' => S' = S ∧ (∃ x, τ = [some (D.tup xs), x]) ∧ ∀ j a b, j < i → xs[j]? = some a → xs[j + 1]? = some b → ltD a b = true) ⟨rfl, ⟨none, rfl⟩, fun j a b hj => absurd hj (Nat.not_lt_zero j)⟩ (fun _ _ _ _ _ => trivial) (fun i d0 τ S' N hd0 ⟨eS, ⟨x, eτ⟩, hI⟩ hN => ?_) (fun τ S' ⟨eS, ⟨x, eτ⟩, hI⟩ => ?_)
  · subst eS eτ
    obtain ⟨hi, rfl⟩ := rng_get hd0
    obtain ⟨a, ea⟩ : ∃ a, xs[i]? = some a := ⟨xs[i], List.getElem?_eq_getElem (by omega)⟩
    obtain ⟨b, eb⟩ : ∃ b, xs[i + 1]? = some b := ⟨xs[i + 1], List.getElem?_eq_getElem (by omega)⟩
    subst hB
    refine dIf_gen fun A2 B2 hA2 hB2 => ?_
    have i1 : atI xs (i : Int) = some a := atI_nat ea
    have i2 : atI xs ((i : Int) + 1) = some b := atI_nat (j := i + 1) eb
    simp [i1, i2]
    refine rOrd_ty t hdp (ht a (List.mem_of_getElem? ea)) (ht b (List.mem_of_getElem? eb)) ?_
    dsimp only
    cases c : ltD a b with
    | true =>
      simp
      subst hB2
      simp
      refine hN _ _ ⟨rfl, ⟨_, rfl⟩, fun j u v hj hu hv => ?_⟩
      by_cases e : j < i
      · exact hI j u v e hu hv
      · have : j = i := by omega
        subst this
        rw [ea] at hu
        rw [eb] at hv
        cases hu
        cases hv
        exact c
    | false =>
      simp
      subst hA2
      simp
      refine .same (h false ⟨fun z => (by cases z), fun z => ?_⟩)
      rw [pairs_get z ea eb] at c
      cases c
  · subst eS eτ hR
    simp
    refine .same (h true ⟨fun _ => pairs_next fun j a b hj hk => ?_, fun _ => rfl⟩)
    refine hI j a b ?_ hj hk
    have := (List.getElem?_eq_some_iff.mp hk).1
    omega
end L30
set_option maxRecDepth 100000
set_option maxHeartbeats 4000000
namespace L30
open PySem PySem.Spec L2
open Rc
open ShB hiding dSeqWhile_gen
open Sh hiding N_l_cell_at N_l_leaf deeps_mem perm_map_ex r_l_cell_at r_l_leaf sp_l_leaf sp_l_leaf_mono srt_strict t_l_cell_at t_l_leaf
open Dt hiding nkeys sp_l_cell_at sp_l_cell_at_mono
/-! K30r: the program's is_machine. -/
def EnT (d : D) : Prop := imm d = true ∧ ((∀ es, d ≠ .tup es) ∨ ∃ es, d = .tup es ∧ es.length ≤ 100 ∧ ∀ x ∈ es, Fine x)
def MsT (d : D) : Prop := imm d = true ∧ ((∀ vs, d ≠ .tup vs) ∨ ∃ vs, d = .tup vs ∧ vs.length ≤ 60 ∧ ∀ x ∈ vs, Fine x ∧ MoT x)
/-- a thing that may be asked about -/
def ThT (d : D) : Prop := imm d = true ∧ ((∀ a b c e, d ≠ .tup [a, b, c, e]) ∨ ∃ m b e v, d = .tup [m, b, e, v] ∧ imm m = true ∧ imm b = true ∧ EnT e ∧ MsT v)
/-- a machine, thing by thing -/
def McN (d : D) : Prop := ∃ (m : Int) (b : D) (es vs : List D), d = .tup [.int m, b, .tup es, .tup vs] ∧ 1 ≤ m ∧ m ≤ 10 ^ 20 ∧ stN b m ∧ (∀ x ∈ es, stN x m) ∧ (∀ x ∈ vs, MvN x m) ∧ (es.Pairwise fun x y => ltD x y = true) ∧ vs.Pairwise fun x y => ltD x y = true
def sp_is_machine : DSp := fun ds S Q _ => ∃ d, ds = [d] ∧ ThT d ∧ ∀ r : Bool, (r = true ↔ McN d) → Q (.bl r) S
theorem sp_is_machine_mono : SpMono sp_is_machine := fun ds S Q Q' E E' k _ ⟨d, h1, h2, h⟩ => ⟨d, h1, h2, fun r z => k _ _ (h r z)⟩
theorem MvN.ty {d : D} {m : Int} (h : MvN d m) : hasTy mvTy d = true := by
  obtain ⟨a, p, b, rfl, ⟨i, rfl, _, _⟩, ⟨p, lf, ok, rfl⟩, ⟨j, rfl, _, _⟩⟩ := h
  exact mv_ty (m := ⟨0, p, 0⟩) ⟨lf, okP_imp (fun _ => Nm.okS) ok⟩
theorem stN.ty {d : D} {m : Int} (h : stN d m) : hasTy .int d = true := by
  obtain ⟨i, rfl, _⟩ := h
  rfl
def t_is_machine : DTS := (dSeq (dIf (dOr (dNot (dTest (dIsi "tuple" (dVar 0)))) (dTest (dOp (dEq true) (dCB cLen (dCons (dVar 0) dNil)) (dC (.int 4)))))
      (dRet (dC (.bl false)))
      dNx)
    (dSeq (dAsg (dVar 0) (dGTupA 4 (dGCons (dGN 1) (dGCons (dGN 2) (dGCons (dGN 3) (dGCons (dGN 4) dGNil))))))
    (dSeq (dIf (dOr (dNot (dTest (dCall sp_is_whole (dCons (dVar 1) (dCons (dC (.int 1)) (dCons (dOp rPow (dC (.int 10)) (dC (.int 20))) dNil)))))) (dNot (dTest (dCall sp_is_whole (dCons (dVar 2) (dCons (dC (.int 0)) (dCons (dOp rSub (dVar 1) (dC (.int 1))) dNil)))))))
      (dRet (dC (.bl false)))
      dNx)
    (dSeq (dIf (dOr (dNot (dTest (dIsi "tuple" (dVar 3)))) (dNot (dTest (dIsi "tuple" (dVar 4)))))
      (dRet (dC (.bl false)))
      dNx)
    (dSeq (dIf (dTest (dOp (dEq true) (dFz (dLc (dSeqI (dVar 3)) (dGN 5) (dNot (dTest (dCall sp_is_whole (dCons (dVar 5) (dCons (dC (.int 0)) (dCons (dOp rSub (dVar 1) (dC (.int 1))) dNil)))))) (dVar 5) [5])) (dLstF dNil)))
      (dRet (dC (.bl false)))
      dNx)
    (dSeq (dIf (dTest (dOp (dEq true) (dFz (dLc (dSeqI (dVar 4)) (dGN 6) (dNot (dTest (dCall sp_is_move (dCons (dVar 6) (dCons (dOp rSub (dVar 1) (dC (.int 1))) dNil))))) (dVar 6) [6])) (dLstF dNil)))
      (dRet (dC (.bl false)))
      dNx)
    (dRet (dAndV (dCall sp_rises (dCons (dVar 3) dNil)) (dCall sp_rises (dCons (dVar 4) dNil))))))))))
abbrev N_is_machine : List Str := ["thing", "many", "begin", "ends", "moves", "end", "move"]
theorem r_is_machine (ds S Q E) (h : sp_is_machine ds S Q E) : t_is_machine (dEnd Q E) (dstart N_is_machine ds) S := by
  obtain ⟨d, rfl, ⟨him, hd⟩, h⟩ := h
  unfold t_is_machine
  have no : ¬ McN d → Q (.bl false) S := fun z => h false ⟨fun y => (by cases y), fun y => absurd y z⟩
  refine dSeqIf_gen fun A B R hA hB hR => ?_
  rcases hd with hd | ⟨m, b, e, v, rfl, im, ib, he, hv⟩
  · have no2 := no fun ⟨m, b, es, vs, e, _⟩ => hd _ _ _ _ e
    cases d with
    | ref _ => cases him
    | tup xs =>
      simp [dstart, tyName]
      rw [if_neg (fun e => by
        match xs, e with
        | [a, p, b, c], _ => exact hd a p b c rfl)]
      subst hA
      simp
      exact .same no2
    | _ =>
      simp [dstart, tyName]
      subst hA
      simp
      exact .same no2
  simp [dstart, tyName]
  subst hB
  simp
  subst hR
  refine dSeq_gen fun R hR => ?_
  simp
  subst hR
  refine dSeqIf_gen fun A B R hA hB hR => ?_
  simp
  refine ⟨by unfold CPow; decide, ?_⟩
  refine ⟨m, 1, _, rfl, im, fun r1 h1 => ?_⟩
  dsimp only
  cases r1 with
  | false =>
    simp
    subst hA
    simp
    refine .same (no fun ⟨m, b, es, vs, e, m1, m2, _⟩ => ?_)
    cases e
    exact absurd (h1.mpr ⟨m, rfl, m1, by omega⟩) (by simp)
  | true =>
  obtain ⟨n, rfl, n1, n2⟩ := h1.mp rfl
  simp
  refine ⟨b, 0, n - 1, rfl, ib, fun r2 h2 => ?_⟩
  dsimp only
  cases r2 with
  | false =>
    simp
    subst hA
    simp
    refine .same (no fun ⟨m, b, es, vs, e, m1, m2, ⟨i, eb, i0, i1⟩, _⟩ => ?_)
    cases e
    exact absurd (h2.mpr ⟨i, eb, i0, by omega⟩) (by simp)
  | true =>
  obtain ⟨bi, rfl, b0, b1⟩ := h2.mp rfl
  simp
  subst hB
  simp
  subst hR
  refine dSeqIf_gen fun A B R hA hB hR => ?_
  obtain ⟨ie, he⟩ := he
  rcases he with he | ⟨es, rfl, el, ef⟩
  · have no2 := no fun ⟨m, b, es, vs, e', _⟩ => by
      cases e'
      exact he _ rfl
    cases e with
    | ref _ => cases ie
    | tup xs => exact absurd rfl (he xs)
    | _ =>
      simp [tyName]
      subst hA
      simp
      exact .same no2
  obtain ⟨iv, hv⟩ := hv
  rcases hv with hv | ⟨vs, rfl, vl, vf⟩
  · have no2 := no fun ⟨m, b, es, vs, e', _⟩ => by
      cases e'
      exact hv _ rfl
    cases v with
    | ref _ => cases iv
    | tup xs => exact absurd rfl (hv xs)
    | _ =>
      simp [tyName]
      subst hA
      simp
      exact .same no2
  simp [tyName]
  subst hB
  simp
  subst hR
  refine dSeqIf_gen fun A B R hA hB hR => ?_
  simp
  have ime : ∀ x ∈ es, imm x = true := fun x hx => (ef x hx).im
  have imv : ∀ x ∈ vs, imm x = true := fun x hx => (vf x hx).1.im
  refine lcF_of (fun d => !(@decide (stN d n) (Classical.propDecidable _))) id (fun _ _ _ => trivial) (fun d hd acc p N hp hl h1 h2 => ?_) (by unfold sizeLine; omega) ?_
  · simp
    refine ⟨d, 0, n - 1, rfl, ime d hd, fun r hr => ?_⟩
    have hr : r = true ↔ stN d n := hr.trans ⟨fun ⟨i, e, a, b⟩ => ⟨i, e, a, by omega⟩, fun ⟨i, e, a, b⟩ => ⟨i, e, a, by omega⟩⟩
    dsimp only
    cases r with
    | true => simp; exact h2 (by simp [hr.mp rfl])
    | false =>
      simp
      exact ⟨hl, h1 (by simp; exact fun z => (by have := hr.mpr z; cases this))⟩
  rw [List.map_id]
  refine dEq_nilF (fun x hx => ef x (List.mem_filter.mp hx).1) ?_
  dsimp only
  by_cases ce : ∀ x ∈ es, stN x n
  · rw [List.filter_eq_nil_iff.mpr (fun x hx => by simp [ce x hx])]
    simp
    subst hB
    simp
    subst hR
    refine dSeqIf_gen fun A B R hA hB hR => ?_
    simp
    refine lcF_of (fun d => !(@decide (MvN d n) (Classical.propDecidable _))) id (fun _ _ _ => trivial) (fun d hd acc p N hp hl h1 h2 => ?_) (by unfold sizeLine; omega) ?_
    · simp
      refine ⟨d, n - 1, rfl, (vf d hd).2, fun r hr => ?_⟩
      rw [show n - 1 + 1 = n by omega] at hr
      dsimp only
      cases r with
      | true => simp; exact h2 (by simp [hr.mp rfl])
      | false =>
        simp
        exact ⟨hl, h1 (by simp; exact fun z => (by have := hr.mpr z; cases this))⟩
    rw [List.map_id]
    refine dEq_nilF (fun x hx => (vf x (List.mem_filter.mp hx).1).1) ?_
    dsimp only
    by_cases cv : ∀ x ∈ vs, MvN x n
    · rw [List.filter_eq_nil_iff.mpr (fun x hx => by simp [cv x hx])]
      simp
      subst hB
      simp
      subst hR
      simp
      refine ⟨es, .int, rfl, fun x hx => (ce x hx).ty, by decide, by omega, fun r3 h3 => ?_⟩
      dsimp only
      cases r3 with
      | false =>
        simp
        refine .same (no fun ⟨m, b, es, vs, e, m1, m2, _, _, _, pe, _⟩ => ?_)
        cases e
        exact absurd (h3.mpr pe) (by simp)
      | true =>
        simp
        refine ⟨vs, mvTy, rfl, fun x hx => (cv x hx).ty, by decide, by omega, fun r4 h4 => ?_⟩
        refine .same (h r4 ?_)
        rw [h4]
        constructor
        · intro pv
          exact ⟨n, .int bi, es, vs, rfl, n1, n2, ⟨bi, rfl, b0, by omega⟩, ce, cv, h3.mp rfl, pv⟩
        · rintro ⟨m, b, es, vs, e, _, _, _, _, _, _, pv⟩
          cases e
          exact pv
    · have ne : (vs.filter fun d => !(@decide (MvN d n) (Classical.propDecidable _))).isEmpty = false := by
        rw [List.isEmpty_eq_false_iff]
        intro z
        exact cv fun x hx => by simpa using List.filter_eq_nil_iff.mp z x hx
      rw [ne]
      simp
      subst hA
      simp
      refine .same (no fun ⟨m, b, es, vs, e, _, _, _, _, pv, _⟩ => ?_)
      cases e
      exact cv pv
  · have ne : (es.filter fun d => !(@decide (stN d n) (Classical.propDecidable _))).isEmpty = false := by
      rw [List.isEmpty_eq_false_iff]
      intro z
      exact ce fun x hx => by simpa using List.filter_eq_nil_iff.mp z x hx
    rw [ne]
    simp
    subst hA
    simp
    refine .same (no fun ⟨m, b, es, vs, e, _, _, _, pe, _⟩ => ?_)
    cases e
    exact ce pe
end L30
set_option maxRecDepth 100000
set_option maxHeartbeats 4000000
namespace L30
open PySem PySem.Spec L2
open Rc
open ShB hiding dSeqWhile_gen
open Sh hiding N_l_cell_at N_l_leaf deeps_mem perm_map_ex r_l_cell_at r_l_leaf sp_l_leaf sp_l_leaf_mono srt_strict t_l_cell_at t_l_leaf
open Dt hiding nkeys sp_l_cell_at sp_l_cell_at_mono
/-! K30s: the law's look at machines. -/
def sp_l_is_stand : DSp := fun ds S Q _ => ∃ (d : D) (n : Int), ds = [d, .int n] ∧ imm d = true ∧ ∀ r : Bool, (r = true ↔ stN d n) → Q (.bl r) S
theorem sp_l_is_stand_mono : SpMono sp_l_is_stand := fun ds S Q Q' E E' k _ ⟨d, n, h1, h2, h⟩ => ⟨d, n, h1, h2, fun r z => k _ _ (h r z)⟩
def sp_l_is_name : DSp := fun ds S Q _ => ∃ x : Str, ds = [.str x] ∧ x.length ≤ 100 ∧ (∀ c ∈ x.cps.toList, PyData.strOk ⟨#[c]⟩ = true) ∧ Q (.bl (nameB x)) S
theorem sp_l_is_name_mono : SpMono sp_l_is_name := fun ds S Q Q' E E' k _ ⟨d, h1, h2, h3, h⟩ => ⟨d, h1, h2, h3, k _ _ h⟩
def sp_l_is_leaf : DSp := fun ds S Q _ => ∃ (d : D), ds = [d] ∧ LfT d ∧ ∀ r : Bool, (r = true ↔ LfD d) → Q (.bl r) S
theorem sp_l_is_leaf_mono : SpMono sp_l_is_leaf := fun ds S Q Q' E E' k _ ⟨d, h1, h2, h⟩ => ⟨d, h1, h2, fun r z => k _ _ (h r z)⟩
def sp_l_is_machine : DSp := fun ds S Q _ => ∃ d, ds = [d, .int (10 ^ 20)] ∧ ThT d ∧ ∀ r : Bool, (r = true ↔ McN d) → ∀ S', Ext S S' → Q (.bl r) S'
theorem sp_l_is_machine_mono : SpMono sp_l_is_machine := fun ds S Q Q' E E' k _ ⟨d, h1, h2, h⟩ => ⟨d, h1, h2, fun r z S' x => k _ _ (h r z S' x)⟩
def t_l_is_stand : DTS := (dRet (dAndV (dIsi "int" (dVar 0)) (dAndV (dNotV (dIsi "bool" (dVar 0))) (dChain rLe rLt (dC (.int 0)) (dVar 0) (dVar 1)))))
abbrev N_l_is_stand : List Str := ["_law_thing", "_law_many"]
def t_l_is_name : DTS := (dSeq (dIf (dOr (dNot (dTest (dIsi "str" (dVar 0)))) (dNot (dTest (dChain rLe rLe (dC (.int 1)) (dCB cLen (dCons (dVar 0) dNil)) (dC (.int 8))))))
      (dRet (dC (.bl false)))
      dNx)
    (dRet (dOp (dEq false) (dFz (dLc (dSeqI (dVar 0)) (dGN 1) (dTest (dOp (dInS true) (dVar 1) (dC (.str "abcdefghijklmnopqrstuvwxyz")))) (dVar 1) [1])) (dLstF dNil))))
abbrev N_l_is_name : List Str := ["_law_thing", "_law_sign"]
def t_l_is_leaf : DTS := (dSeq (dIf (dOr (dNot (dTest (dIsi "tuple" (dVar 0)))) (dOr (dTest (dOp rLt (dCB cLen (dCons (dVar 0) dNil)) (dC (.int 1)))) (dNot (dTest (dIsi "str" (dOp dIxS (dVar 0) (dC (.int 0))))))))
      (dRet (dC (.bl false)))
      dNx)
    (dSeq (dIf (dTest (dOp (dEq false) (dOp dIxS (dVar 0) (dC (.int 0))) (dC (.str "stay"))))
      (dRet (dOp (dEq false) (dCB cLen (dCons (dVar 0) dNil)) (dC (.int 1))))
      dNx)
    (dSeq (dIf (dTest (dOp (dEq false) (dOp dIxS (dVar 0) (dC (.int 0))) (dC (.str "step"))))
      (dSeq (dIf (dOr (dTest (dOp (dEq true) (dCB cLen (dCons (dVar 0) dNil)) (dC (.int 3)))) (dTest (dOp (dIn true) (dOp dIxS (dVar 0) (dC (.int 1))) (dTup (dCons (dC (.str "on")) (dCons (dC (.str "back")) dNil))))))
      (dRet (dC (.bl false)))
      dNx)
    (dRet (dOrV (dOp (dEq false) (dOp dIxS (dVar 0) (dC (.int 2))) (dC (.str "*"))) (dCall sp_l_is_name (dCons (dOp dIxS (dVar 0) (dC (.int 2))) dNil)))))
      dNx)
    (dRet (dAndV (dOp (dIn false) (dOp dIxS (dVar 0) (dC (.int 0))) (dTup (dCons (dC (.str "at")) (dCons (dC (.str "off")) dNil)))) (dAndV (dOp (dEq false) (dCB cLen (dCons (dVar 0) dNil)) (dC (.int 2))) (dCall sp_l_is_name (dCons (dOp dIxS (dVar 0) (dC (.int 1))) dNil))))))))
abbrev N_l_is_leaf : List Str := ["_law_thing"]
theorem r_l_is_stand (ds S Q E) (h : sp_l_is_stand ds S Q E) : t_l_is_stand (dEnd Q E) (dstart N_l_is_stand ds) S := by
  obtain ⟨d, n, rfl, hi, h⟩ := h
  unfold t_l_is_stand
  cases d with
  | ref _ => cases hi
  | int i =>
    simp [dstart, tyName]
    by_cases c : 0 ≤ i
    · rw [if_pos c]
      exact .same (h _ (by simp [stN, c]))
    · rw [if_neg c]
      exact .same (h _ (by simp [stN, c]))
  | _ =>
    simp [dstart, tyName]
    exact .same (h false (by simp [stN]))
theorem filt_all (c : D → Bool) : ∀ l : List D, (l.filter c).isEmpty = l.all fun d => !c d
  | [] => rfl
  | a :: l => by
    cases e : c a
    · rw [List.filter_cons_of_neg (by simp [e]), List.all_cons, e, filt_all c l]
      rfl
    · rw [List.filter_cons_of_pos e, List.all_cons, e]
      rfl
theorem nm_signs {w : Str} (h : Nm w) : ∀ c ∈ w.cps.toList, PyData.strOk ⟨#[c]⟩ = true := fun c hc => by
  have : ∀ c : Nat, c < 123 → PyData.strOk ⟨#[c]⟩ = true := by decide +kernel
  exact this c (by have := (h.2.2 c hc).2; omega)
theorem r_l_is_name (ds S Q E) (h : sp_l_is_name ds S Q E) : t_l_is_name (dEnd Q E) (dstart N_l_is_name ds) S := by
  obtain ⟨x, rfl, hx, hsg, h⟩ := h
  unfold t_l_is_name
  refine dSeqIf_gen fun A B R hA hB hR => ?_
  simp [dstart, tyName]
  refine ⟨by omega, ?_⟩
  by_cases c1 : ¬ 1 ≤ x.length
  · have e : nameB x = false := by simp [nameB]; omega
    rw [e] at h
    rw [if_neg (by omega)]
    subst hA
    simp
    exact .same h
  have c1 : 1 ≤ x.length := by omega
  rw [if_pos (by omega)]
  by_cases c2 : ¬ x.length ≤ 8
  · have e : nameB x = false := by simp [nameB]; omega
    rw [e] at h
    rw [if_neg (by omega)]
    subst hA
    simp
    exact .same h
  have c2 : x.length ≤ 8 := by omega
  rw [if_pos (by omega)]
  subst hB
  simp
  subst hR
  simp
  have hs : x.cps.toList.length = x.length := by simp [Str.length]
  refine lcF_of (fun d => match d with | .str s => (Builtin.Str.occurrences "abcdefghijklmnopqrstuvwxyz" s 0 (Str.length "abcdefghijklmnopqrstuvwxyz") 1).isEmpty | _ => true) id (fun _ _ _ => trivial) (fun d hd acc p N hp hl h1 h2 => ?_) (by rw [List.length_map, hs]; exact Nat.lt_of_le_of_lt c2 (by decide)) ?_
  · obtain ⟨c, hc, rfl⟩ := List.mem_map.mp hd
    simp only [signD] at h1 h2
    simp [signD]
    by_cases e : Builtin.Str.occurrences (Str.ofString "abcdefghijklmnopqrstuvwxyz") { cps := #[c] } 0 (Str.ofString "abcdefghijklmnopqrstuvwxyz").length 1 = []
    · rw [if_pos e]
      exact ⟨hl, h1 (by rw [e]; rfl)⟩
    · rw [if_neg e]
      exact h2 (by cases q : Builtin.Str.occurrences (Str.ofString "abcdefghijklmnopqrstuvwxyz") { cps := #[c] } 0 (Str.ofString "abcdefghijklmnopqrstuvwxyz").length 1 with | nil => exact absurd q e | cons _ _ => rfl)
  · rw [List.map_id]
    refine dEq_nilF (fun y hy => ?_) ?_
    · obtain ⟨c, hc, rfl⟩ := List.mem_map.mp (List.mem_filter.mp hy).1
      exact ⟨rfl, hsg c hc, Nat.zero_le _⟩
    · have e : (x.cps.toList.map signD).all (fun d => !(match d with | .str s => (Builtin.Str.occurrences "abcdefghijklmnopqrstuvwxyz" s 0 (Str.length "abcdefghijklmnopqrstuvwxyz") 1).isEmpty | _ => true)) = nameB x := by
        simp only [nameB, c1, c2, decide_true, Bool.true_and, List.all_map]
        congr 1
        funext c
        simp only [Function.comp, signD]
        rw [PySem.StrLaws.found_one]
      rw [filt_all, e]
      simpa using Rt.same h
theorem r_l_is_leaf (ds S Q E) (h : sp_l_is_leaf ds S Q E) : t_l_is_leaf (dEnd Q E) (dstart N_l_is_leaf ds) S := by
  obtain ⟨d, rfl, ht, h⟩ := h
  have i1 : inF (D.str (Str.ofString "back")) [D.str (Str.ofString "on"), D.str (Str.ofString "back")] = true := by decide +kernel
  have i2 : inF (D.str (Str.ofString "on")) [D.str (Str.ofString "on"), D.str (Str.ofString "back")] = true := by decide +kernel
  have i3 : inF (D.str (Str.ofString "up")) [D.str (Str.ofString "on"), D.str (Str.ofString "back")] = false := by decide +kernel
  have j1 : inF (D.str (Str.ofString "off")) [D.str (Str.ofString "at"), D.str (Str.ofString "off")] = true := by decide +kernel
  have j2 : inF (D.str (Str.ofString "at")) [D.str (Str.ofString "at"), D.str (Str.ofString "off")] = true := by decide +kernel
  have j3 : inF (D.str (Str.ofString "then")) [D.str (Str.ofString "at"), D.str (Str.ofString "off")] = false := by decide +kernel
  have j4 : inF (D.str (Str.ofString "many")) [D.str (Str.ofString "at"), D.str (Str.ofString "off")] = false := by decide +kernel
  rcases ht with ⟨p, lf, ok, rfl⟩ | hd | rfl | rfl
  · have hr := h true ⟨fun _ => ⟨p, lf, ok, rfl⟩, fun _ => rfl⟩
    have ok1 := ok _ (Pt.self_all p)
    have nm : ∀ {w : Str} {E' : DXK}, Nm w → sp_l_is_name [.str w] S (Rt Q) E' := fun {w E'} hw => ⟨w, rfl, Nat.le_trans hw.2.1 (by decide), nm_signs hw, by rw [nameB_of hw]; exact .same hr⟩
    unfold t_l_is_leaf
    refine dSeqIf_gen fun A B R hA hB hR => ?_
    cases p with
    | step b w =>
      simp [dstart, ptD, tyName]
      subst hB
      simp
      subst hR
      cases b <;> simp
      · rw [if_pos i1]
        by_cases e : w = Str.ofString "*"
        · rw [if_pos e]
          exact .same hr
        · rw [if_neg e]
          exact nm (ok1.resolve_left e)
      · rw [if_pos i2]
        by_cases e : w = Str.ofString "*"
        · rw [if_pos e]
          exact .same hr
        · rw [if_neg e]
          exact nm (ok1.resolve_left e)
    | stay =>
      simp [dstart, ptD, tyName]
      subst hB
      simp
      subst hR
      simp
      exact .same hr
    | mark b w =>
      cases b <;>
      · simp [dstart, ptD, tyName]
        subst hB
        simp
        subst hR
        simp
        rw [if_pos (by first | exact j1 | exact j2)]
        exact nm ok1
    | many q => cases lf
    | seq b q => cases lf
  · have hr := h false ⟨fun z => (by cases z), fun z => absurd z (odd_no hd)⟩
    have nm : ∀ {w : Str} {E' : DXK}, w.length ≤ 100 → nameB w = false → (∀ c ∈ w.cps.toList, PyData.strOk ⟨#[c]⟩ = true) → sp_l_is_name [.str w] S (Rt Q) E' := fun {w E'} hl hw hg => ⟨w, rfl, hl, hg, by rw [hw]; exact .same hr⟩
    have s1 : ¬ (Str.ofString "" = Str.ofString "*") := by decide +kernel
    have s2 : ¬ (Str.ofString "**" = Str.ofString "*") := by decide +kernel
    simp only [odd13, List.mem_cons, List.not_mem_nil, or_false] at hd
    unfold t_l_is_leaf
    refine dSeqIf_gen fun A B R hA hB hR => ?_
    rcases hd with rfl | rfl | rfl | rfl | rfl | rfl | rfl | rfl | rfl | rfl | rfl | rfl | rfl
    all_goals
      simp [dstart, tyName]
      try (subst hA; simp; exact .same hr)
    all_goals
      subst hB
      simp
      subst hR
      simp [i1, i2, i3, j1, j2]
      first
        | exact .same hr
        | exact nm (by decide +kernel) (by decide +kernel) (by decide +kernel)
        | (rw [if_neg (by first | exact s1 | exact s2)]; exact nm (by decide +kernel) (by decide +kernel) (by decide +kernel))
        | exact (0 : Nat)
  all_goals
    have hr := h false ⟨fun z => (by cases z), fun z => absurd z (pt_no rfl)⟩
    unfold t_l_is_leaf
    refine dSeqIf_gen fun A B R hA hB hR => ?_
    simp [dstart, tyName, ptD]
    subst hB
    simp
    subst hR
    simp [j3, j4]
    exact .same hr
end L30
set_option maxRecDepth 100000
set_option maxHeartbeats 4000000
namespace L30
open PySem PySem.Spec L2
open Rc
open ShB hiding dSeqWhile_gen
open Sh hiding N_l_cell_at N_l_leaf deeps_mem perm_map_ex r_l_cell_at r_l_leaf sp_l_leaf sp_l_leaf_mono srt_strict t_l_cell_at t_l_leaf
open Dt hiding nkeys sp_l_cell_at sp_l_cell_at_mono
/-! K30t: the law's is_machine. -/
/-- what a move's stands are -/
def prsD (d : D) : List D := match d with | .tup [a, _, b] => [a, b] | _ => []
def stdsD (b : D) (es vs : List D) (i : Nat) : List D := (b :: es) ++ (vs.take i).flatMap prsD
theorem stdsD_succ {b : D} {es vs : List D} {i : Nat} {d : D} (h : vs[i]? = some d) : stdsD b es vs (i + 1) = stdsD b es vs i ++ prsD d := by
  unfold stdsD
  rw [List.take_add_one, h]
  simp
theorem prsD_len (d : D) : (prsD d).length ≤ 2 := by
  unfold prsD
  split <;> simp
theorem stdsD_len (b : D) (es vs : List D) (i : Nat) : (stdsD b es vs i).length ≤ 1 + es.length + 2 * vs.length := by
  have h : ∀ l : List D, (l.flatMap prsD).length ≤ 2 * l.length := fun l => by
    induction l with
    | nil => exact Nat.le_refl _
    | cons a l ih =>
      have := prsD_len a
      simp only [List.flatMap_cons, List.length_append, List.length_cons]
      omega
  unfold stdsD
  have := h (vs.take i)
  rw [List.length_take] at this
  rw [List.length_append, List.length_cons]
  omega
theorem inF_dec {P : D → Prop} : ∀ {l : List D}, inF (.bl false) (l.map fun d => .bl (@decide (P d) (Classical.propDecidable _))) = true ↔ ∃ d ∈ l, ¬ P d
  | [] => by simp [inF]
  | a :: l => by
    have ih := inF_dec (P := P) (l := l)
    unfold inF at ih ⊢
    rw [List.map_cons, List.any_cons, Bool.or_eq_true, ih]
    simp only [eqF, List.mem_cons, exists_eq_or_imp]
    refine or_congr ?_ Iff.rfl
    by_cases h : P a <;> simp [h]
theorem ss_strict {t : Ty} {ds : List D} (ht : ∀ d ∈ ds, hasTy t d = true) : (ssD ds).Pairwise fun x y => ltD x y = true := by
  unfold ssD
  exact srt_strict (t := t) (fun d hd => ht d (List.mem_eraseDups.mp hd)) (nodup_eraseDups _ _ (Nat.le_refl _))
theorem ss_self {t : Ty} {ds : List D} (ht : ∀ d ∈ ds, hasTy t d = true) : ds = ssD ds ↔ ds.Pairwise fun x y => ltD x y = true := by
  constructor
  · intro e
    rw [e]
    exact ss_strict ht
  · intro h
    refine (ss_is (t := t) ht (h.imp fun {x y} h e => ?_) (h.imp fun h => ltD_asymm h) fun _ => Iff.rfl).symm
    subst e
    have := ltD_asymm h
    rw [h] at this
    cases this
theorem MvN.sm {d : D} {n : Int} (h : MvN d n) : Sm 60 d := by
  obtain ⟨a, p, b, rfl, ⟨i, rfl, _, _⟩, ⟨p, lf, ok, rfl⟩, ⟨j, rfl, _, _⟩⟩ := h
  have hp : p.deep ≤ 1 := by cases p <;> first | exact Nat.le_refl _ | cases lf
  have := (pt_sm p ok).mono (m := 59) (by omega)
  refine Sm_tup.mpr fun d hd => ?_
  simp only [List.mem_cons, List.not_mem_nil, or_false] at hd
  rcases hd with rfl | rfl | rfl
  · exact Sm_int
  · exact this
  · exact Sm_int
theorem MvN.okT {d : D} {n : Int} (h : MvN d n) : okT d = true := by
  obtain ⟨a, p, b, rfl, ⟨i, rfl, _, _⟩, ⟨p, lf, ok, rfl⟩, ⟨j, rfl, _, _⟩⟩ := h
  cases p <;> first | (rename_i b w; cases b <;> rfl) | rfl | cases lf
def t_l_is_machine : DTS := (dSeq (dIf (dOr (dNot (dTest (dIsi "tuple" (dVar 0)))) (dTest (dOp (dEq true) (dCB cLen (dCons (dVar 0) dNil)) (dC (.int 4)))))
      (dRet (dC (.bl false)))
      dNx)
    (dSeq (dAsg (dVar 0) (dGTupA 4 (dGCons (dGN 2) (dGCons (dGN 3) (dGCons (dGN 4) (dGCons (dGN 5) dGNil))))))
    (dSeq (dIf (dOr (dNot (dTest (dIsi "tuple" (dVar 4)))) (dNot (dTest (dIsi "tuple" (dVar 5)))))
      (dRet (dC (.bl false)))
      dNx)
    (dSeq (dIf (dOr (dNot (dTest (dCall sp_l_is_stand (dCons (dVar 2) (dCons (dOp dAddF (dVar 1) (dC (.int 1))) dNil))))) (dTest (dOp rLt (dVar 2) (dC (.int 1)))))
      (dRet (dC (.bl false)))
      dNx)
    (dSeq (dAsg (dOp dAdd (dLstF (dCons (dVar 3) dNil)) (dCB cListAF (dCons (dVar 4) dNil))) (dGN 6))
    (dSeq (dFor (dSeqI (dVar 5)) (dGN 7)
      (dSeq (dIf (dOr (dNot (dTest (dIsi "tuple" (dVar 7)))) (dOr (dTest (dOp (dEq true) (dCB cLen (dCons (dVar 7) dNil)) (dC (.int 3)))) (dNot (dTest (dCall sp_l_is_leaf (dCons (dOp dIxS (dVar 7) (dC (.int 1))) dNil))))))
      (dRet (dC (.bl false)))
      dNx)
    (dDrop (dBM "list" mExtend (dVar 6) (dCons (dLstF (dCons (dOp dIxS (dVar 7) (dC (.int 0))) (dCons (dOp dIxS (dVar 7) (dC (.int 2))) dNil))) dNil)))))
    (dSeq (dIf (dTest (dOp (dIn false) (dC (.bl false)) (dFz (dLc (dSeqI (dVar 6)) (dGN 8) dYes (dCall sp_l_is_stand (dCons (dVar 8) (dCons (dVar 2) dNil))) [8]))))
      (dRet (dC (.bl false)))
      dNx)
    (dRet (dAndV (dOp (dEq false) (dCB cListAF (dCons (dVar 4) dNil)) (dSortSetAF (dVar 4))) (dOp (dEq false) (dCB cListAF (dCons (dVar 5) dNil)) (dSortNF (dVar 5))))))))))))
abbrev N_l_is_machine : List Str := ["_law_thing", "_law_most", "_law_many", "_law_begin", "_law_ends", "_law_moves", "_law_stands", "_law_move", "_law_stand"]
theorem r_l_is_machine (ds S Q E) (h : sp_l_is_machine ds S Q E) : t_l_is_machine (dEnd Q E) (dstart N_l_is_machine ds) S := by
  obtain ⟨d, rfl, ⟨him, hd⟩, h⟩ := h
  unfold t_l_is_machine
  have no : ¬ McN d → ∀ S', Ext S S' → Q (.bl false) S' := fun z => h false ⟨fun y => (by cases y), fun y => absurd y z⟩
  have noS : ¬ McN d → Q (.bl false) S := fun z => no z S fun _ _ e => e
  refine dSeqIf_gen fun A B R hA hB hR => ?_
  rcases hd with hd | ⟨m, b, e, v, rfl, im, ib, he, hv⟩
  · have no2 := noS fun ⟨m, b, es, vs, e, _⟩ => hd _ _ _ _ e
    cases d with
    | ref _ => cases him
    | tup xs =>
      simp [dstart, tyName]
      rw [if_neg (fun e => by
        match xs, e with
        | [a, p, b, c], _ => exact hd a p b c rfl)]
      subst hA
      simp
      exact .same no2
    | _ =>
      simp [dstart, tyName]
      subst hA
      simp
      exact .same no2
  simp [dstart, tyName]
  subst hB
  simp
  subst hR
  refine dSeq_gen fun R hR => ?_
  simp
  subst hR
  refine dSeqIf_gen fun A B R hA hB hR => ?_
  obtain ⟨ie, he⟩ := he
  rcases he with he | ⟨es, rfl, el, ef⟩
  · have no2 := noS fun ⟨m, b, es, vs, e', _⟩ => by
      cases e'
      exact he _ rfl
    cases e with
    | ref _ => cases ie
    | tup xs => exact absurd rfl (he xs)
    | _ =>
      simp [tyName]
      subst hA
      simp
      exact .same no2
  obtain ⟨iv, hv⟩ := hv
  rcases hv with hv | ⟨vs, rfl, vl, vf⟩
  · have no2 := noS fun ⟨m, b, es, vs, e', _⟩ => by
      cases e'
      exact hv _ rfl
    cases v with
    | ref _ => cases iv
    | tup xs => exact absurd rfl (hv xs)
    | _ =>
      simp [tyName]
      subst hA
      simp
      exact .same no2
  simp [tyName]
  subst hB
  simp
  subst hR
  refine dSeqIf_gen fun A B R hA hB hR => ?_
  simp
  refine ⟨m, _, rfl, im, fun r1 h1 => ?_⟩
  dsimp only
  cases r1 with
  | false =>
    simp
    subst hA
    simp
    refine .same (noS fun ⟨m, b, es, vs, e, m1, m2, _⟩ => ?_)
    cases e
    exact absurd (h1.mpr ⟨m, rfl, by omega, by omega⟩) (by simp)
  | true =>
  obtain ⟨n, rfl, n1, n2⟩ := h1.mp rfl
  simp
  by_cases cn : n < 1
  · rw [if_pos cn]
    subst hA
    simp
    refine .same (noS fun ⟨m, b, es, vs, e, m1, m2, _⟩ => ?_)
    cases e
    omega
  rw [if_neg cn]
  subst hB
  simp
  subst hR
  refine dSeq_gen fun R hR => ?_
  simp
  subst hR
  simp only [catD, seqD_rol, opt_some]
  refine ⟨by simp [sizeLine]; omega, fun p hp => ?_⟩
  dsimp only
  have e0 : [b] ++ es = stdsD b es vs 0 := by simp [stdsD]
  rw [e0]
  refine dSeqFor_gen fun B R hB hR => ?_
  simp
  refine loop_inv (fun i τ S' => S' = upo S p (.lst (stdsD b es vs i)) ∧ (∃ x, τ = [some (D.tup [D.int n, b, D.tup es, D.tup vs]), some (D.int 100000000000000000000), some (D.int n), some b, some (D.tup es), some (D.tup vs), some (D.ref p), x, none]) ∧
    ∀ j d, j < i → vs[j]? = some d → ∃ a q c, d = .tup [a, q, c] ∧ LfD q) ⟨rfl, ⟨none, rfl⟩, fun j d hj => absurd hj (Nat.not_lt_zero j)⟩ (fun _ _ _ _ _ => trivial) (fun i d τ S' N hi ⟨e1, ⟨x, e2⟩, hI⟩ hN => ?_) (fun τ S' ⟨e1, ⟨x, e2⟩, hI⟩ => ?_)
  · have mem := List.mem_of_getElem? hi
    obtain ⟨fd, imd, hd⟩ := vf d mem
    subst e1 e2 hB
    refine dSeqIf_gen fun A1 B1 R1 hA1 hB1 hR1 => ?_
    rcases hd with hd | ⟨a, q, c, rfl, ima, hq, imc⟩
    · have no2 := no fun ⟨m, b, es, vs, e', _, _, _, _, mv, _⟩ => by
        cases e'
        obtain ⟨a, q, c, e, _⟩ := mv d mem
        exact hd _ _ _ e
      cases d with
      | ref _ => cases imd
      | tup xs =>
        simp [tyName]
        rw [if_neg (fun e => by
          match xs, e with
          | [a, p, b], _ => exact hd a p b rfl)]
        subst hA1
        simp
        exact .same (no2 _ (Ext.new hp))
      | _ =>
        simp [tyName]
        subst hA1
        simp
        exact .same (no2 _ (Ext.new hp))
    · simp [tyName]
      refine ⟨q, rfl, hq, fun r hr => ?_⟩
      dsimp only
      cases r with
      | false =>
        simp
        subst hA1
        simp
        refine .same (no (fun ⟨m, b, es, vs, e', _, _, _, _, mv, _⟩ => ?_) _ (Ext.new hp))
        cases e'
        obtain ⟨a, q, c, e, _, l, _⟩ := mv _ mem
        cases e
        exact absurd (hr.mpr l) (by simp)
      | true =>
        simp
        subst hB1
        simp
        subst hR1
        simp
        have := stdsD_len b es vs i
        refine ⟨by omega, ?_⟩
        refine hN _ _ ⟨by rw [stdsD_succ hi]; rfl, ⟨_, rfl⟩, fun j d' hj hd' => ?_⟩
        by_cases e : j < i
        · exact hI j d' e hd'
        · have : j = i := by omega
          subst this
          rw [hi] at hd'
          cases hd'
          exact ⟨a, q, c, rfl, hr.mp rfl⟩
  · subst e1 e2 hR
    dsimp only
    have hI : ∀ d ∈ vs, ∃ a q c, d = .tup [a, q, c] ∧ LfD q := fun d hd => by
      obtain ⟨j, hj, e⟩ := List.getElem_of_mem hd
      exact hI j d hj (by rw [List.getElem?_eq_getElem hj, e])
    refine dSeqIf_gen fun A1 B1 R1 hA1 hB1 hR1 => ?_
    simp
    have ims : ∀ y ∈ stdsD b es vs vs.length, imm y = true := fun y hy => by
      unfold stdsD at hy
      rcases List.mem_append.mp hy with hy | hy
      · rcases List.mem_cons.mp hy with rfl | hy
        · exact ib
        · exact (ef y hy).im
      · obtain ⟨d, hd, hy⟩ := List.mem_flatMap.mp hy
        obtain ⟨_, _, hd⟩ := vf d (List.mem_of_mem_take hd)
        rcases hd with hd | ⟨a, q, c, rfl, ima, hq, imc⟩
        · unfold prsD at hy
          split at hy
          · exact absurd rfl (hd _ _ _)
          · cases hy
        · simp [prsD] at hy
          rcases hy with rfl | rfl
          · exact ima
          · exact imc
    have sl := stdsD_len b es vs vs.length
    refine lcF_map (fun y => .bl (@decide (stN y n) (Classical.propDecidable _))) (fun q acc hq => ?_) (fun d hd acc q N hq hl hN => ?_) (by unfold sizeLine; omega) ?_
    · have : q ≠ p := fun e => by subst e; simp at hq
      simp [upo, this.symm]
    · simp
      refine ⟨d, n, rfl, ims d hd, fun r hr => ?_⟩
      have er : @decide (stN d n) (Classical.propDecidable _) = r := by
        cases r with
        | true => simp [hr.mp rfl]
        | false => simp; exact fun z => (by have := hr.mpr z; cases this)
      rw [er] at hN
      simp
      exact ⟨by omega, hN⟩
    · simp only
      refine ⟨_, .inl ⟨rfl, List.all_eq_true.mpr fun e he => ?_, rfl⟩, ?_⟩
      · obtain ⟨_, _, rfl⟩ := List.mem_map.mp he
        rfl
      · dsimp only
        by_cases cs : ∃ d ∈ stdsD b es vs vs.length, ¬ stN d n
        · rw [inF_dec.mpr cs]
          simp
          subst hA1
          simp
          refine .same (no (fun ⟨m, b', es', vs', e', _, _, sb, se, mv, _⟩ => ?_) _ (Ext.new hp))
          cases e'
          obtain ⟨d, hd, hn⟩ := cs
          unfold stdsD at hd
          rcases List.mem_append.mp hd with hd | hd
          · rcases List.mem_cons.mp hd with rfl | hd
            · exact hn sb
            · exact hn (se d hd)
          · obtain ⟨y, hy, hd⟩ := List.mem_flatMap.mp hd
            obtain ⟨a, q, c, rfl, sa, _, sc⟩ := mv y (List.mem_of_mem_take hy)
            simp [prsD] at hd
            rcases hd with rfl | rfl
            · exact hn sa
            · exact hn sc
        · have nf : inF (.bl false) ((stdsD b es vs vs.length).map fun y => .bl (@decide (stN y n) (Classical.propDecidable _))) = false := by
            cases q : inF (.bl false) ((stdsD b es vs vs.length).map fun y => .bl (@decide (stN y n) (Classical.propDecidable _))) with
            | false => rfl
            | true => exact absurd (inF_dec.mp q) cs
          have al : ∀ d ∈ stdsD b es vs vs.length, stN d n := fun d hd => Classical.byContradiction fun z => cs ⟨d, hd, z⟩
          have sb : stN b n := al b (List.mem_append_left _ (List.mem_cons_self ..))
          have se : ∀ x ∈ es, stN x n := fun x hx => al x (List.mem_append_left _ (List.mem_cons_of_mem _ hx))
          have sv : ∀ x ∈ vs, MvN x n := fun x hx => by
            obtain ⟨a, q, c, rfl, lq⟩ := hI x hx
            have m1 : ∀ y ∈ [a, c], stN y n := fun y hy => al y (List.mem_append_right _ (by
              rw [List.take_length]
              exact List.mem_flatMap.mpr ⟨_, hx, hy⟩))
            exact ⟨a, q, c, rfl, m1 a (List.mem_cons_self ..), lq, m1 c (List.mem_cons_of_mem _ (List.mem_cons_self ..))⟩
          rw [nf]
          simp
          subst hB1
          simp
          subst hR1
          simp
          refine ⟨.inr fun x hx => (se x hx).ty, by unfold scanBound; omega, ?_⟩
          refine dEq_seq (xs := es) (ys := ssD es) rfl rfl (fun e he => ?_) (fun e he => ?_) ?_
          · obtain ⟨i, rfl, _⟩ := se e he
            exact Sm_int
          · obtain ⟨i, rfl, _⟩ := se e (ss_mem.mp he)
            exact Sm_int
          · have ese := ss_self (t := .int) fun x hx => (se x hx).ty
            have esv := ss_self (t := mvTy) fun x hx => (sv x hx).ty
            have fin : ∀ r : Bool, (r = true ↔ (es.Pairwise fun x y => ltD x y = true) ∧ vs.Pairwise fun x y => ltD x y = true) → Q (.bl r) (upo S p (.lst (stdsD b es vs vs.length))) := fun r hr => h r (by
              rw [hr]
              constructor
              · rintro ⟨p1, p2⟩
                exact ⟨n, b, es, vs, rfl, by omega, by omega, sb, se, sv, p1, p2⟩
              · rintro ⟨m, b', es', vs', e', _, _, _, _, _, p1, p2⟩
                cases e'
                exact ⟨p1, p2⟩) _ (Ext.new hp)
            dsimp only
            by_cases ce : es = ssD es
            · rw [decide_eq_true ce]
              simp
              refine ⟨fun d hd => (sv d hd).okT, Nat.lt_of_le_of_lt (firstD_len _) (by omega), mvTy, rfl, fun d hd => (sv d hd).ty, ?_⟩
              refine dEq_seq (xs := vs) (ys := ssD vs) rfl rfl (fun e he => (sv e he).sm) (fun e he => (sv e (ss_mem.mp he)).sm) ?_
              refine .same (fin _ ?_)
              simp only [Bool.false_eq_true, ↓reduceIte, decide_eq_true_eq]
              rw [esv]
              exact ⟨fun z => ⟨ese.mp ce, z⟩, fun z => z.2⟩
            · rw [decide_eq_false ce]
              simp
              exact .same (fin false ⟨fun z => (by cases z), fun z => absurd (ese.mpr z.1) ce⟩)
end L30
set_option maxRecDepth 100000
set_option maxHeartbeats 4000000
namespace L30
open PySem PySem.Spec L2
open Rc
open ShB hiding dSeqWhile_gen
open Sh hiding N_l_cell_at N_l_leaf deeps_mem perm_map_ex r_l_cell_at r_l_leaf sp_l_leaf sp_l_leaf_mono srt_strict t_l_cell_at t_l_leaf
open Dt hiding nkeys sp_l_cell_at sp_l_cell_at_mono
/-! K30u: what is bent. -/
theorem Sm.fine {n : Nat} {d : D} (h : Sm n d) (hn : n ≤ 20) : Fine d := ⟨pl_imm d h.1, pl_lay d h.1, Nat.le_trans h.2 hn⟩
theorem MvN.fine {d : D} {n : Int} (h : MvN d n) : Fine d ∧ MoT d := by
  obtain ⟨a, p, b, rfl, ⟨i, rfl, _, _⟩, ⟨p, lf, ok, rfl⟩, ⟨j, rfl, _, _⟩⟩ := h
  have hp : p.deep ≤ 1 := by cases p <;> first | exact Nat.le_refl _ | cases lf
  have s := (pt_sm p ok).mono (m := 19) (by omega)
  have f : Fine (.tup [.int i, ptD p, .int j]) := Sm.fine (n := 20) (Sm_tup.mpr fun d hd => by
    simp only [List.mem_cons, List.not_mem_nil, or_false] at hd
    rcases hd with rfl | rfl | rfl
    · exact Sm_int
    · exact s
    · exact Sm_int) (Nat.le_refl _)
  exact ⟨f, f.im, .inr ⟨_, _, _, rfl, rfl, .inl ⟨p, lf, ok, rfl⟩, rfl⟩⟩
/-- an odd thing in a leaf's place -/
def OddL (d : D) : Prop := Fine d ∧ dep d ≤ 10 ∧ LfT d
def OddS (d : D) : Prop := Fine d ∧ dep d ≤ 10
theorem fine_of {d : D} (h1 : imm d = true) (h2 : (toP d).canLay0 = true) (h3 : decide (dep d ≤ 10) = true) : OddS d := ⟨⟨h1, h2, Nat.le_trans (of_decide_eq_true h3) (by decide)⟩, of_decide_eq_true h3⟩
theorem odd13_fine {d : D} (h : d ∈ odd13) : OddS d := by
  simp only [odd13, List.mem_cons, List.not_mem_nil, or_false] at h
  rcases h with rfl | rfl | rfl | rfl | rfl | rfl | rfl | rfl | rfl | rfl | rfl | rfl | rfl <;> exact fine_of (by decide +kernel) (by decide +kernel) (by decide +kernel)
def sp_l_odd_leaf : DSp := fun ds S Q _ => ∃ (k : Nat), ds = [.int (k : Nat)] ∧ ∀ d, OddL d → Q d S
theorem sp_l_odd_leaf_mono : SpMono sp_l_odd_leaf := fun ds S Q Q' E E' k _ ⟨d, h1, h⟩ => ⟨d, h1, fun d z => k _ _ (h d z)⟩
def sp_l_odd_stand : DSp := fun ds S Q _ => ∃ (k : Nat) (m : Int), ds = [.int (k : Nat), .int m] ∧ ∀ d, OddS d → Q d S
theorem sp_l_odd_stand_mono : SpMono sp_l_odd_stand := fun ds S Q Q' E E' k _ ⟨a, m, h1, h⟩ => ⟨a, m, h1, fun d z => k _ _ (h d z)⟩
theorem atI_mod (l : List D) (n : Nat) (h : l.length = n) (h0 : 0 < n) (k : Nat) : ∃ x ∈ l, atI l ((k : Int) % (n : Int)) = some x := by
  have hlt : k % n < l.length := by rw [h]; exact Nat.mod_lt _ h0
  refine ⟨l[k % n], List.getElem_mem hlt, ?_⟩
  rw [show (k : Int) % (n : Int) = ((k % n : Nat) : Int) from (Int.natCast_emod k n).symm]
  exact atI_nat (List.getElem?_eq_getElem hlt)
theorem odd_lf {d : D} (h : d ∈ odd13) : OddL d := ⟨(odd13_fine h).1, (odd13_fine h).2, .inr (.inl h)⟩
theorem odd15 {d : D} (h : d ∈ [D.tup [D.str (Str.ofString "stay"), D.str (Str.ofString "a")], D.tup [], D.str (Str.ofString "stay"), D.rol [D.str (Str.ofString "stay")], D.tup [D.str (Str.ofString "step"), D.str (Str.ofString "up"), D.str (Str.ofString "a")],
    D.tup [D.str (Str.ofString "step"), D.str (Str.ofString "on")], D.tup [D.str (Str.ofString "step"), D.str (Str.ofString "on"), D.str (Str.ofString "")], D.tup [D.str (Str.ofString "at"), D.str (Str.ofString "A")], D.non,
    D.tup [D.str (Str.ofString "step"), D.str (Str.ofString "on"), D.str (Str.ofString "**")], D.tup [D.str (Str.ofString "at"), D.str (Str.ofString "*")], D.tup [D.str (Str.ofString "off")], D.tup [D.str (Str.ofString "then"), D.tup []],
    D.tup [D.str (Str.ofString "many"), D.tup [D.str (Str.ofString "stay")]], D.tup [D.str (Str.ofString "at"), D.str (Str.ofString "ninesigns")]]) : OddL d := by
  by_cases h1 : d = ptD (.seq true [])
  · subst h1
    exact ⟨(fine_of (by decide +kernel) (by decide +kernel) (by decide +kernel)).1, by decide +kernel, .inr (.inr (.inl rfl))⟩
  by_cases h2 : d = ptD (.many .stay)
  · subst h2
    exact ⟨(fine_of (by decide +kernel) (by decide +kernel) (by decide +kernel)).1, by decide +kernel, .inr (.inr (.inr rfl))⟩
  refine odd_lf ?_
  have h1 : ¬ d = D.tup [D.str (Str.ofString "then"), D.tup []] := h1
  have h2 : ¬ d = D.tup [D.str (Str.ofString "many"), D.tup [D.str (Str.ofString "stay")]] := h2
  simp only [odd13, List.mem_cons, List.not_mem_nil, or_false] at h ⊢
  simp only [h1, h2, false_or] at h
  exact h
def t_l_odd_leaf : DTS := (dSeq (dAsg (dLst (dCons (dTup (dCons (dC (.str "stay")) (dCons (dC (.str "a")) dNil))) (dCons (dTup dNil) (dCons (dC (.str "stay")) (dCons (dLstF (dCons (dC (.str "stay")) dNil)) (dCons (dTup (dCons (dC (.str "step")) (dCons (dC (.str "up")) (dCons (dC (.str "a")) dNil)))) (dCons (dTup (dCons (dC (.str "step")) (dCons (dC (.str "on")) dNil))) dNil))))))) (dGN 1))
    (dSeq (dDrop (dBM "list" mExtend (dVar 1) (dCons (dLstF (dCons (dTup (dCons (dC (.str "step")) (dCons (dC (.str "on")) (dCons (dC (.str "")) dNil)))) (dCons (dTup (dCons (dC (.str "at")) (dCons (dC (.str "A")) dNil))) (dCons (dC .non) dNil)))) dNil)))
    (dSeq (dDrop (dBM "list" mExtend (dVar 1) (dCons (dLstF (dCons (dTup (dCons (dC (.str "step")) (dCons (dC (.str "on")) (dCons (dC (.str "**")) dNil)))) (dCons (dTup (dCons (dC (.str "at")) (dCons (dC (.str "*")) dNil))) (dCons (dTup (dCons (dC (.str "off")) dNil)) (dCons (dTup (dCons (dC (.str "then")) (dCons (dTup dNil) dNil))) (dCons (dTup (dCons (dC (.str "many")) (dCons (dTup (dCons (dC (.str "stay")) dNil)) dNil))) dNil)))))) dNil)))
    (dSeq (dDrop (dBM "list" mAppend (dVar 1) (dCons (dTup (dCons (dC (.str "at")) (dCons (dC (.str "ninesigns")) dNil))) dNil)))
    (dRet (dOp dIxS (dVar 1) (dOp rMod (dVar 0) (dC (.int 15)))))))))
abbrev N_l_odd_leaf : List Str := ["_law_number", "_law_odd"]
def t_l_odd_stand : DTS := (dRet (dOp dIxS (dLstF (dCons (dVar 1) (dCons (dNeg (dC (.int 1))) (dCons (dC (.bl true)) (dCons (dC (.str "0")) (dCons (dC .non) (dCons (dOp rPow (dC (.int 10)) (dC (.int 19))) (dCons (dOp rSub (dC (.int 0)) (dOp rPow (dC (.int 10)) (dC (.int 19)))) (dCons (dTup (dCons (dC (.int 0)) dNil)) (dCons (dC (.bl false)) dNil)))))))))) (dOp rMod (dVar 0) (dC (.int 9)))))
abbrev N_l_odd_stand : List Str := ["_law_number", "_law_many"]
theorem r_l_odd_leaf (ds S Q E) (h : sp_l_odd_leaf ds S Q E) : t_l_odd_leaf (dEnd Q E) (dstart N_l_odd_leaf ds) S := by
  obtain ⟨k, rfl, h⟩ := h
  unfold t_l_odd_leaf
  refine dSeq_gen fun R hR => ?_
  simp [dstart]
  intro p hp
  subst hR
  refine dSeq_gen fun R hR => ?_
  simp
  subst hR
  refine dSeq_gen fun R hR => ?_
  simp
  subst hR
  refine dSeq_gen fun R hR => ?_
  simp
  subst hR
  simp
  obtain ⟨x, hx, e⟩ := atI_mod [D.tup [D.str (Str.ofString "stay"), D.str (Str.ofString "a")], D.tup [], D.str (Str.ofString "stay"), D.rol [D.str (Str.ofString "stay")], D.tup [D.str (Str.ofString "step"), D.str (Str.ofString "up"), D.str (Str.ofString "a")],
    D.tup [D.str (Str.ofString "step"), D.str (Str.ofString "on")], D.tup [D.str (Str.ofString "step"), D.str (Str.ofString "on"), D.str (Str.ofString "")], D.tup [D.str (Str.ofString "at"), D.str (Str.ofString "A")], D.non,
    D.tup [D.str (Str.ofString "step"), D.str (Str.ofString "on"), D.str (Str.ofString "**")], D.tup [D.str (Str.ofString "at"), D.str (Str.ofString "*")], D.tup [D.str (Str.ofString "off")], D.tup [D.str (Str.ofString "then"), D.tup []],
    D.tup [D.str (Str.ofString "many"), D.tup [D.str (Str.ofString "stay")]], D.tup [D.str (Str.ofString "at"), D.str (Str.ofString "ninesigns")]] 15 rfl (by decide) k
  have e : atI [D.tup [D.str (Str.ofString "stay"), D.str (Str.ofString "a")], D.tup [], D.str (Str.ofString "stay"), D.rol [D.str (Str.ofString "stay")], D.tup [D.str (Str.ofString "step"), D.str (Str.ofString "up"), D.str (Str.ofString "a")],
    D.tup [D.str (Str.ofString "step"), D.str (Str.ofString "on")], D.tup [D.str (Str.ofString "step"), D.str (Str.ofString "on"), D.str (Str.ofString "")], D.tup [D.str (Str.ofString "at"), D.str (Str.ofString "A")], D.non,
    D.tup [D.str (Str.ofString "step"), D.str (Str.ofString "on"), D.str (Str.ofString "**")], D.tup [D.str (Str.ofString "at"), D.str (Str.ofString "*")], D.tup [D.str (Str.ofString "off")], D.tup [D.str (Str.ofString "then"), D.tup []],
    D.tup [D.str (Str.ofString "many"), D.tup [D.str (Str.ofString "stay")]], D.tup [D.str (Str.ofString "at"), D.str (Str.ofString "ninesigns")]] ((k : Int) % 15) = some x := e
  rw [e, opt_some]
  exact .keep (S := S) (Sub.new hp) (h x (odd15 hx))
theorem r_l_odd_stand (ds S Q E) (h : sp_l_odd_stand ds S Q E) : t_l_odd_stand (dEnd Q E) (dstart N_l_odd_stand ds) S := by
  obtain ⟨k, m, rfl, h⟩ := h
  unfold t_l_odd_stand
  simp [dstart]
  refine ⟨by unfold CPow; decide, ?_⟩
  obtain ⟨x, hx, e⟩ := atI_mod [D.int m, D.int (-1), D.bl true, D.str (Str.ofString "0"), D.non, D.int 10000000000000000000, D.int (-10000000000000000000), D.tup [D.int 0], D.bl false] 9 rfl (by decide) k
  have e : atI [D.int m, D.int (-1), D.bl true, D.str (Str.ofString "0"), D.non, D.int 10000000000000000000, D.int (-10000000000000000000), D.tup [D.int 0], D.bl false] ((k : Int) % 9) = some x := e
  rw [e, opt_some]
  refine .same (h x ?_)
  simp only [List.mem_cons, List.not_mem_nil, or_false] at hx
  rcases hx with rfl | rfl | rfl | rfl | rfl | rfl | rfl | rfl | rfl <;> exact fine_of (by first | rfl | decide +kernel) (by first | rfl | decide +kernel) (by first | rfl | decide +kernel)
end L30
set_option maxRecDepth 100000
set_option maxHeartbeats 4000000
namespace L30
open PySem PySem.Spec L2
open Rc
open ShB hiding dSeqWhile_gen
open Sh hiding N_l_cell_at N_l_leaf deeps_mem perm_map_ex r_l_cell_at r_l_leaf sp_l_leaf sp_l_leaf_mono srt_strict t_l_cell_at t_l_leaf
open Dt hiding nkeys sp_l_cell_at sp_l_cell_at_mono
/-! K30v: moves bent. -/
theorem fine_tup {ds : List D} (h : ∀ x ∈ ds, OddS x) : Fine (.tup ds) ∧ Fine (.rol ds) := by
  obtain ⟨h1, h2, _⟩ := fines fun x hx => (h x hx).1
  have h3 : deps ds ≤ 10 := deps_iff.mpr fun x hx => (h x hx).2
  exact ⟨⟨h1, h2, by show deps ds + 1 ≤ 20; omega⟩, ⟨h1, h2, by show deps ds + 1 ≤ 20; omega⟩⟩
theorem LfD.odd {p : D} (h : LfD p) : OddS p := by
  obtain ⟨p, lf, ok, rfl⟩ := h
  have hp : p.deep ≤ 1 := by cases p <;> first | exact Nat.le_refl _ | cases lf
  have s := (pt_sm p ok).mono (m := 10) (by omega)
  exact ⟨Sm.fine (n := 10) s (by decide), s.2⟩
theorem int_odd {i : Int} : OddS (.int i) := ⟨⟨rfl, rfl, Nat.zero_le _⟩, Nat.zero_le _⟩
theorem non_fine : Fine .non := ⟨rfl, rfl, Nat.zero_le _⟩
def MoO (x : D) : Prop := Fine x ∧ MoT x
theorem mo3 {a p b : D} (ha : OddS a) (hp : LfT p) (hp2 : OddS p) (hb : OddS b) : MoO (.tup [a, p, b]) := by
  have f : Fine (.tup [a, p, b]) := (fine_tup (ds := [a, p, b]) (by
    intro x hx
    simp only [List.mem_cons, List.not_mem_nil, or_false] at hx
    rcases hx with rfl | rfl | rfl <;> assumption)).1
  exact ⟨f, f.im, .inr ⟨a, p, b, rfl, ha.1.im, hp, hb.1.im⟩⟩
theorem mo_no {d : D} (f : Fine d) (h : ∀ a p b, d ≠ .tup [a, p, b]) : MoO d := ⟨f, f.im, .inl h⟩
def FrOk (fr : List D) : Prop := fr.length ≤ 2 ∧ ∀ x ∈ fr, MoO x
theorem fr_one {x : D} (h : MoO x) : FrOk [x] := ⟨Nat.le_succ 1, fun y hy => by rw [List.mem_singleton.mp hy]; exact h⟩
def MsB (L : Nat) (v : D) : Prop := imm v = true ∧ ((∀ vs, v ≠ .tup vs) ∨ ∃ vs, v = .tup vs ∧ vs.length ≤ L ∧ ∀ x ∈ vs, MoO x)
theorem msb {vs : List D} {L : Nat} (hl : vs.length ≤ L) (h : ∀ x ∈ vs, MoO x) : MsB L (.tup vs) := ⟨(fines fun x hx => (h x hx).1).1, .inr ⟨vs, rfl, hl, h⟩⟩
def sp_l_bent_moves : DSp := fun ds S Q _ => ∃ (vs : List D) (way k : Nat) (n : Int), ds = [.tup vs, .int (way : Nat), .int (k : Nat), .int n] ∧ 1 ≤ n ∧ (∀ x ∈ vs, MvN x n) ∧ vs.length ≤ 30 ∧ ∀ v, MsB (vs.length + 2) v → Q v S
theorem sp_l_bent_moves_mono : SpMono sp_l_bent_moves := fun ds S Q Q' E E' k _ ⟨vs, w, j, n, h1, h2, h3, h4, h⟩ => ⟨vs, w, j, n, h1, h2, h3, h4, fun v z => k _ _ (h v z)⟩
def t_l_bent_moves : DTS := (dSeq (dAsg (dOp rMod (dVar 2) (dOp dAddF (dCB cLen (dCons (dVar 0) dNil)) (dC (.int 1)))) (dGN 4))
    (dSeq (dAsg (dTup (dCons (dC (.int 0)) (dCons (dTup (dCons (dC (.str "stay")) dNil)) (dCons (dC (.int 0)) dNil)))) (dGN 5))
    (dSeq (dIf (dTest (dOp rLt (dVar 4) (dCB cLen (dCons (dVar 0) dNil))))
      (dAsg (dOp dIxS (dVar 0) (dVar 4)) (dGN 5))
      dNx)
    (dSeq (dAsg (dCall sp_l_odd_stand (dCons (dVar 2) (dCons (dVar 3) dNil))) (dGN 6))
    (dSeq (dAsg (dTup (dCons (dVar 5) (dCons (dVar 5) dNil))) (dGN 7))
    (dSeq (dIf (dTest (dOp (dEq false) (dVar 1) (dC (.int 0))))
      (dAsg (dTup (dCons (dTup (dCons (dVar 6) (dCons (dOp dIxS (dVar 5) (dC (.int 1))) (dCons (dOp dIxS (dVar 5) (dC (.int 2))) dNil)))) dNil)) (dGN 7))
      dNx)
    (dSeq (dIf (dTest (dOp (dEq false) (dVar 1) (dC (.int 1))))
      (dAsg (dTup (dCons (dTup (dCons (dOp dIxS (dVar 5) (dC (.int 0))) (dCons (dOp dIxS (dVar 5) (dC (.int 1))) (dCons (dVar 6) dNil)))) dNil)) (dGN 7))
      dNx)
    (dSeq (dIf (dTest (dOp (dEq false) (dVar 1) (dC (.int 2))))
      (dAsg (dTup (dCons (dTup (dCons (dOp dIxS (dVar 5) (dC (.int 0))) (dCons (dCall sp_l_odd_leaf (dCons (dVar 2) dNil)) (dCons (dOp dIxS (dVar 5) (dC (.int 2))) dNil)))) dNil)) (dGN 7))
      dNx)
    (dSeq (dIf (dTest (dOp (dEq false) (dVar 1) (dC (.int 4))))
      (dRet (dBackT (dVar 0)))
      dNx)
    (dSeq (dIf (dTest (dOp (dEq false) (dVar 1) (dC (.int 5))))
      (dAsg (dTup (dCons (dOp dIxS (dLstF (dCons (dCB cListAF (dCons (dVar 5) dNil)) (dCons (dSlF (dVar 5) dNoP (dSoP (dC (.int 2)))) (dCons (dOp dAddF (dVar 5) (dTup (dCons (dC (.int 0)) dNil))) (dCons (dC .non) dNil))))) (dOp rMod (dVar 2) (dC (.int 4)))) dNil)) (dGN 7))
      dNx)
    (dSeq (dIf (dTest (dOp (dEq false) (dVar 1) (dC (.int 6))))
      (dRet (dCB cListAF (dCons (dVar 0) dNil)))
      dNx)
    (dRet (dOp dAddF (dOp dAddF (dSlF (dVar 0) dNoP (dSoP (dVar 4))) (dVar 7)) (dSlF (dVar 0) (dSoP (dOp dAddF (dVar 4) (dC (.int 1)))) dNoP))))))))))))))
abbrev N_l_bent_moves : List Str := ["_law_moves", "_law_way", "_law_number", "_law_many", "_law_at", "_law_move", "_law_odd", "_law_fresh"]
theorem r_l_bent_moves (ds S Q E) (h : sp_l_bent_moves ds S Q E) : t_l_bent_moves (dEnd Q E) (dstart N_l_bent_moves ds) S := by
  obtain ⟨vs, way, k, n, rfl, hn, hv, hl, h⟩ := h
  unfold t_l_bent_moves
  refine dSeq_gen fun R hR => ?_
  simp [dstart]
  obtain ⟨at_, eat, hat⟩ : ∃ at_ : Nat, (k : Int) % ((vs.length : Int) + 1) = (at_ : Int) ∧ at_ ≤ vs.length :=
    ⟨k % (vs.length + 1), by rw [show ((vs.length : Int) + 1) = ((vs.length + 1 : Nat) : Int) from rfl]; exact (Int.natCast_emod ..).symm, Nat.le_of_lt_succ (Nat.mod_lt _ (Nat.succ_pos _))⟩
  rw [eat]
  clear eat
  subst hR
  refine dSeq_gen fun R hR => ?_
  simp
  subst hR
  refine dSeqIf_gen fun A B R hA hB hR => ?_
  have J : ∀ (a p b : D), stN a n → LfD p → stN b n → R (dEnd Q E) [some (.tup vs), some (.int way), some (.int k), some (.int n), some (.int at_), some (.tup [a, p, b]), none, none] S := by
    intro a p b sa lp sb
    have oa : OddS a := by obtain ⟨i, rfl, _⟩ := sa; exact int_odd
    have ob : OddS b := by obtain ⟨i, rfl, _⟩ := sb; exact int_odd
    have mo : MoO (.tup [a, p, b]) := mo3 oa (.inl lp) lp.odd ob
    subst hR
    refine dSeq_gen fun R hR => ?_
    simp
    refine ⟨k, n, rfl, fun odd ho => ?_⟩
    subst hR
    refine dSeq_gen fun R hR => ?_
    simp
    subst hR
    refine dSeqIf_gen fun A B R hA hB hR => ?_
    have J : ∀ fr, FrOk fr → R (dEnd Q E) [some (.tup vs), some (.int way), some (.int k), some (.int n), some (.int at_), some (.tup [a, p, b]), some odd, some (.tup fr)] S := by
      intro fr hf
      subst hR
      refine dSeqIf_gen fun A B R hA hB hR => ?_
      have J : ∀ fr, FrOk fr → R (dEnd Q E) [some (.tup vs), some (.int way), some (.int k), some (.int n), some (.int at_), some (.tup [a, p, b]), some odd, some (.tup fr)] S := by
        intro fr hf
        subst hR
        refine dSeqIf_gen fun A B R hA hB hR => ?_
        have J : ∀ fr, FrOk fr → R (dEnd Q E) [some (.tup vs), some (.int way), some (.int k), some (.int n), some (.int at_), some (.tup [a, p, b]), some odd, some (.tup fr)] S := by
          intro fr hf
          subst hR
          refine dSeqIf_gen fun A B R hA hB hR => ?_
          simp
          by_cases c4 : way = 4
          · rw [if_pos (by omega)]
            subst hA
            simp
            exact .same (h _ (msb (by rw [List.length_reverse]; omega) fun x hx => (hv x (List.mem_reverse.mp hx)).fine))
          rw [if_neg (by omega)]
          subst hB
          simp
          subst hR
          refine dSeqIf_gen fun A B R hA hB hR => ?_
          have J : ∀ fr, FrOk fr → R (dEnd Q E) [some (.tup vs), some (.int way), some (.int k), some (.int n), some (.int at_), some (.tup [a, p, b]), some odd, some (.tup fr)] S := by
            intro fr hf
            subst hR
            refine dSeqIf_gen fun A B R hA hB hR => ?_
            simp
            by_cases c6 : way = 6
            · rw [if_pos (by omega)]
              subst hA
              simp
              refine .same (h _ ⟨(fines fun x hx => (hv x hx).fine.1).1, .inl fun _ e => by cases e⟩)
            rw [if_neg (by omega)]
            subst hB
            simp
            subst hR
            simp
            have fl := hf.1
            refine ⟨by omega, by omega, ?_⟩
            refine .same (h _ (msb ?_ fun x hx => ?_))
            · simp only [List.length_append, List.length_take, List.length_drop]
              omega
            · rcases List.mem_append.mp hx with hx | hx
              · exact (hv x (List.mem_of_mem_take hx)).fine
              · rcases List.mem_append.mp hx with hx | hx
                · exact hf.2 x hx
                · exact (hv x (List.mem_of_mem_drop hx)).fine
          simp
          by_cases c5 : way = 5
          · rw [if_pos (by omega)]
            subst hA
            simp
            obtain ⟨x, hx, e⟩ := atI_mod [D.rol [a, p, b], D.tup (cutD [a, p, b] none (some 2)), D.tup [a, p, b, D.int 0], D.non] 4 rfl (by decide) k
            have e : atI [D.rol [a, p, b], D.tup (cutD [a, p, b] none (some 2)), D.tup [a, p, b, D.int 0], D.non] ((k : Int) % 4) = some x := e
            rw [e, opt_some]
            refine J _ (fr_one ?_)
            have cut2 : cutD [a, p, b] none (some 2) = [a, p] := cutD_take [a, p, b] 2
            rw [cut2] at hx
            have odds : ∀ y ∈ [a, p, b, D.int 0], OddS y := by
              intro y hy
              simp only [List.mem_cons, List.not_mem_nil, or_false] at hy
              rcases hy with rfl | rfl | rfl | rfl
              · exact oa
              · exact lp.odd
              · exact ob
              · exact int_odd
            simp only [List.mem_cons, List.not_mem_nil, or_false] at hx
            rcases hx with rfl | rfl | rfl | rfl
            · exact mo_no (fine_tup (ds := [a, p, b]) fun y hy => odds y (by simp at hy ⊢; rcases hy with rfl | rfl | rfl <;> simp)).2 (fun _ _ _ e => by cases e)
            · exact mo_no (fine_tup (ds := [a, p]) fun y hy => odds y (by simp at hy ⊢; rcases hy with rfl | rfl <;> simp)).1 (fun _ _ _ e => by cases e)
            · exact mo_no (fine_tup odds).1 (fun _ _ _ e => by cases e)
            · exact mo_no non_fine (fun _ _ _ e => by cases e)
          rw [if_neg (by omega)]
          subst hB
          simp
          exact J fr hf
        simp
        by_cases c : way = 2
        · rw [if_pos (by omega)]
          subst hA
          simp
          exact ⟨k, rfl, fun d hd => J _ (fr_one (mo3 oa hd.2.2 ⟨hd.1, hd.2.1⟩ ob))⟩
        rw [if_neg (by omega)]
        subst hB
        simp
        exact J fr hf
      simp
      by_cases c : way = 1
      · rw [if_pos (by omega)]
        subst hA
        simp
        exact J _ (fr_one (mo3 oa (.inl lp) lp.odd ho))
      rw [if_neg (by omega)]
      subst hB
      simp
      exact J fr hf
    simp
    by_cases c : way = 0
    · rw [if_pos (by omega)]
      subst hA
      simp
      exact J _ (fr_one (mo3 ho (.inl lp) lp.odd ob))
    rw [if_neg (by omega)]
    subst hB
    simp
    exact J _ ⟨Nat.le_refl _, fun y hy => by simp only [List.mem_cons, List.not_mem_nil, or_false, or_self] at hy; rw [hy]; exact mo⟩
  simp
  by_cases c : at_ < vs.length
  · rw [if_pos c]
    subst hA
    obtain ⟨a, p, b, e, sa, lp, sb⟩ := hv vs[at_] (List.getElem_mem c)
    have i1 : atI vs (at_ : Int) = some (.tup [a, p, b]) := atI_nat (by rw [List.getElem?_eq_getElem c, e])
    simp [i1]
    exact J a p b sa lp sb
  · rw [if_neg c]
    subst hB
    simp
    exact J _ _ _ ⟨0, rfl, by omega, by omega⟩ ⟨.stay, rfl, fun q hq => (by simp [Pt.all] at hq; subst hq; trivial), rfl⟩ ⟨0, rfl, by omega, by omega⟩
end L30
set_option maxRecDepth 100000
set_option maxHeartbeats 4000000
namespace L30
open PySem PySem.Spec L2
open Rc
open ShB hiding dSeqWhile_gen
open Sh hiding N_l_cell_at N_l_leaf deeps_mem perm_map_ex r_l_cell_at r_l_leaf sp_l_leaf sp_l_leaf_mono srt_strict t_l_cell_at t_l_leaf
open Dt hiding nkeys sp_l_cell_at sp_l_cell_at_mono
/-! K30w: machines bent. -/
def EnL (L : Nat) (e : D) : Prop := imm e = true ∧ ((∀ es, e ≠ .tup es) ∨ ∃ es, e = .tup es ∧ es.length ≤ L ∧ ∀ x ∈ es, Fine x)
def ThL (E V : Nat) (d : D) : Prop := ThT d ∧ ∀ m b es vs, d = .tup [m, b, .tup es, .tup vs] → es.length ≤ E ∧ vs.length ≤ V
theorem th4 {E V : Nat} {m b e v : D} (im : imm m = true) (ib : imm b = true) (he : EnL E e) (hv : MsB V v) (hE : E ≤ 100) (hV : V ≤ 60) : ThL E V (.tup [m, b, e, v]) := by
  obtain ⟨ie, he⟩ := he
  obtain ⟨iv, hv⟩ := hv
  have i4 : imm (.tup [m, b, e, v]) = true := by
    show (imm m && (imm b && (imm e && (imm v && true)))) = true
    rw [im, ib, ie, iv]
    rfl
  refine ⟨⟨i4, .inr ⟨m, b, e, v, rfl, im, ib, ⟨ie, he.imp id fun ⟨es, h1, h2, h3⟩ => ⟨es, h1, by omega, h3⟩⟩, iv, hv.imp id fun ⟨vs, h1, h2, h3⟩ => ⟨vs, h1, by omega, h3⟩⟩⟩, fun m' b' es vs z => ?_⟩
  cases z
  refine ⟨?_, ?_⟩
  · rcases he with he | ⟨es', h1, h2, h3⟩
    · exact absurd rfl (he _)
    · cases h1
      exact h2
  · rcases hv with hv | ⟨vs', h1, h2, h3⟩
    · exact absurd rfl (hv _)
    · cases h1
      exact h2
theorem thno {E V : Nat} {d : D} (h1 : imm d = true) (h : ∀ a b c e, d ≠ .tup [a, b, c, e]) : ThL E V d := ⟨⟨h1, .inl h⟩, fun _ _ _ _ z => absurd z (h _ _ _ _)⟩
theorem enl {L : Nat} {es : List D} (hl : es.length ≤ L) (h : ∀ x ∈ es, Fine x) : EnL L (.tup es) := ⟨(fines h).1, .inr ⟨es, rfl, hl, h⟩⟩
theorem enno {L : Nat} {e : D} (h1 : imm e = true) (h : ∀ es, e ≠ .tup es) : EnL L e := ⟨h1, .inl h⟩
/-- a machine that is bent -/
structure McB (m : Int) (b : D) (es vs : List D) : Prop where
  m1 : 1 ≤ m
  m2 : m ≤ 10 ^ 20
  b : stN b m
  he : ∀ x ∈ es, stN x m
  hv : ∀ x ∈ vs, MvN x m
  el : es.length ≤ 28
  vl : vs.length ≤ 28
theorem stN.fine {d : D} {n : Int} (h : stN d n) : Fine d := by obtain ⟨i, rfl, _⟩ := h; exact int_odd.1
def sp_l_bent : DSp := fun ds S Q _ => ∃ (m : Int) (b : D) (es vs : List D) (way k : Nat), ds = [.tup [.int m, b, .tup es, .tup vs], .int (way : Nat), .int (k : Nat)] ∧ McB m b es vs ∧ ∀ d, ThL (es.length + 1) (vs.length + 2) d → Q d S
theorem sp_l_bent_mono : SpMono sp_l_bent := fun ds S Q Q' E E' kk _ ⟨m, b, es, vs, w, j, h1, h2, h⟩ => ⟨m, b, es, vs, w, j, h1, h2, fun v z => kk _ _ (h v z)⟩
def t_l_bent : DTS := (dSeq (dAsg (dVar 0) (dGTupA 4 (dGCons (dGN 3) (dGCons (dGN 4) (dGCons (dGN 5) (dGCons (dGN 6) dGNil))))))
    (dSeq (dIf (dTest (dOp rLt (dVar 1) (dC (.int 7))))
      (dSeq (dAsg (dCall sp_l_bent_moves (dCons (dVar 6) (dCons (dVar 1) (dCons (dVar 2) (dCons (dVar 3) dNil))))) (dGN 7))
    (dRet (dTup (dCons (dVar 3) (dCons (dVar 4) (dCons (dVar 5) (dCons (dVar 7) dNil)))))))
      dNx)
    (dSeq (dIf (dTest (dOp (dEq false) (dVar 1) (dC (.int 7))))
      (dRet (dTup (dCons (dVar 3) (dCons (dCall sp_l_odd_stand (dCons (dVar 2) (dCons (dVar 3) dNil))) (dCons (dVar 5) (dCons (dVar 6) dNil))))))
      dNx)
    (dSeq (dIf (dTest (dOp (dEq false) (dVar 1) (dC (.int 8))))
      (dRet (dTup (dCons (dVar 3) (dCons (dVar 4) (dCons (dOp dAddF (dVar 5) (dTup (dCons (dCall sp_l_odd_stand (dCons (dVar 2) (dCons (dVar 3) dNil))) dNil))) (dCons (dVar 6) dNil))))))
      dNx)
    (dSeq (dIf (dTest (dOp (dEq false) (dVar 1) (dC (.int 9))))
      (dRet (dTup (dCons (dVar 3) (dCons (dVar 4) (dCons (dOp dAddF (dVar 5) (dSlF (dVar 5) dNoP (dSoP (dC (.int 1))))) (dCons (dVar 6) dNil))))))
      dNx)
    (dSeq (dIf (dTest (dOp (dEq false) (dVar 1) (dC (.int 10))))
      (dRet (dTup (dCons (dVar 3) (dCons (dVar 4) (dCons (dBackT (dVar 5)) (dCons (dVar 6) dNil))))))
      dNx)
    (dSeq (dIf (dTest (dOp (dEq false) (dVar 1) (dC (.int 11))))
      (dRet (dTup (dCons (dVar 3) (dCons (dVar 4) (dCons (dOp dIxS (dLstF (dCons (dCB cListAF (dCons (dVar 5) dNil)) (dCons (dC (.int 0)) (dCons (dC .non) (dCons (dC (.str "01")) dNil))))) (dOp rMod (dVar 2) (dC (.int 4)))) (dCons (dVar 6) dNil))))))
      dNx)
    (dSeq (dIf (dTest (dOp (dEq false) (dVar 1) (dC (.int 12))))
      (dRet (dTup (dCons (dOp dIxS (dLstF (dCons (dC (.int 0)) (dCons (dNeg (dC (.int 1))) (dCons (dC (.bl true)) (dCons (dC (.str "3")) (dCons (dC .non) (dCons (dOp rSub (dVar 3) (dC (.int 1))) dNil))))))) (dOp rMod (dVar 2) (dC (.int 6)))) (dCons (dVar 4) (dCons (dVar 5) (dCons (dVar 6) dNil))))))
      dNx)
    (dSeq (dIf (dTest (dOp (dEq false) (dVar 1) (dC (.int 13))))
      (dSeq (dAsg (dLstF (dCons (dCB cListAF (dCons (dVar 0) dNil)) (dCons (dSlF (dVar 0) dNoP (dSoP (dC (.int 3)))) (dCons (dOp dAddF (dVar 0) (dTup (dCons (dTup dNil) dNil))) (dCons (dTup dNil) (dCons (dC .non) (dCons (dC (.int 7)) (dCons (dC (.str "machine")) dNil)))))))) (dGN 8))
    (dRet (dOp dIxS (dVar 8) (dOp rMod (dVar 2) (dC (.int 7))))))
      dNx)
    (dSeq (dIf (dTest (dOp (dEq false) (dVar 1) (dC (.int 14))))
      (dRet (dTup (dCons (dOp dIxS (dLstF (dCons (dOp rPow (dC (.int 10)) (dC (.int 19))) (dCons (dOp dAddF (dVar 3) (dC (.int 1))) dNil))) (dOp rMod (dVar 2) (dC (.int 2)))) (dCons (dVar 4) (dCons (dVar 5) (dCons (dVar 6) dNil))))))
      dNx)
    (dRet (dVar 0))))))))))))
abbrev N_l_bent : List Str := ["_law_machine_here", "_law_way", "_law_number", "_law_many", "_law_begin", "_law_ends", "_law_moves", "_law_bent_here", "_law_odd"]
theorem r_l_bent (ds S Q E) (h : sp_l_bent ds S Q E) : t_l_bent (dEnd Q E) (dstart N_l_bent ds) S := by
  obtain ⟨m, b, es, vs, way, k, rfl, hm, h⟩ := h
  have el := hm.el
  have vl := hm.vl
  have fb := hm.b.fine
  have fe : ∀ x ∈ es, Fine x := fun x hx => (hm.he x hx).fine
  have E0 : EnL (es.length + 1) (.tup es) := enl (by omega) fe
  have V0 : MsB (vs.length + 2) (.tup vs) := msb (by omega) fun x hx => (hm.hv x hx).fine
  have fin : ∀ {m b e v : D}, imm m = true → imm b = true → EnL (es.length + 1) e → MsB (vs.length + 2) v → Rt Q (.tup [m, b, e, v]) S := fun h1 h2 h3 h4 => .same (h _ (th4 h1 h2 h3 h4 (by omega) (by omega)))
  unfold t_l_bent
  refine dSeq_gen fun R hR => ?_
  simp [dstart]
  subst hR
  refine dSeqIf_gen fun A B R hA hB hR => ?_
  simp
  by_cases c : way < 7
  · rw [if_pos (by omega)]
    subst hA
    simp
    exact ⟨vs, way, k, m, rfl, hm.m1, hm.hv, by omega, fun v hv => fin rfl fb.im E0 hv⟩
  rw [if_neg (by omega)]
  subst hB
  simp
  subst hR
  refine dSeqIf_gen fun A B R hA hB hR => ?_
  simp
  by_cases c : way = 7
  · rw [if_pos (by omega)]
    subst hA
    simp
    exact ⟨k, m, rfl, fun d hd => fin rfl hd.1.im E0 V0⟩
  rw [if_neg (by omega)]
  subst hB
  simp
  subst hR
  refine dSeqIf_gen fun A B R hA hB hR => ?_
  simp
  by_cases c : way = 8
  · rw [if_pos (by omega)]
    subst hA
    simp
    refine ⟨k, m, rfl, fun d hd => ?_⟩
    dsimp only
    refine ⟨by omega, fin rfl fb.im (enl (by rw [List.length_append, List.length_singleton]; omega) fun x hx => ?_) V0⟩
    rcases List.mem_append.mp hx with hx | hx
    · exact fe x hx
    · rw [List.mem_singleton.mp hx]
      exact hd.1
  rw [if_neg (by omega)]
  subst hB
  simp
  subst hR
  refine dSeqIf_gen fun A B R hA hB hR => ?_
  simp
  by_cases c : way = 9
  · rw [if_pos (by omega)]
    subst hA
    simp
    rw [show cutD es none (some 1) = es.take 1 from cutD_take es 1]
    have l1 : (es.take 1).length ≤ 1 := by rw [List.length_take]; omega
    refine ⟨by omega, fin rfl fb.im (enl (by rw [List.length_append]; omega) fun x hx => ?_) V0⟩
    rcases List.mem_append.mp hx with hx | hx
    · exact fe x hx
    · exact fe x (List.mem_of_mem_take hx)
  rw [if_neg (by omega)]
  subst hB
  simp
  subst hR
  refine dSeqIf_gen fun A B R hA hB hR => ?_
  simp
  by_cases c : way = 10
  · rw [if_pos (by omega)]
    subst hA
    simp
    exact fin rfl fb.im (enl (by rw [List.length_reverse]; omega) fun x hx => fe x (List.mem_reverse.mp hx)) V0
  rw [if_neg (by omega)]
  subst hB
  simp
  subst hR
  refine dSeqIf_gen fun A B R hA hB hR => ?_
  simp
  by_cases c : way = 11
  · rw [if_pos (by omega)]
    subst hA
    simp
    obtain ⟨x, hx, e⟩ := atI_mod [D.rol es, D.int 0, D.non, D.str (Str.ofString "01")] 4 rfl (by decide) k
    have e : atI [D.rol es, D.int 0, D.non, D.str (Str.ofString "01")] ((k : Int) % 4) = some x := e
    rw [e, opt_some]
    simp only [List.mem_cons, List.not_mem_nil, or_false] at hx
    refine fin rfl fb.im ?_ V0
    rcases hx with rfl | rfl | rfl | rfl
    · exact enno (fines fe).1 fun _ e => by cases e
    all_goals exact enno rfl fun _ e => by cases e
  rw [if_neg (by omega)]
  subst hB
  simp
  subst hR
  refine dSeqIf_gen fun A B R hA hB hR => ?_
  simp
  by_cases c : way = 12
  · rw [if_pos (by omega)]
    subst hA
    simp
    obtain ⟨x, hx, e⟩ := atI_mod [D.int 0, D.int (-1), D.bl true, D.str (Str.ofString "3"), D.non, D.int (m - 1)] 6 rfl (by decide) k
    have e : atI [D.int 0, D.int (-1), D.bl true, D.str (Str.ofString "3"), D.non, D.int (m - 1)] ((k : Int) % 6) = some x := e
    rw [e, opt_some]
    simp only [List.mem_cons, List.not_mem_nil, or_false] at hx
    refine fin ?_ fb.im E0 V0
    rcases hx with rfl | rfl | rfl | rfl | rfl | rfl <;> rfl
  rw [if_neg (by omega)]
  subst hB
  simp
  subst hR
  refine dSeqIf_gen fun A B R hA hB hR => ?_
  simp
  by_cases c : way = 13
  · rw [if_pos (by omega)]
    subst hA
    simp
    obtain ⟨x, hx, e⟩ := atI_mod [D.rol [D.int m, b, D.tup es, D.tup vs], D.tup (cutD [D.int m, b, D.tup es, D.tup vs] none (some 3)), D.tup [D.int m, b, D.tup es, D.tup vs, D.tup []], D.tup [], D.non, D.int 7, D.str (Str.ofString "machine")] 7 rfl (by decide) k
    have e : atI [D.rol [D.int m, b, D.tup es, D.tup vs], D.tup (cutD [D.int m, b, D.tup es, D.tup vs] none (some 3)), D.tup [D.int m, b, D.tup es, D.tup vs, D.tup []], D.tup [], D.non, D.int 7, D.str (Str.ofString "machine")] ((k : Int) % 7) = some x := e
    rw [e, opt_some]
    rw [show cutD [D.int m, b, D.tup es, D.tup vs] none (some 3) = [D.int m, b, D.tup es] from cutD_take _ 3] at hx
    have ie : imms es = true := (fines fe).1
    have iv : imms vs = true := V0.1
    have ib : imm b = true := fb.im
    simp only [List.mem_cons, List.not_mem_nil, or_false] at hx
    refine .same (h _ ?_)
    rcases hx with rfl | rfl | rfl | rfl | rfl | rfl | rfl
    · exact thno (by simp [imm, imms, ie, iv, ib]) fun _ _ _ _ e => by cases e
    · exact thno (by simp [imm, imms, ie, iv, ib]) fun _ _ _ _ e => by cases e
    · exact thno (by simp [imm, imms, ie, iv, ib]) fun _ _ _ _ e => by cases e
    all_goals exact thno rfl fun _ _ _ _ e => by cases e
  rw [if_neg (by omega)]
  subst hB
  simp
  subst hR
  refine dSeqIf_gen fun A B R hA hB hR => ?_
  simp
  by_cases c : way = 14
  · rw [if_pos (by omega)]
    subst hA
    simp
    refine ⟨by unfold CPow; decide, ?_⟩
    obtain ⟨x, hx, e⟩ := atI_mod [D.int 10000000000000000000, D.int (m + 1)] 2 rfl (by decide) k
    have e : atI [D.int 10000000000000000000, D.int (m + 1)] ((k : Int) % 2) = some x := e
    rw [e, opt_some]
    simp only [List.mem_cons, List.not_mem_nil, or_false] at hx
    refine fin ?_ fb.im E0 V0
    rcases hx with rfl | rfl <;> rfl
  rw [if_neg (by omega)]
  subst hB
  simp
  subst hR
  simp
  exact fin rfl fb.im E0 V0
end L30
set_option maxRecDepth 100000
set_option maxHeartbeats 4000000
namespace L30
open PySem PySem.Spec L2
open Rc
open ShB hiding dSeqWhile_gen
open Sh hiding N_l_cell_at N_l_leaf deeps_mem perm_map_ex r_l_cell_at r_l_leaf sp_l_leaf sp_l_leaf_mono srt_strict t_l_cell_at t_l_leaf
open Dt hiding nkeys sp_l_cell_at sp_l_cell_at_mono
/-! K30x: the law. -/
theorem es_few {M : Mc} (om : OkMc M) : M.es.length ≤ M.n := by
  have := L2.nat_nodup_len M.es (List.range M.n) (om.es.imp fun {a b} z => Nat.ne_of_lt z) fun v hv => List.mem_range.mpr (om.esn v hv)
  rwa [List.length_range] at this
theorem mcb_of {M : Mc} (om : OkMc M) (hn : M.n ≤ 28) (hm : M.mv.length ≤ 28) : McB (M.n : Int) (.int (M.b : Int)) (natsD M.es) (M.mv.map mvD) where
  m1 := by have := om.b; omega
  m2 := by omega
  b := ⟨M.b, rfl, by omega, by have := om.b; omega⟩
  he := fun x hx => by
    obtain ⟨e, h, rfl⟩ := List.mem_map.mp hx
    have := om.esn e h
    exact ⟨e, rfl, by omega, by omega⟩
  hv := fun x hx => by
    obtain ⟨m, h, rfl⟩ := List.mem_map.mp hx
    obtain ⟨h1, h2, h3, h4⟩ := om.mvn m h
    exact ⟨_, _, _, rfl, ⟨m.a, rfl, by omega, by omega⟩, ⟨m.p, h3, h4, rfl⟩, ⟨m.b, rfl, by omega, by omega⟩⟩
  el := by
    rw [List.length_map]
    have := es_few om
    omega
  vl := by rw [List.length_map]; exact hm
theorem McB.th {m : Int} {b : D} {es vs : List D} (h : McB m b es vs) : ThT (.tup [.int m, b, .tup es, .tup vs]) :=
  (th4 (E := 28) (V := 28) rfl h.b.fine.im (enl h.el fun x hx => (h.he x hx).fine) (msb h.vl fun x hx => (h.hv x hx).fine) (by decide) (by decide)).1
theorem McN.mcb {d : D} {E V : Nat} (h : McN d) (t : ThL E V d) (hE : E ≤ 28) (hV : V ≤ 28) : ∃ m b es vs, d = .tup [.int m, b, .tup es, .tup vs] ∧ McB m b es vs := by
  obtain ⟨m, b, es, vs, rfl, h1, h2, h3, h4, h5, _⟩ := h
  obtain ⟨l1, l2⟩ := t.2 _ _ _ _ rfl
  exact ⟨m, b, es, vs, rfl, h1, h2, h3, h4, h5, by omega, by omega⟩
theorem cut_few (ds : List D) (h : ds.length ≤ 63) : (cutD ds none (some 19)).length ≤ 63 := by
  unfold cutD
  rw [List.length_take, List.length_drop]
  omega
def sp_law : DSp := fun ds S Q _ => ∃ ns : List Int, ds = [.rol (ns.map D.int)] ∧ ns.length ≤ 63 ∧ ∀ S', Q (.bl true) S'
theorem sp_law_mono : SpMono sp_law := fun ds S Q Q' E E' k _ ⟨ns, h1, h2, h⟩ => ⟨ns, h1, h2, fun S' => k _ _ (h S')⟩
def t_law : DTS := (dSeq (dFor (dRng1 (dCons (dOp dAddF (dC (.int 1)) (dCB cLen (dCons (dSlF (dVar 0) dNoP (dSoP (dC (.int 19)))) dNil))) dNil)) (dGN 1)
      (dSeq (dAsg (dCall sp_l_cell_at (dCons (dVar 0) (dCons (dVar 1) dNil))) (dGN 2))
    (dSeq (dAsg (dCall sp_l_machine (dCons (dVar 2) (dCons (dC (.int 6)) dNil))) (dGN 3))
    (dSeq (dAsg (dCall sp_l_draws (dCons (dOp rFdiv (dVar 2) (dC (.int 5))) (dCons (dLstF (dCons (dC (.int 16)) (dCons (dC (.int 720)) (dCons (dC (.int 16)) (dCons (dC (.int 720)) (dCons (dC (.int 2)) dNil)))))) dNil))) (dGN 4))
    (dSeq (dAsg (dCall sp_l_bent (dCons (dVar 3) (dCons (dOp dIxS (dVar 4) (dC (.int 0))) (dCons (dOp dIxS (dVar 4) (dC (.int 1))) dNil)))) (dGN 5))
    (dSeq (dIf (dAnd (dTest (dOp (dEq false) (dOp dIxS (dVar 4) (dC (.int 4))) (dC (.int 1)))) (dTest (dCall sp_l_is_machine (dCons (dVar 5) (dCons (dOp rPow (dC (.int 10)) (dC (.int 20))) dNil)))))
      (dAsg (dCall sp_l_bent (dCons (dVar 5) (dCons (dOp dIxS (dVar 4) (dC (.int 2))) (dCons (dOp dIxS (dVar 4) (dC (.int 3))) dNil)))) (dGN 5))
      dNx)
    (dFor (dSeqI (dLstF (dCons (dVar 3) (dCons (dVar 5) dNil)))) (dGN 6)
      (dSeq (dAsg (dCall sp_is_machine (dCons (dVar 6) dNil)) (dGN 7))
    (dIf (dOr (dNot (dTest (dIsi "bool" (dVar 7)))) (dTest (dOp (dEq true) (dVar 7) (dCall sp_l_is_machine (dCons (dVar 6) (dCons (dOp rPow (dC (.int 10)) (dC (.int 20))) dNil))))))
      (dRet (dC (.bl false)))
      dNx)))))))))
    (dRet (dC (.bl true))))
abbrev N_law : List Str := ["_law_script", "_law_k", "_law_cell", "_law_machine_here", "_law_ds", "_law_one", "_law_thing", "_law_found"]
theorem r_law (ds S Q E) (h : sp_law ds S Q E) : t_law (dEnd Q E) (dstart N_law ds) S := by
  obtain ⟨ns, rfl, hl, h⟩ := h
  unfold t_law
  refine dSeqFor_gen fun B R1 hB hR => ?_
  have hc := cut_few (ns.map D.int) (by simpa using hl)
  simp [dstart]
  generalize (cutD (ns.map D.int) none (some 19)).length = cl at hc
  refine ⟨⟨by omega, by omega⟩, ?_⟩
  rw [show (1 + (cl : Int)).toNat = 1 + cl by omega]
  refine loop_inv (fun i τ S' => ∃ x1 x2 x3 x4 x5 x6 x7 : Option D, τ = [some (.rol (ns.map D.int)), x1, x2, x3, x4, x5, x6, x7]) ⟨none, none, none, none, none, none, none, rfl⟩ (fun _ _ _ _ _ => trivial) (fun i d0 τ S0 N hd0 ⟨x1, x2, x3, x4, x5, x6, x7, et⟩ hN => ?_) (fun τ S0 ⟨x1, x2, x3, x4, x5, x6, x7, et⟩ => ?_)
  · subst et
    obtain ⟨hi, rfl⟩ := rng_get hd0
    simp
    subst hB
    refine dSeq_gen fun R2 hR2 => ?_
    simp
    refine ⟨ns, i, by simp, ?_⟩
    generalize ns.getD i 0 = c
    subst hR2
    refine dSeq_gen fun R2 hR2 => ?_
    simp
    refine ⟨c, 6, rfl, by decide, by decide, fun M om mn ml _ => ?_⟩
    have mb := mcb_of om (by omega) (by omega)
    have mt := mb.th
    subst hR2
    refine dSeq_gen fun R2 hR2 => ?_
    simp
    refine ⟨wide_div (by decide) (b := 3) (by decide) (by decide) (by decide), ?_⟩
    refine ⟨_, [16, 720, 16, 720, 2], rfl, by decide, by decide, fun rs hl' hlt => ?_⟩
    obtain ⟨v0, v1, v2, v3, v4, rfl⟩ : ∃ v0 v1 v2 v3 v4, rs = [v0, v1, v2, v3, v4] := by
      match rs, hl' with
      | [v0, v1, v2, v3, v4], _ => exact ⟨v0, v1, v2, v3, v4, rfl⟩
    clear hl' hlt
    subst hR2
    refine dSeq_gen fun R2 hR2 => ?_
    simp
    refine ⟨M.n, .int (M.b : Int), natsD M.es, M.mv.map mvD, v0, v1, rfl, mb, fun one ho => ?_⟩
    have e7 : (natsD M.es).length ≤ 6 := by
      have := es_few om
      rw [List.length_map]
      omega
    have e18 : (M.mv.map mvD).length ≤ 18 := by rw [List.length_map]; exact ml
    subst hR2
    refine dSeqIf_gen fun A2 B2 R2 hA2 hB2 hR2 => ?_
    have J : ∀ (one : D) (S1 : DH), ThT one → R2 { nx := N, rt := Rt Q, bk := R1 (dEnd Q E), ct := N, xe := (dEnd Q E).xe } [some (.rol (ns.map D.int)), some (.int i), some (.int c), some (machD M), some (.rol [.int (v0 : Int), .int (v1 : Int), .int (v2 : Int), .int (v3 : Int), .int (v4 : Int)]), some one, x6, x7] S1 := by
      intro one S1 ht
      subst hR2
      refine dFor_gen fun B3 hB3 => ?_
      have G : ∀ (A : DEnds) (d : D) (y : Option D) (S1 : DH), ThT d → (∀ y' S', A.nx [some (.rol (ns.map D.int)), some (.int i), some (.int c), some (machD M), some (.rol [.int (v0 : Int), .int (v1 : Int), .int (v2 : Int), .int (v3 : Int), .int (v4 : Int)]), some one, some d, y'] S') →
          B3 A [some (.rol (ns.map D.int)), some (.int i), some (.int c), some (machD M), some (.rol [.int (v0 : Int), .int (v1 : Int), .int (v2 : Int), .int (v3 : Int), .int (v4 : Int)]), some one, some d, y] S1 := by
        intro A d y S1 hd hA
        subst hB3
        refine dSeq_gen fun R5 hR5 => ?_
        simp
        refine ⟨d, rfl, hd, fun r1 h1 => ?_⟩
        subst hR5
        refine dIf_gen fun A5 B5 hA5 hB5 => ?_
        simp [tyName]
        refine ⟨by unfold CPow; decide, d, rfl, hd, fun r2 h2 S2 _ => ?_⟩
        have e : r1 = r2 := by
          have : r1 = true ↔ r2 = true := h1.trans h2.symm
          cases r1 <;> cases r2 <;> simp at this <;> rfl
        subst e
        simp
        subst hB5
        simp
        exact hA _ _
      simp
      refine G _ _ _ _ mt fun y' S' => ?_
      simp
      refine G _ _ _ _ ht fun y' S' => ?_
      exact hN _ _ ⟨_, _, _, _, _, _, _, rfl⟩
    have i4 : atI [D.int (v0 : Int), D.int (v1 : Int), D.int (v2 : Int), D.int (v3 : Int), D.int (v4 : Int)] 4 = some (D.int (v4 : Int)) := rfl
    have i2 : atI [D.int (v0 : Int), D.int (v1 : Int), D.int (v2 : Int), D.int (v3 : Int), D.int (v4 : Int)] 2 = some (D.int (v2 : Int)) := rfl
    have i3 : atI [D.int (v0 : Int), D.int (v1 : Int), D.int (v2 : Int), D.int (v3 : Int), D.int (v4 : Int)] 3 = some (D.int (v3 : Int)) := rfl
    simp [i4]
    by_cases c4 : v4 = 1
    · rw [if_pos (by omega)]
      refine ⟨by unfold CPow; decide, one, rfl, ho.1, fun r hr S1 x1 => ?_⟩
      dsimp only
      cases r with
      | true =>
        simp
        subst hA2
        obtain ⟨m, b, es, vs, rfl, mb2⟩ := (hr.mp rfl).mcb ho (by omega) (by omega)
        simp [i2, i3]
        exact ⟨m, b, es, vs, v2, v3, rfl, mb2, fun d hd => J d S1 hd.1⟩
      | false =>
        simp
        subst hB2
        simp
        exact J one S1 ho.1
    · rw [if_neg (by omega)]
      subst hB2
      simp
      exact J one S0 ho.1
  · subst et hR
    simp
    exact .same (h _)
end L30
set_option maxRecDepth 100000
set_option maxHeartbeats 4000000
namespace K30X
open PySem PySem.Spec L2
open L30
open Rc hiding N_is_pattern N_parts_right r_is_pattern r_parts_right sp_is_pattern sp_is_pattern_mono sp_parts_right sp_parts_right_mono t_is_pattern t_parts_right
open ShB hiding dSeqWhile_gen
open Sh hiding N_l_cell_at N_l_leaf deeps_mem perm_map_ex r_l_cell_at r_l_leaf sp_l_leaf sp_l_leaf_mono srt_strict t_l_cell_at t_l_leaf
open Dt hiding nkeys sp_l_cell_at sp_l_cell_at_mono
/-! the text by places -/
def topS (i : Nat) : Stmt := PySem.Challenge.pw_pathask_k30_what_is_a_machine.main.body.getD i (.Pass ⟨0, 0, 0, 0⟩)
abbrev s_is_name : Stmt := topS 3
theorem sc_is_name : FnScope ["thing", "sign"] ["thing"] (defScope s_is_name) := ⟨rfl, rfl, rfl, by decide +kernel, rfl, by decide +kernel, by decide +kernel⟩
abbrev s_is_one_of : Stmt := topS 11
theorem sc_is_one_of : FnScope ["thing", "some"] ["thing", "some"] (defScope s_is_one_of) := ⟨rfl, rfl, rfl, by decide +kernel, rfl, by decide +kernel, by decide +kernel⟩
abbrev s_is_whole : Stmt := topS 18
theorem sc_is_whole : FnScope ["thing", "least", "most"] ["thing", "least", "most"] (defScope s_is_whole) := ⟨rfl, rfl, rfl, by decide +kernel, rfl, by decide +kernel, by decide +kernel⟩
abbrev s_rises : Stmt := topS 22
theorem sc_rises : FnScope ["things", "place"] ["things"] (defScope s_rises) := ⟨rfl, rfl, rfl, by decide +kernel, rfl, by decide +kernel, by decide +kernel⟩
abbrev s_l_cell_at : Stmt := topS 25
theorem sc_l_cell_at : FnScope ["_law_script", "_law_k"] ["_law_script", "_law_k"] (defScope s_l_cell_at) := ⟨rfl, rfl, rfl, by decide +kernel, rfl, by decide +kernel, by decide +kernel⟩
abbrev s_l_draws : Stmt := topS 26
theorem sc_l_draws : FnScope ["_law_cell", "_law_sizes", "_law_found", "_law_figures", "_law_k", "_law_mixed"] ["_law_cell", "_law_sizes"] (defScope s_l_draws) := ⟨rfl, rfl, rfl, by decide +kernel, rfl, by decide +kernel, by decide +kernel⟩
abbrev s_l_words : Stmt := topS 27
theorem sc_l_words : FnScope [] [] (defScope s_l_words) := ⟨rfl, rfl, rfl, by decide +kernel, rfl, by decide +kernel, by decide +kernel⟩
abbrev s_l_marks : Stmt := topS 28
theorem sc_l_marks : FnScope [] [] (defScope s_l_marks) := ⟨rfl, rfl, rfl, by decide +kernel, rfl, by decide +kernel, by decide +kernel⟩
abbrev s_l_is_stand : Stmt := topS 32
theorem sc_l_is_stand : FnScope ["_law_thing", "_law_many"] ["_law_thing", "_law_many"] (defScope s_l_is_stand) := ⟨rfl, rfl, rfl, by decide +kernel, rfl, by decide +kernel, by decide +kernel⟩
abbrev s_l_is_name : Stmt := topS 33
theorem sc_l_is_name : FnScope ["_law_thing", "_law_sign"] ["_law_thing"] (defScope s_l_is_name) := ⟨rfl, rfl, rfl, by decide +kernel, rfl, by decide +kernel, by decide +kernel⟩
abbrev s_l_odd_leaf : Stmt := topS 35
theorem sc_l_odd_leaf : FnScope ["_law_number", "_law_odd"] ["_law_number"] (defScope s_l_odd_leaf) := ⟨rfl, rfl, rfl, by decide +kernel, rfl, by decide +kernel, by decide +kernel⟩
abbrev s_l_odd_stand : Stmt := topS 36
theorem sc_l_odd_stand : FnScope ["_law_number", "_law_many"] ["_law_number", "_law_many"] (defScope s_l_odd_stand) := ⟨rfl, rfl, rfl, by decide +kernel, rfl, by decide +kernel, by decide +kernel⟩
abbrev s_is_word : Stmt := topS 10
theorem sc_is_word : FnScope ["thing"] ["thing"] (defScope s_is_word) := ⟨rfl, rfl, rfl, by decide +kernel, rfl, by decide +kernel, by decide +kernel⟩
abbrev s_l_leaf : Stmt := topS 29
theorem sc_l_leaf : FnScope ["_law_way", "_law_number"] ["_law_way", "_law_number"] (defScope s_l_leaf) := ⟨rfl, rfl, rfl, by decide +kernel, rfl, by decide +kernel, by decide +kernel⟩
abbrev s_l_is_leaf : Stmt := topS 34
theorem sc_l_is_leaf : FnScope ["_law_thing"] ["_law_thing"] (defScope s_l_is_leaf) := ⟨rfl, rfl, rfl, by decide +kernel, rfl, by decide +kernel, by decide +kernel⟩
abbrev s_l_bent_moves : Stmt := topS 37
theorem sc_l_bent_moves : FnScope ["_law_moves", "_law_way", "_law_number", "_law_many", "_law_at", "_law_move", "_law_odd", "_law_fresh"] ["_law_moves", "_law_way", "_law_number", "_law_many"] (defScope s_l_bent_moves) := ⟨rfl, rfl, rfl, by decide +kernel, rfl, by decide +kernel, by decide +kernel⟩
abbrev s_is_leaf_patterns : Stmt := topS 12
theorem sc_is_leaf_patterns : FnScope ["thing"] ["thing"] (defScope s_is_leaf_patterns) := ⟨rfl, rfl, rfl, by decide +kernel, rfl, by decide +kernel, by decide +kernel⟩
abbrev s_l_machine : Stmt := topS 30
theorem sc_l_machine : FnScope ["_law_cell", "_law_most", "_law_ds", "_law_many", "_law_ends", "_law_moves", "_law_j", "_law_one", "_law_way", "_law_number", "_law_other", "_law_stand"] ["_law_cell", "_law_most"] (defScope s_l_machine) := ⟨rfl, rfl, rfl, by decide +kernel, rfl, by decide +kernel, by decide +kernel⟩
abbrev s_l_is_machine : Stmt := topS 31
theorem sc_l_is_machine : FnScope ["_law_thing", "_law_most", "_law_many", "_law_begin", "_law_ends", "_law_moves", "_law_stands", "_law_move", "_law_stand"] ["_law_thing", "_law_most"] (defScope s_l_is_machine) := ⟨rfl, rfl, rfl, by decide +kernel, rfl, by decide +kernel, by decide +kernel⟩
abbrev s_l_bent : Stmt := topS 38
theorem sc_l_bent : FnScope ["_law_machine_here", "_law_way", "_law_number", "_law_many", "_law_begin", "_law_ends", "_law_moves", "_law_bent_here", "_law_odd"] ["_law_machine_here", "_law_way", "_law_number"] (defScope s_l_bent) := ⟨rfl, rfl, rfl, by decide +kernel, rfl, by decide +kernel, by decide +kernel⟩
abbrev s_parts_right : Stmt := topS 14
theorem sc_parts_right : FnScope ["thing"] ["thing"] (defScope s_parts_right) := ⟨rfl, rfl, rfl, by decide +kernel, rfl, by decide +kernel, by decide +kernel⟩
abbrev s_is_pattern : Stmt := topS 15
theorem sc_is_pattern : FnScope ["thing", "left", "count", "part", "deep", "some", "one"] ["thing"] (defScope s_is_pattern) := ⟨rfl, rfl, rfl, by decide +kernel, rfl, by decide +kernel, by decide +kernel⟩
abbrev s_is_leaf_machines : Stmt := topS 19
theorem sc_is_leaf_machines : FnScope ["thing"] ["thing"] (defScope s_is_leaf_machines) := ⟨rfl, rfl, rfl, by decide +kernel, rfl, by decide +kernel, by decide +kernel⟩
abbrev s_is_move : Stmt := topS 21
theorem sc_is_move : FnScope ["thing", "last"] ["thing", "last"] (defScope s_is_move) := ⟨rfl, rfl, rfl, by decide +kernel, rfl, by decide +kernel, by decide +kernel⟩
abbrev s_is_machine : Stmt := topS 23
theorem sc_is_machine : FnScope ["thing", "many", "begin", "ends", "moves", "end", "move"] ["thing"] (defScope s_is_machine) := ⟨rfl, rfl, rfl, by decide +kernel, rfl, by decide +kernel, by decide +kernel⟩
abbrev s_law : Stmt := topS 39
theorem sc_law : FnScope ["_law_script", "_law_k", "_law_cell", "_law_machine_here", "_law_ds", "_law_one", "_law_thing", "_law_found"] ["_law_script"] (defScope s_law) := ⟨rfl, rfl, rfl, by decide +kernel, rfl, by decide +kernel, by decide +kernel⟩
set_option genInjectivity false in
set_option genSizeOf false in
structure Txt (w : World) (K : PySem.W.Frag) (mg : Str → Option Value) where
  a_is_name : Addr
  f_is_name : FuncData
  F_is_name : Fun K "is_name" "is_name" s_is_name a_is_name f_is_name
  m_is_name : mg "is_name" = some (.ref a_is_name)
  d_is_name : Binds K f_is_name ["thing"] []
  a_is_one_of : Addr
  f_is_one_of : FuncData
  F_is_one_of : Fun K "is_one_of" "is_one_of" s_is_one_of a_is_one_of f_is_one_of
  m_is_one_of : mg "is_one_of" = some (.ref a_is_one_of)
  d_is_one_of : Binds K f_is_one_of ["thing", "some"] []
  a_is_whole : Addr
  f_is_whole : FuncData
  F_is_whole : Fun K "is_whole" "is_whole" s_is_whole a_is_whole f_is_whole
  m_is_whole : mg "is_whole" = some (.ref a_is_whole)
  d_is_whole : Binds K f_is_whole ["thing", "least", "most"] []
  a_rises : Addr
  f_rises : FuncData
  F_rises : Fun K "rises" "rises" s_rises a_rises f_rises
  m_rises : mg "rises" = some (.ref a_rises)
  d_rises : Binds K f_rises ["things"] []
  a_l_cell_at : Addr
  f_l_cell_at : FuncData
  F_l_cell_at : Fun K "_law_cell_at" "_law_cell_at" s_l_cell_at a_l_cell_at f_l_cell_at
  m_l_cell_at : mg "_law_cell_at" = some (.ref a_l_cell_at)
  d_l_cell_at : Binds K f_l_cell_at ["_law_script", "_law_k"] []
  a_l_draws : Addr
  f_l_draws : FuncData
  F_l_draws : Fun K "_law_draws" "_law_draws" s_l_draws a_l_draws f_l_draws
  m_l_draws : mg "_law_draws" = some (.ref a_l_draws)
  d_l_draws : Binds K f_l_draws ["_law_cell", "_law_sizes"] []
  a_l_words : Addr
  f_l_words : FuncData
  F_l_words : Fun K "_law_words" "_law_words" s_l_words a_l_words f_l_words
  m_l_words : mg "_law_words" = some (.ref a_l_words)
  d_l_words : Binds K f_l_words [] []
  a_l_marks : Addr
  f_l_marks : FuncData
  F_l_marks : Fun K "_law_marks" "_law_marks" s_l_marks a_l_marks f_l_marks
  m_l_marks : mg "_law_marks" = some (.ref a_l_marks)
  d_l_marks : Binds K f_l_marks [] []
  a_l_is_stand : Addr
  f_l_is_stand : FuncData
  F_l_is_stand : Fun K "_law_is_stand" "_law_is_stand" s_l_is_stand a_l_is_stand f_l_is_stand
  m_l_is_stand : mg "_law_is_stand" = some (.ref a_l_is_stand)
  d_l_is_stand : Binds K f_l_is_stand ["_law_thing", "_law_many"] []
  a_l_is_name : Addr
  f_l_is_name : FuncData
  F_l_is_name : Fun K "_law_is_name" "_law_is_name" s_l_is_name a_l_is_name f_l_is_name
  m_l_is_name : mg "_law_is_name" = some (.ref a_l_is_name)
  d_l_is_name : Binds K f_l_is_name ["_law_thing"] []
  a_l_odd_leaf : Addr
  f_l_odd_leaf : FuncData
  F_l_odd_leaf : Fun K "_law_odd_leaf" "_law_odd_leaf" s_l_odd_leaf a_l_odd_leaf f_l_odd_leaf
  m_l_odd_leaf : mg "_law_odd_leaf" = some (.ref a_l_odd_leaf)
  d_l_odd_leaf : Binds K f_l_odd_leaf ["_law_number"] []
  a_l_odd_stand : Addr
  f_l_odd_stand : FuncData
  F_l_odd_stand : Fun K "_law_odd_stand" "_law_odd_stand" s_l_odd_stand a_l_odd_stand f_l_odd_stand
  m_l_odd_stand : mg "_law_odd_stand" = some (.ref a_l_odd_stand)
  d_l_odd_stand : Binds K f_l_odd_stand ["_law_number", "_law_many"] []
  a_is_word : Addr
  f_is_word : FuncData
  F_is_word : Fun K "is_word" "is_word" s_is_word a_is_word f_is_word
  m_is_word : mg "is_word" = some (.ref a_is_word)
  d_is_word : Binds K f_is_word ["thing"] []
  a_l_leaf : Addr
  f_l_leaf : FuncData
  F_l_leaf : Fun K "_law_leaf" "_law_leaf" s_l_leaf a_l_leaf f_l_leaf
  m_l_leaf : mg "_law_leaf" = some (.ref a_l_leaf)
  d_l_leaf : Binds K f_l_leaf ["_law_way", "_law_number"] []
  a_l_is_leaf : Addr
  f_l_is_leaf : FuncData
  F_l_is_leaf : Fun K "_law_is_leaf" "_law_is_leaf" s_l_is_leaf a_l_is_leaf f_l_is_leaf
  m_l_is_leaf : mg "_law_is_leaf" = some (.ref a_l_is_leaf)
  d_l_is_leaf : Binds K f_l_is_leaf ["_law_thing"] []
  a_l_bent_moves : Addr
  f_l_bent_moves : FuncData
  F_l_bent_moves : Fun K "_law_bent_moves" "_law_bent_moves" s_l_bent_moves a_l_bent_moves f_l_bent_moves
  m_l_bent_moves : mg "_law_bent_moves" = some (.ref a_l_bent_moves)
  d_l_bent_moves : Binds K f_l_bent_moves ["_law_moves", "_law_way", "_law_number", "_law_many"] []
  a_is_leaf_patterns : Addr
  f_is_leaf_patterns : FuncData
  F_is_leaf_patterns : Fun K "is_leaf" "is_leaf" s_is_leaf_patterns a_is_leaf_patterns f_is_leaf_patterns
  m_is_leaf_patterns : mg "is_leaf_patterns" = some (.ref a_is_leaf_patterns)
  d_is_leaf_patterns : Binds K f_is_leaf_patterns ["thing"] []
  a_l_machine : Addr
  f_l_machine : FuncData
  F_l_machine : Fun K "_law_machine" "_law_machine" s_l_machine a_l_machine f_l_machine
  m_l_machine : mg "_law_machine" = some (.ref a_l_machine)
  d_l_machine : Binds K f_l_machine ["_law_cell", "_law_most"] []
  a_l_is_machine : Addr
  f_l_is_machine : FuncData
  F_l_is_machine : Fun K "_law_is_machine" "_law_is_machine" s_l_is_machine a_l_is_machine f_l_is_machine
  m_l_is_machine : mg "_law_is_machine" = some (.ref a_l_is_machine)
  d_l_is_machine : Binds K f_l_is_machine ["_law_thing", "_law_most"] []
  a_l_bent : Addr
  f_l_bent : FuncData
  F_l_bent : Fun K "_law_bent" "_law_bent" s_l_bent a_l_bent f_l_bent
  m_l_bent : mg "_law_bent" = some (.ref a_l_bent)
  d_l_bent : Binds K f_l_bent ["_law_machine_here", "_law_way", "_law_number"] []
  a_parts_right : Addr
  f_parts_right : FuncData
  F_parts_right : Fun K "parts_right" "parts_right" s_parts_right a_parts_right f_parts_right
  m_parts_right : mg "parts_right" = some (.ref a_parts_right)
  d_parts_right : Binds K f_parts_right ["thing"] []
  a_is_pattern : Addr
  f_is_pattern : FuncData
  F_is_pattern : Fun K "is_pattern" "is_pattern" s_is_pattern a_is_pattern f_is_pattern
  m_is_pattern : mg "is_pattern" = some (.ref a_is_pattern)
  d_is_pattern : Binds K f_is_pattern ["thing"] []
  a_is_leaf_machines : Addr
  f_is_leaf_machines : FuncData
  F_is_leaf_machines : Fun K "is_leaf" "is_leaf" s_is_leaf_machines a_is_leaf_machines f_is_leaf_machines
  m_is_leaf_machines : mg "is_leaf_machines" = some (.ref a_is_leaf_machines)
  d_is_leaf_machines : Binds K f_is_leaf_machines ["thing"] []
  a_is_move : Addr
  f_is_move : FuncData
  F_is_move : Fun K "is_move" "is_move" s_is_move a_is_move f_is_move
  m_is_move : mg "is_move" = some (.ref a_is_move)
  d_is_move : Binds K f_is_move ["thing", "last"] []
  a_is_machine : Addr
  f_is_machine : FuncData
  F_is_machine : Fun K "is_machine" "is_machine" s_is_machine a_is_machine f_is_machine
  m_is_machine : mg "is_machine" = some (.ref a_is_machine)
  d_is_machine : Binds K f_is_machine ["thing"] []
  a_law : Addr
  f_law : FuncData
  F_law : Fun K "law" "law" s_law a_law f_law
  m_law : mg "law" = some (.ref a_law)
  d_law : Binds K f_law ["_law_script"] []
  t_ANY_WORD : Tok
  g_ANY_WORD : mg "ANY_WORD" = some (.str "*" t_ANY_WORD)
  a_LEAVES : Addr
  i_LEAVES : Array Value
  n_LEAVES : Nat
  o_LEAVES : Option Addr
  s_LEAVES : Array (Option Value)
  g_LEAVES : mg "LEAVES" = some (.ref a_LEAVES)
  l_LEAVES : K.lookup a_LEAVES = some ⟨.type "tuple", o_LEAVES, .seq i_LEAVES n_LEAVES, s_LEAVES⟩
  z_LEAVES : i_LEAVES.size ≤ sizeLine
  v_LEAVES : ∃ vs : List V, Vals vs i_LEAVES.toList ∧ ∀ H, RDs K H [.str "stay", .str "step", .str "at", .str "off"] vs
  t_LETTERS : Tok
  g_LETTERS : mg "LETTERS" = some (.str "abcdefghijklmnopqrstuvwxyz" t_LETTERS)
  t_MOST_DEEP : Tok
  g_MOST_DEEP : mg "MOST_DEEP" = some (.int 10 t_MOST_DEEP)
  t_MOST_PARTS : Tok
  g_MOST_PARTS : mg "MOST_PARTS" = some (.int 40 t_MOST_PARTS)
  t_MOST_SIGNS : Tok
  g_MOST_SIGNS : mg "MOST_SIGNS" = some (.int 8 t_MOST_SIGNS)
  t_MOST_WITHIN : Tok
  g_MOST_WITHIN : mg "MOST_WITHIN" = some (.int 39 t_MOST_WITHIN)
  a_SIDES : Addr
  i_SIDES : Array Value
  n_SIDES : Nat
  o_SIDES : Option Addr
  s_SIDES : Array (Option Value)
  g_SIDES : mg "SIDES" = some (.ref a_SIDES)
  l_SIDES : K.lookup a_SIDES = some ⟨.type "tuple", o_SIDES, .seq i_SIDES n_SIDES, s_SIDES⟩
  z_SIDES : i_SIDES.size ≤ sizeLine
  v_SIDES : ∃ vs : List V, Vals vs i_SIDES.toList ∧ ∀ H, RDs K H [.str "on", .str "back"] vs
  b_all : mg "all" = none
  b_bool : mg "bool" = none
  b_int : mg "int" = none
  b_isinstance : mg "isinstance" = none
  b_len : mg "len" = none
  b_list : mg "list" = none
  b_range : mg "range" = none
  b_set : mg "set" = none
  b_sorted : mg "sorted" = none
  b_str : mg "str" = none
  b_tuple : mg "tuple" = none
end K30X
set_option maxRecDepth 100000
set_option maxHeartbeats 4000000
namespace K30X
open PySem PySem.Spec L2
open L30
open Rc hiding N_is_pattern N_parts_right r_is_pattern r_parts_right sp_is_pattern sp_is_pattern_mono sp_parts_right sp_parts_right_mono t_is_pattern t_parts_right
open ShB hiding dSeqWhile_gen
open Sh hiding N_l_cell_at N_l_leaf deeps_mem perm_map_ex r_l_cell_at r_l_leaf sp_l_leaf sp_l_leaf_mono srt_strict t_l_cell_at t_l_leaf
open Dt hiding nkeys sp_l_cell_at sp_l_cell_at_mono

/-! is_name -/
def t_is_name : DTS := (dSeq (dIf (dOr (dNot (dTest (dIsi "str" (dVar 0)))) (dOr (dTest (dOp rLt (dCB cLen (dCons (dVar 0) dNil)) (dC (.int 1)))) (dTest (dOp rGt (dCB cLen (dCons (dVar 0) dNil)) (dC (.int 8))))))
      (dRet (dC (.bl false)))
      dNx)
    (dRet (dCB cAll (dCons (dFz (dLc (dSeqI (dVar 0)) (dGN 1) dYes (dOp (dInS false) (dVar 1) (dC (.str "abcdefghijklmnopqrstuvwxyz"))) [1])) dNil))))
abbrev N_is_name : List Str := ["thing", "sign"]
theorem ok_is_name {P : Program} {w : World} {K : PySem.W.Frag} {mg : Str → Option Value} {base : Heap} (T : Txt w K mg) {sp : DSp}
    (mono : SpMono sp) (len : ∀ ds S Q E, sp ds S Q E → ds.length = 1)
    (h : ∀ ds S Q E, sp ds S Q E → t_is_name (dEnd Q E) (dstart ["thing", "sign"] ds) S) : DFn P w K mg base 1 T.a_is_name T.f_is_name ["thing"] sp := by
  refine dfn_of2 (t := t_is_name) T.F_is_name sc_is_name mono len (fun cdv A outer s H E hr gu => ?_) h
  have hu1 := hu_of hr
  have hu2 := hu_big hr
  exact (dss_cons (ds_if (DWt.pt (dw_or (dt_not (dt_val (de_isi (T := "str") (by decide) (dv 0) (by rfl) T.b_isinstance (by rfl) T.b_str (by decide +kernel)))) (dw_or (dt_cmp od_lt (de_callB cd_len (by rfl) T.b_len (by decide +kernel) (da_cons (dv 0) da_nil)) de_int (nomark _)) (dw_or1 (dt_cmp od_gt (de_callB cd_len (by rfl) T.b_len (by decide +kernel) (da_cons (dv 0) da_nil)) (de_gint (by rfl) T.g_MOST_SIGNS) (nomark _))))))
      (dss_one (ds_ret de_bl))
      dss_nil)
    (dss_one (ds_ret (de_callB (cd_all rfl) (by rfl) T.b_all (by decide +kernel) (da_cons (de_fz (de_lc (own := [("sign", 1)]) rfl sc_is_name.nd (di_seq (dv 0)) (blkOk_by (own := [("sign", 1)]) (N := ["thing", "sign"]) (sc := defScope s_is_name) (by decide +kernel)) ⟨fun _ _ _ _ _ => (dw_name (i := 1) sc_is_name.nd rfl (by first | exact Or.inl rfl | exact Or.inr rfl) (by decide)), fun _ _ _ _ _ => dts_nil, fun _ _ _ _ _ => (de_cmp od_inS (dv 1) (de_gstr (by rfl) T.g_LETTERS) (by rfl))⟩)) da_nil)))))

/-! is_one_of -/
def t_is_one_of : DTS := (dRet (dAndV (dIsi "str" (dVar 0)) (dOp (dIn false) (dVar 0) (dVar 1))))
abbrev N_is_one_of : List Str := ["thing", "some"]
theorem ok_is_one_of {P : Program} {w : World} {K : PySem.W.Frag} {mg : Str → Option Value} {base : Heap} (T : Txt w K mg) {sp : DSp}
    (mono : SpMono sp) (len : ∀ ds S Q E, sp ds S Q E → ds.length = 2)
    (h : ∀ ds S Q E, sp ds S Q E → t_is_one_of (dEnd Q E) (dstart ["thing", "some"] ds) S) : DFn P w K mg base 1 T.a_is_one_of T.f_is_one_of ["thing", "some"] sp := by
  refine dfn_of2 (t := t_is_one_of) T.F_is_one_of sc_is_one_of mono len (fun cdv A outer s H E hr gu => ?_) h
  have hu1 := hu_of hr
  have hu2 := hu_big hr
  exact (dss_one (ds_ret (de_and (de_isi (T := "str") (by decide) (dv 0) (by rfl) T.b_isinstance (by rfl) T.b_str (by decide +kernel)) (de_one (de_cmp (od_in hu2) (dv 0) (dv 1) (by rfl))))))

/-! is_whole -/
def t_is_whole : DTS := (dRet (dAndV (dIsi "int" (dVar 0)) (dAndV (dNotV (dIsi "bool" (dVar 0))) (dChain rLe rLe (dVar 1) (dVar 0) (dVar 2)))))
abbrev N_is_whole : List Str := ["thing", "least", "most"]
theorem ok_is_whole {P : Program} {w : World} {K : PySem.W.Frag} {mg : Str → Option Value} {base : Heap} (T : Txt w K mg) {sp : DSp}
    (mono : SpMono sp) (len : ∀ ds S Q E, sp ds S Q E → ds.length = 3)
    (h : ∀ ds S Q E, sp ds S Q E → t_is_whole (dEnd Q E) (dstart ["thing", "least", "most"] ds) S) : DFn P w K mg base 1 T.a_is_whole T.f_is_whole ["thing", "least", "most"] sp := by
  refine dfn_of2 (t := t_is_whole) T.F_is_whole sc_is_whole mono len (fun cdv A outer s H E hr gu => ?_) h
  have hu1 := hu_of hr
  have hu2 := hu_big hr
  exact (dss_one (ds_ret (de_and (de_isi (T := "int") (by decide) (dv 0) (by rfl) T.b_isinstance (by rfl) T.b_int (by decide +kernel)) (de_and (de_not (de_isi (T := "bool") (by decide) (dv 0) (by rfl) T.b_isinstance (by rfl) T.b_bool (by decide +kernel))) (de_one (de_chain od_le od_le (dv 1) (dv 0) (dv 2)))))))

/-! rises -/
def t_rises : DTS := (dSeq (dFor (dRng1 (dCons (dOp rSub (dCB cLen (dCons (dVar 0) dNil)) (dC (.int 1))) dNil)) (dGN 1)
      (dIf (dNot (dTest (dOp (rOrd false) (dOp dIxS (dVar 0) (dVar 1)) (dOp dIxS (dVar 0) (dOp dAddF (dVar 1) (dC (.int 1)))))))
      (dRet (dC (.bl false)))
      dNx))
    (dRet (dC (.bl true))))
abbrev N_rises : List Str := ["things", "place"]
theorem ok_rises {P : Program} {w : World} {K : PySem.W.Frag} {mg : Str → Option Value} {base : Heap} (T : Txt w K mg) {sp : DSp}
    (mono : SpMono sp) (len : ∀ ds S Q E, sp ds S Q E → ds.length = 1)
    (h : ∀ ds S Q E, sp ds S Q E → t_rises (dEnd Q E) (dstart ["things", "place"] ds) S) : DFn P w K mg base 1 T.a_rises T.f_rises ["things"] sp := by
  refine dfn_of2 (t := t_rises) T.F_rises sc_rises mono len (fun cdv A outer s H E hr gu => ?_) h
  have hu1 := hu_of hr
  have hu2 := hu_big hr
  exact (dss_cons (ds_for (passes_of rfl) rfl (di_rng1 (by rfl) T.b_range (da_cons (de_op od_sub (de_callB cd_len (by rfl) T.b_len (by decide +kernel) (da_cons (dv 0) da_nil)) de_int) da_nil)) (dg_name (i := 1) sc_rises.nd rfl (by first | exact Or.inl rfl | exact Or.inr rfl))
      (dss_one (ds_if (dt_not (dt_cmp (od_ltD (hu64 hu2)) (de_ix (ixD_any hu2) (dv 0) (dv 1)) (de_ix (ixD_any hu2) (dv 0) (de_op od_addF (dv 1) de_int)) (nomark _)))
      (dss_one (ds_ret de_bl))
      dss_nil)))
    (dss_one (ds_ret de_bl)))

/-! l_cell_at -/
def t_l_cell_at : DTS := (dSeq (dIf (dTest (dOp rLt (dVar 1) (dCB cLen (dCons (dVar 0) dNil))))
      (dRet (dOp dIxS (dVar 0) (dVar 1)))
      dNx)
    (dRet (dC (.int 0))))
abbrev N_l_cell_at : List Str := ["_law_script", "_law_k"]
theorem ok_l_cell_at {P : Program} {w : World} {K : PySem.W.Frag} {mg : Str → Option Value} {base : Heap} (T : Txt w K mg) {sp : DSp}
    (mono : SpMono sp) (len : ∀ ds S Q E, sp ds S Q E → ds.length = 2)
    (h : ∀ ds S Q E, sp ds S Q E → t_l_cell_at (dEnd Q E) (dstart ["_law_script", "_law_k"] ds) S) : DFn P w K mg base 1 T.a_l_cell_at T.f_l_cell_at ["_law_script", "_law_k"] sp := by
  refine dfn_of2 (t := t_l_cell_at) T.F_l_cell_at sc_l_cell_at mono len (fun cdv A outer s H E hr gu => ?_) h
  have hu1 := hu_of hr
  have hu2 := hu_big hr
  exact (dss_cons (ds_if (dt_cmp od_lt (dv 1) (de_callB cd_len (by rfl) T.b_len (by decide +kernel) (da_cons (dv 0) da_nil)) (nomark _))
      (dss_one (ds_ret (de_ix (ixD_any hu2) (dv 0) (dv 1))))
      dss_nil)
    (dss_one (ds_ret de_int)))

/-! l_draws -/
def t_l_draws : DTS := (dSeq (dAsg (dLst dNil) (dGN 2))
    (dSeq (dAsg (dOp rSub (dVar 0) (dOp rPow (dC (.int 10)) (dC (.int 18)))) (dGN 3))
    (dSeq (dFor (dRng1 (dCons (dCB cLen (dCons (dVar 1) dNil)) dNil)) (dGN 4)
      (dSeq (dAsg (dOp rMod (dOp dMul (dOp dAddF (dOp rMod (dVar 0) (dC (.int 1000003))) (dC (.int 1))) (dOp dAddF (dOp dMul (dVar 4) (dVar 4)) (dC (.int 48271)))) (dC (.int 65537))) (dGN 5))
    (dSeq (dAsg (dOp rMod (dOp dMul (dOp dAddF (dOp dAddF (dOp dMul (dVar 5) (dVar 5)) (dOp dMul (dC (.int 7919)) (dVar 4))) (dC (.int 11))) (dC (.int 30269))) (dC (.int 999983))) (dGN 5))
    (dSeq (dIf (dTest (dOp rGe (dVar 0) (dOp rPow (dC (.int 10)) (dC (.int 18)))))
      (dAsg (dVar 3) (dGN 5))
      dNx)
    (dSeq (dDrop (dBM "list" mAppend (dVar 2) (dCons (dOp rMod (dVar 5) (dOp dIxS (dVar 1) (dVar 4))) dNil)))
    (dAsg (dOp rFdiv (dVar 3) (dOp dIxS (dVar 1) (dVar 4))) (dGN 3)))))))
    (dRet (dVar 2)))))
abbrev N_l_draws : List Str := ["_law_cell", "_law_sizes", "_law_found", "_law_figures", "_law_k", "_law_mixed"]
theorem ok_l_draws {P : Program} {w : World} {K : PySem.W.Frag} {mg : Str → Option Value} {base : Heap} (T : Txt w K mg) {sp : DSp}
    (mono : SpMono sp) (len : ∀ ds S Q E, sp ds S Q E → ds.length = 2)
    (h : ∀ ds S Q E, sp ds S Q E → t_l_draws (dEnd Q E) (dstart ["_law_cell", "_law_sizes", "_law_found", "_law_figures", "_law_k", "_law_mixed"] ds) S) : DFn P w K mg base 1 T.a_l_draws T.f_l_draws ["_law_cell", "_law_sizes"] sp := by
  refine dfn_of2 (t := t_l_draws) T.F_l_draws sc_l_draws mono len (fun cdv A outer s H E hr gu => ?_) h
  have hu1 := hu_of hr
  have hu2 := hu_big hr
  exact (dss_cons (ds_set (i := 2) sc_l_draws.nd rfl (by first | exact Or.inl rfl | exact Or.inr rfl) (de_lst da_nil))
    (dss_cons (ds_set (i := 3) sc_l_draws.nd rfl (by first | exact Or.inl rfl | exact Or.inr rfl) (de_op od_sub (dv 0) (de_op od_pow de_int de_int)))
    (dss_cons (ds_for (passes_of rfl) rfl (di_rng1 (by rfl) T.b_range (da_cons (de_callB cd_len (by rfl) T.b_len (by decide +kernel) (da_cons (dv 1) da_nil)) da_nil)) (dg_name (i := 4) sc_l_draws.nd rfl (by first | exact Or.inl rfl | exact Or.inr rfl))
      (dss_cons (ds_set (i := 5) sc_l_draws.nd rfl (by first | exact Or.inl rfl | exact Or.inr rfl) (de_op od_mod (de_op od_mul (de_op od_addF (de_op od_mod (dv 0) de_int) de_int) (de_op od_addF (de_op od_mul (dv 4) (dv 4)) de_int)) de_int))
    (dss_cons (ds_set (i := 5) sc_l_draws.nd rfl (by first | exact Or.inl rfl | exact Or.inr rfl) (de_op od_mod (de_op od_mul (de_op od_addF (de_op od_addF (de_op od_mul (dv 5) (dv 5)) (de_op od_mul de_int (dv 4))) de_int) de_int) de_int))
    (dss_cons (ds_if (dt_cmp od_ge (dv 0) (de_op od_pow de_int de_int) (nomark _))
      (dss_one (ds_set (i := 5) sc_l_draws.nd rfl (by first | exact Or.inl rfl | exact Or.inr rfl) (dv 3)))
      dss_nil)
    (dss_cons (ds_expr (de_bm PySem.F.plainAttrs_list PySem.F.slot_list_append PySem.F.type_list_append md_append (dv 2) (da_cons (de_op od_mod (dv 5) (de_ix (ixD_any hu2) (dv 1) (dv 4))) da_nil)))
    (dss_one (ds_set (i := 3) sc_l_draws.nd rfl (by first | exact Or.inl rfl | exact Or.inr rfl) (de_op od_fdiv (dv 3) (de_ix (ixD_any hu2) (dv 1) (dv 4))))))))))
    (dss_one (ds_ret (dv 2))))))

/-! l_words -/
def t_l_words : DTS := (dRet (dLstF (dCons (dC (.str "a")) (dCons (dC (.str "ab")) (dCons (dC (.str "stay")) dNil)))))
abbrev N_l_words : List Str := []
theorem ok_l_words {P : Program} {w : World} {K : PySem.W.Frag} {mg : Str → Option Value} {base : Heap} (T : Txt w K mg) {sp : DSp}
    (mono : SpMono sp) (len : ∀ ds S Q E, sp ds S Q E → ds.length = 0)
    (h : ∀ ds S Q E, sp ds S Q E → t_l_words (dEnd Q E) (dstart [] ds) S) : DFn P w K mg base 1 T.a_l_words T.f_l_words [] sp := by
  refine dfn_of2 (t := t_l_words) T.F_l_words sc_l_words mono len (fun cdv A outer s H E hr gu => ?_) h
  have hu1 := hu_of hr
  have hu2 := hu_big hr
  exact (dss_one (ds_ret (de_lstF (da_cons de_str (da_cons de_str (da_cons de_str da_nil))))))

/-! l_marks -/
def t_l_marks : DTS := (dRet (dLstF (dCons (dC (.str "a")) (dCons (dC (.str "many")) dNil))))
abbrev N_l_marks : List Str := []
theorem ok_l_marks {P : Program} {w : World} {K : PySem.W.Frag} {mg : Str → Option Value} {base : Heap} (T : Txt w K mg) {sp : DSp}
    (mono : SpMono sp) (len : ∀ ds S Q E, sp ds S Q E → ds.length = 0)
    (h : ∀ ds S Q E, sp ds S Q E → t_l_marks (dEnd Q E) (dstart [] ds) S) : DFn P w K mg base 1 T.a_l_marks T.f_l_marks [] sp := by
  refine dfn_of2 (t := t_l_marks) T.F_l_marks sc_l_marks mono len (fun cdv A outer s H E hr gu => ?_) h
  have hu1 := hu_of hr
  have hu2 := hu_big hr
  exact (dss_one (ds_ret (de_lstF (da_cons de_str (da_cons de_str da_nil)))))
end K30X
set_option maxRecDepth 100000
set_option maxHeartbeats 4000000
namespace K30X
open PySem PySem.Spec L2
open L30
open Rc hiding N_is_pattern N_parts_right r_is_pattern r_parts_right sp_is_pattern sp_is_pattern_mono sp_parts_right sp_parts_right_mono t_is_pattern t_parts_right
open ShB hiding dSeqWhile_gen
open Sh hiding N_l_cell_at N_l_leaf deeps_mem perm_map_ex r_l_cell_at r_l_leaf sp_l_leaf sp_l_leaf_mono srt_strict t_l_cell_at t_l_leaf
open Dt hiding nkeys sp_l_cell_at sp_l_cell_at_mono

/-! l_is_stand -/
def t_l_is_stand : DTS := (dRet (dAndV (dIsi "int" (dVar 0)) (dAndV (dNotV (dIsi "bool" (dVar 0))) (dChain rLe rLt (dC (.int 0)) (dVar 0) (dVar 1)))))
abbrev N_l_is_stand : List Str := ["_law_thing", "_law_many"]
theorem ok_l_is_stand {P : Program} {w : World} {K : PySem.W.Frag} {mg : Str → Option Value} {base : Heap} (T : Txt w K mg) {sp : DSp}
    (mono : SpMono sp) (len : ∀ ds S Q E, sp ds S Q E → ds.length = 2)
    (h : ∀ ds S Q E, sp ds S Q E → t_l_is_stand (dEnd Q E) (dstart ["_law_thing", "_law_many"] ds) S) : DFn P w K mg base 1 T.a_l_is_stand T.f_l_is_stand ["_law_thing", "_law_many"] sp := by
  refine dfn_of2 (t := t_l_is_stand) T.F_l_is_stand sc_l_is_stand mono len (fun cdv A outer s H E hr gu => ?_) h
  have hu1 := hu_of hr
  have hu2 := hu_big hr
  exact (dss_one (ds_ret (de_and (de_isi (T := "int") (by decide) (dv 0) (by rfl) T.b_isinstance (by rfl) T.b_int (by decide +kernel)) (de_and (de_not (de_isi (T := "bool") (by decide) (dv 0) (by rfl) T.b_isinstance (by rfl) T.b_bool (by decide +kernel))) (de_one (de_chain od_le od_lt de_int (dv 0) (dv 1)))))))

/-! l_is_name -/
def t_l_is_name : DTS := (dSeq (dIf (dOr (dNot (dTest (dIsi "str" (dVar 0)))) (dNot (dTest (dChain rLe rLe (dC (.int 1)) (dCB cLen (dCons (dVar 0) dNil)) (dC (.int 8))))))
      (dRet (dC (.bl false)))
      dNx)
    (dRet (dOp (dEq false) (dFz (dLc (dSeqI (dVar 0)) (dGN 1) (dTest (dOp (dInS true) (dVar 1) (dC (.str "abcdefghijklmnopqrstuvwxyz")))) (dVar 1) [1])) (dLstF dNil))))
abbrev N_l_is_name : List Str := ["_law_thing", "_law_sign"]
theorem ok_l_is_name {P : Program} {w : World} {K : PySem.W.Frag} {mg : Str → Option Value} {base : Heap} (T : Txt w K mg) {sp : DSp}
    (mono : SpMono sp) (len : ∀ ds S Q E, sp ds S Q E → ds.length = 1)
    (h : ∀ ds S Q E, sp ds S Q E → t_l_is_name (dEnd Q E) (dstart ["_law_thing", "_law_sign"] ds) S) : DFn P w K mg base 1 T.a_l_is_name T.f_l_is_name ["_law_thing"] sp := by
  refine dfn_of2 (t := t_l_is_name) T.F_l_is_name sc_l_is_name mono len (fun cdv A outer s H E hr gu => ?_) h
  have hu1 := hu_of hr
  have hu2 := hu_big hr
  exact (dss_cons (ds_if (DWt.pt (dw_or (dt_not (dt_val (de_isi (T := "str") (by decide) (dv 0) (by rfl) T.b_isinstance (by rfl) T.b_str (by decide +kernel)))) (dw_or1 (dt_not (dt_chain od_le od_le de_int (de_callB cd_len (by rfl) T.b_len (by decide +kernel) (da_cons (dv 0) da_nil)) de_int)))))
      (dss_one (ds_ret de_bl))
      dss_nil)
    (dss_one (ds_ret (de_cmp (od_eq hr.units) (de_fz (de_lc (own := [("_law_sign", 1)]) rfl sc_l_is_name.nd (di_seq (dv 0)) (blkOk_by (own := [("_law_sign", 1)]) (N := ["_law_thing", "_law_sign"]) (sc := defScope s_l_is_name) (by decide +kernel)) ⟨fun _ _ _ _ _ => (dw_name (i := 1) sc_l_is_name.nd rfl (by first | exact Or.inl rfl | exact Or.inr rfl) (by decide)), fun _ _ _ _ _ => (dts_one (dt_cmp od_ninS (dv 1) de_str (by rfl))), fun _ _ _ _ _ => (dv 1)⟩)) (de_lstF da_nil) (nomark _)))))

/-! l_odd_leaf -/
def t_l_odd_leaf : DTS := (dSeq (dAsg (dLst (dCons (dTup (dCons (dC (.str "stay")) (dCons (dC (.str "a")) dNil))) (dCons (dTup dNil) (dCons (dC (.str "stay")) (dCons (dLstF (dCons (dC (.str "stay")) dNil)) (dCons (dTup (dCons (dC (.str "step")) (dCons (dC (.str "up")) (dCons (dC (.str "a")) dNil)))) (dCons (dTup (dCons (dC (.str "step")) (dCons (dC (.str "on")) dNil))) dNil))))))) (dGN 1))
    (dSeq (dDrop (dBM "list" mExtend (dVar 1) (dCons (dLstF (dCons (dTup (dCons (dC (.str "step")) (dCons (dC (.str "on")) (dCons (dC (.str "")) dNil)))) (dCons (dTup (dCons (dC (.str "at")) (dCons (dC (.str "A")) dNil))) (dCons (dC .non) dNil)))) dNil)))
    (dSeq (dDrop (dBM "list" mExtend (dVar 1) (dCons (dLstF (dCons (dTup (dCons (dC (.str "step")) (dCons (dC (.str "on")) (dCons (dC (.str "**")) dNil)))) (dCons (dTup (dCons (dC (.str "at")) (dCons (dC (.str "*")) dNil))) (dCons (dTup (dCons (dC (.str "off")) dNil)) (dCons (dTup (dCons (dC (.str "then")) (dCons (dTup dNil) dNil))) (dCons (dTup (dCons (dC (.str "many")) (dCons (dTup (dCons (dC (.str "stay")) dNil)) dNil))) dNil)))))) dNil)))
    (dSeq (dDrop (dBM "list" mAppend (dVar 1) (dCons (dTup (dCons (dC (.str "at")) (dCons (dC (.str "ninesigns")) dNil))) dNil)))
    (dRet (dOp dIxS (dVar 1) (dOp rMod (dVar 0) (dC (.int 15)))))))))
abbrev N_l_odd_leaf : List Str := ["_law_number", "_law_odd"]
theorem ok_l_odd_leaf {P : Program} {w : World} {K : PySem.W.Frag} {mg : Str → Option Value} {base : Heap} (T : Txt w K mg) {sp : DSp}
    (mono : SpMono sp) (len : ∀ ds S Q E, sp ds S Q E → ds.length = 1)
    (h : ∀ ds S Q E, sp ds S Q E → t_l_odd_leaf (dEnd Q E) (dstart ["_law_number", "_law_odd"] ds) S) : DFn P w K mg base 1 T.a_l_odd_leaf T.f_l_odd_leaf ["_law_number"] sp := by
  refine dfn_of2 (t := t_l_odd_leaf) T.F_l_odd_leaf sc_l_odd_leaf mono len (fun cdv A outer s H E hr gu => ?_) h
  have hu1 := hu_of hr
  have hu2 := hu_big hr
  exact (dss_cons (ds_set (i := 1) sc_l_odd_leaf.nd rfl (by first | exact Or.inl rfl | exact Or.inr rfl) (de_lst (da_cons (de_tup (da_cons de_str (da_cons de_str da_nil))) (da_cons (de_tup da_nil) (da_cons de_str (da_cons (de_lstF (da_cons de_str da_nil)) (da_cons (de_tup (da_cons de_str (da_cons de_str (da_cons de_str da_nil)))) (da_cons (de_tup (da_cons de_str (da_cons de_str da_nil))) da_nil))))))))
    (dss_cons (ds_expr (de_bm PySem.F.plainAttrs_list PySem.F.slot_list_extend PySem.F.type_list_extend md_extend (dv 1) (da_cons (de_lstF (da_cons (de_tup (da_cons de_str (da_cons de_str (da_cons de_str da_nil)))) (da_cons (de_tup (da_cons de_str (da_cons de_str da_nil))) (da_cons de_non da_nil)))) da_nil)))
    (dss_cons (ds_expr (de_bm PySem.F.plainAttrs_list PySem.F.slot_list_extend PySem.F.type_list_extend md_extend (dv 1) (da_cons (de_lstF (da_cons (de_tup (da_cons de_str (da_cons de_str (da_cons de_str da_nil)))) (da_cons (de_tup (da_cons de_str (da_cons de_str da_nil))) (da_cons (de_tup (da_cons de_str da_nil)) (da_cons (de_tup (da_cons de_str (da_cons (de_tup da_nil) da_nil))) (da_cons (de_tup (da_cons de_str (da_cons (de_tup (da_cons de_str da_nil)) da_nil))) da_nil)))))) da_nil)))
    (dss_cons (ds_expr (de_bm PySem.F.plainAttrs_list PySem.F.slot_list_append PySem.F.type_list_append md_append (dv 1) (da_cons (de_tup (da_cons de_str (da_cons de_str da_nil))) da_nil)))
    (dss_one (ds_ret (de_ix (ixD_any hu2) (dv 1) (de_op od_mod (dv 0) de_int))))))))

/-! l_odd_stand -/
def t_l_odd_stand : DTS := (dRet (dOp dIxS (dLstF (dCons (dVar 1) (dCons (dNeg (dC (.int 1))) (dCons (dC (.bl true)) (dCons (dC (.str "0")) (dCons (dC .non) (dCons (dOp rPow (dC (.int 10)) (dC (.int 19))) (dCons (dOp rSub (dC (.int 0)) (dOp rPow (dC (.int 10)) (dC (.int 19)))) (dCons (dTup (dCons (dC (.int 0)) dNil)) (dCons (dC (.bl false)) dNil)))))))))) (dOp rMod (dVar 0) (dC (.int 9)))))
abbrev N_l_odd_stand : List Str := ["_law_number", "_law_many"]
theorem ok_l_odd_stand {P : Program} {w : World} {K : PySem.W.Frag} {mg : Str → Option Value} {base : Heap} (T : Txt w K mg) {sp : DSp}
    (mono : SpMono sp) (len : ∀ ds S Q E, sp ds S Q E → ds.length = 2)
    (h : ∀ ds S Q E, sp ds S Q E → t_l_odd_stand (dEnd Q E) (dstart ["_law_number", "_law_many"] ds) S) : DFn P w K mg base 1 T.a_l_odd_stand T.f_l_odd_stand ["_law_number", "_law_many"] sp := by
  refine dfn_of2 (t := t_l_odd_stand) T.F_l_odd_stand sc_l_odd_stand mono len (fun cdv A outer s H E hr gu => ?_) h
  have hu1 := hu_of hr
  have hu2 := hu_big hr
  exact (dss_one (ds_ret (de_ix (ixD_any hu2) (de_lstF (da_cons (dv 1) (da_cons (de_neg de_int) (da_cons de_bl (da_cons de_str (da_cons de_non (da_cons (de_op od_pow de_int de_int) (da_cons (de_op od_sub de_int (de_op od_pow de_int de_int)) (da_cons (de_tup (da_cons de_int da_nil)) (da_cons de_bl da_nil)))))))))) (de_op od_mod (dv 0) de_int))))

/-! is_word -/
def t_is_word : DTS := (dRet (dOrV (dCall sp_is_name (dCons (dVar 0) dNil)) (dAndV (dIsi "str" (dVar 0)) (dOp (dEq false) (dVar 0) (dC (.str "*"))))))
abbrev N_is_word : List Str := ["thing"]
theorem ok_is_word {P : Program} {w : World} {K : PySem.W.Frag} {mg : Str → Option Value} {base : Heap} (T : Txt w K mg) (G_is_name : DFn P w K mg base 1 T.a_is_name T.f_is_name ["thing"] sp_is_name) {sp : DSp}
    (mono : SpMono sp) (len : ∀ ds S Q E, sp ds S Q E → ds.length = 1)
    (h : ∀ ds S Q E, sp ds S Q E → t_is_word (dEnd Q E) (dstart ["thing"] ds) S) : DFn P w K mg base 2 T.a_is_word T.f_is_word ["thing"] sp := by
  refine dfn_of2 (t := t_is_word) T.F_is_word sc_is_word mono len (fun cdv A outer s H E hr gu => ?_) h
  have hu1 := hu_of hr
  have hu2 := hu_big hr
  exact (dss_one (ds_ret (de_or (de_call G_is_name (hr.mono (by decide)) gu (by rfl) T.m_is_name T.F_is_name.kp T.d_is_name (da_cons (dv 0) da_nil)) (de_one (de_and (de_isi (T := "str") (by decide) (dv 0) (by rfl) T.b_isinstance (by rfl) T.b_str (by decide +kernel)) (de_one (de_cmp (od_eq hr.units) (dv 0) (de_gstr (by rfl) T.g_ANY_WORD) (nomark _))))))))

/-! l_leaf -/
def t_l_leaf : DTS := (dSeq (dIf (dTest (dOp (dEq false) (dVar 0) (dC (.int 0))))
      (dRet (dTup (dCons (dC (.str "stay")) dNil)))
      dNx)
    (dSeq (dIf (dTest (dOp rLt (dVar 0) (dC (.int 3))))
      (dRet (dTup (dCons (dC (.str "step")) (dCons (dOp dIxS (dLstF (dCons (dC (.str "on")) (dCons (dC (.str "back")) dNil))) (dOp rMod (dVar 1) (dC (.int 2)))) (dCons (dOp dIxS (dOp dAddF (dCall sp_l_words dNil) (dLstF (dCons (dC (.str "*")) dNil))) (dOp rMod (dOp rFdiv (dVar 1) (dC (.int 2))) (dC (.int 4)))) dNil)))))
      dNx)
    (dRet (dTup (dCons (dOp dIxS (dLstF (dCons (dC (.str "at")) (dCons (dC (.str "off")) dNil))) (dOp rSub (dVar 0) (dC (.int 3)))) (dCons (dOp dIxS (dCall sp_l_marks dNil) (dOp rMod (dVar 1) (dC (.int 2)))) dNil))))))
abbrev N_l_leaf : List Str := ["_law_way", "_law_number"]
theorem ok_l_leaf {P : Program} {w : World} {K : PySem.W.Frag} {mg : Str → Option Value} {base : Heap} (T : Txt w K mg) (G_l_words : DFn P w K mg base 1 T.a_l_words T.f_l_words [] sp_l_words) (G_l_marks : DFn P w K mg base 1 T.a_l_marks T.f_l_marks [] sp_l_marks) {sp : DSp}
    (mono : SpMono sp) (len : ∀ ds S Q E, sp ds S Q E → ds.length = 2)
    (h : ∀ ds S Q E, sp ds S Q E → t_l_leaf (dEnd Q E) (dstart ["_law_way", "_law_number"] ds) S) : DFn P w K mg base 2 T.a_l_leaf T.f_l_leaf ["_law_way", "_law_number"] sp := by
  refine dfn_of2 (t := t_l_leaf) T.F_l_leaf sc_l_leaf mono len (fun cdv A outer s H E hr gu => ?_) h
  have hu1 := hu_of hr
  have hu2 := hu_big hr
  exact (dss_cons (ds_if (dt_cmp (od_eq hr.units) (dv 0) de_int (nomark _))
      (dss_one (ds_ret (de_tup (da_cons de_str da_nil))))
      dss_nil)
    (dss_cons (ds_if (dt_cmp od_lt (dv 0) de_int (nomark _))
      (dss_one (ds_ret (de_tup (da_cons de_str (da_cons (de_ix (ixD_any hu2) (de_lstF (da_cons de_str (da_cons de_str da_nil))) (de_op od_mod (dv 1) de_int)) (da_cons (de_ix (ixD_any hu2) (de_op od_addF (de_call0 G_l_words (hr.mono (by decide)) gu (by rfl) T.m_l_words T.F_l_words.kp T.d_l_words) (de_lstF (da_cons de_str da_nil))) (de_op od_mod (de_op od_fdiv (dv 1) de_int) de_int)) da_nil))))))
      dss_nil)
    (dss_one (ds_ret (de_tup (da_cons (de_ix (ixD_any hu2) (de_lstF (da_cons de_str (da_cons de_str da_nil))) (de_op od_sub (dv 0) de_int)) (da_cons (de_ix (ixD_any hu2) (de_call0 G_l_marks (hr.mono (by decide)) gu (by rfl) T.m_l_marks T.F_l_marks.kp T.d_l_marks) (de_op od_mod (dv 1) de_int)) da_nil)))))))

/-! l_is_leaf -/
def t_l_is_leaf : DTS := (dSeq (dIf (dOr (dNot (dTest (dIsi "tuple" (dVar 0)))) (dOr (dTest (dOp rLt (dCB cLen (dCons (dVar 0) dNil)) (dC (.int 1)))) (dNot (dTest (dIsi "str" (dOp dIxS (dVar 0) (dC (.int 0))))))))
      (dRet (dC (.bl false)))
      dNx)
    (dSeq (dIf (dTest (dOp (dEq false) (dOp dIxS (dVar 0) (dC (.int 0))) (dC (.str "stay"))))
      (dRet (dOp (dEq false) (dCB cLen (dCons (dVar 0) dNil)) (dC (.int 1))))
      dNx)
    (dSeq (dIf (dTest (dOp (dEq false) (dOp dIxS (dVar 0) (dC (.int 0))) (dC (.str "step"))))
      (dSeq (dIf (dOr (dTest (dOp (dEq true) (dCB cLen (dCons (dVar 0) dNil)) (dC (.int 3)))) (dTest (dOp (dIn true) (dOp dIxS (dVar 0) (dC (.int 1))) (dTup (dCons (dC (.str "on")) (dCons (dC (.str "back")) dNil))))))
      (dRet (dC (.bl false)))
      dNx)
    (dRet (dOrV (dOp (dEq false) (dOp dIxS (dVar 0) (dC (.int 2))) (dC (.str "*"))) (dCall sp_l_is_name (dCons (dOp dIxS (dVar 0) (dC (.int 2))) dNil)))))
      dNx)
    (dRet (dAndV (dOp (dIn false) (dOp dIxS (dVar 0) (dC (.int 0))) (dTup (dCons (dC (.str "at")) (dCons (dC (.str "off")) dNil)))) (dAndV (dOp (dEq false) (dCB cLen (dCons (dVar 0) dNil)) (dC (.int 2))) (dCall sp_l_is_name (dCons (dOp dIxS (dVar 0) (dC (.int 1))) dNil))))))))
abbrev N_l_is_leaf : List Str := ["_law_thing"]
theorem ok_l_is_leaf {P : Program} {w : World} {K : PySem.W.Frag} {mg : Str → Option Value} {base : Heap} (T : Txt w K mg) (G_l_is_name : DFn P w K mg base 1 T.a_l_is_name T.f_l_is_name ["_law_thing"] sp_l_is_name) {sp : DSp}
    (mono : SpMono sp) (len : ∀ ds S Q E, sp ds S Q E → ds.length = 1)
    (h : ∀ ds S Q E, sp ds S Q E → t_l_is_leaf (dEnd Q E) (dstart ["_law_thing"] ds) S) : DFn P w K mg base 2 T.a_l_is_leaf T.f_l_is_leaf ["_law_thing"] sp := by
  refine dfn_of2 (t := t_l_is_leaf) T.F_l_is_leaf sc_l_is_leaf mono len (fun cdv A outer s H E hr gu => ?_) h
  have hu1 := hu_of hr
  have hu2 := hu_big hr
  exact (dss_cons (ds_if (DWt.pt (dw_or (dt_not (dt_val (de_isi (T := "tuple") (by decide) (dv 0) (by rfl) T.b_isinstance (by rfl) T.b_tuple (by decide +kernel)))) (dw_or (dt_cmp od_lt (de_callB cd_len (by rfl) T.b_len (by decide +kernel) (da_cons (dv 0) da_nil)) de_int (nomark _)) (dw_or1 (dt_not (dt_val (de_isi (T := "str") (by decide) (de_ix (ixD_any hu2) (dv 0) de_int) (by rfl) T.b_isinstance (by rfl) T.b_str (by decide +kernel))))))))
      (dss_one (ds_ret de_bl))
      dss_nil)
    (dss_cons (ds_if (dt_cmp (od_eq hr.units) (de_ix (ixD_any hu2) (dv 0) de_int) de_str (nomark _))
      (dss_one (ds_ret (de_cmp (od_eq hr.units) (de_callB cd_len (by rfl) T.b_len (by decide +kernel) (da_cons (dv 0) da_nil)) de_int (nomark _))))
      dss_nil)
    (dss_cons (ds_if (dt_cmp (od_eq hr.units) (de_ix (ixD_any hu2) (dv 0) de_int) de_str (nomark _))
      (dss_cons (ds_if (DWt.pt (dw_or (dt_cmp (od_ne hr.units) (de_callB cd_len (by rfl) T.b_len (by decide +kernel) (da_cons (dv 0) da_nil)) de_int (nomark _)) (dw_or1 (dt_cmp (od_nin hu2) (de_ix (ixD_any hu2) (dv 0) de_int) (de_tup (da_cons de_str (da_cons de_str da_nil))) (by rfl)))))
      (dss_one (ds_ret de_bl))
      dss_nil)
    (dss_one (ds_ret (de_or (de_cmp (od_eq hr.units) (de_ix (ixD_any hu2) (dv 0) de_int) de_str (nomark _)) (de_one (de_call G_l_is_name (hr.mono (by decide)) gu (by rfl) T.m_l_is_name T.F_l_is_name.kp T.d_l_is_name (da_cons (de_ix (ixD_any hu2) (dv 0) de_int) da_nil)))))))
      dss_nil)
    (dss_one (ds_ret (de_and (de_cmp (od_in hu2) (de_ix (ixD_any hu2) (dv 0) de_int) (de_tup (da_cons de_str (da_cons de_str da_nil))) (by rfl)) (de_and (de_cmp (od_eq hr.units) (de_callB cd_len (by rfl) T.b_len (by decide +kernel) (da_cons (dv 0) da_nil)) de_int (nomark _)) (de_one (de_call G_l_is_name (hr.mono (by decide)) gu (by rfl) T.m_l_is_name T.F_l_is_name.kp T.d_l_is_name (da_cons (de_ix (ixD_any hu2) (dv 0) de_int) da_nil))))))))))

/-! l_bent_moves -/
def t_l_bent_moves : DTS := (dSeq (dAsg (dOp rMod (dVar 2) (dOp dAddF (dCB cLen (dCons (dVar 0) dNil)) (dC (.int 1)))) (dGN 4))
    (dSeq (dAsg (dTup (dCons (dC (.int 0)) (dCons (dTup (dCons (dC (.str "stay")) dNil)) (dCons (dC (.int 0)) dNil)))) (dGN 5))
    (dSeq (dIf (dTest (dOp rLt (dVar 4) (dCB cLen (dCons (dVar 0) dNil))))
      (dAsg (dOp dIxS (dVar 0) (dVar 4)) (dGN 5))
      dNx)
    (dSeq (dAsg (dCall sp_l_odd_stand (dCons (dVar 2) (dCons (dVar 3) dNil))) (dGN 6))
    (dSeq (dAsg (dTup (dCons (dVar 5) (dCons (dVar 5) dNil))) (dGN 7))
    (dSeq (dIf (dTest (dOp (dEq false) (dVar 1) (dC (.int 0))))
      (dAsg (dTup (dCons (dTup (dCons (dVar 6) (dCons (dOp dIxS (dVar 5) (dC (.int 1))) (dCons (dOp dIxS (dVar 5) (dC (.int 2))) dNil)))) dNil)) (dGN 7))
      dNx)
    (dSeq (dIf (dTest (dOp (dEq false) (dVar 1) (dC (.int 1))))
      (dAsg (dTup (dCons (dTup (dCons (dOp dIxS (dVar 5) (dC (.int 0))) (dCons (dOp dIxS (dVar 5) (dC (.int 1))) (dCons (dVar 6) dNil)))) dNil)) (dGN 7))
      dNx)
    (dSeq (dIf (dTest (dOp (dEq false) (dVar 1) (dC (.int 2))))
      (dAsg (dTup (dCons (dTup (dCons (dOp dIxS (dVar 5) (dC (.int 0))) (dCons (dCall sp_l_odd_leaf (dCons (dVar 2) dNil)) (dCons (dOp dIxS (dVar 5) (dC (.int 2))) dNil)))) dNil)) (dGN 7))
      dNx)
    (dSeq (dIf (dTest (dOp (dEq false) (dVar 1) (dC (.int 4))))
      (dRet (dBackT (dVar 0)))
      dNx)
    (dSeq (dIf (dTest (dOp (dEq false) (dVar 1) (dC (.int 5))))
      (dAsg (dTup (dCons (dOp dIxS (dLstF (dCons (dCB cListAF (dCons (dVar 5) dNil)) (dCons (dSlF (dVar 5) dNoP (dSoP (dC (.int 2)))) (dCons (dOp dAddF (dVar 5) (dTup (dCons (dC (.int 0)) dNil))) (dCons (dC .non) dNil))))) (dOp rMod (dVar 2) (dC (.int 4)))) dNil)) (dGN 7))
      dNx)
    (dSeq (dIf (dTest (dOp (dEq false) (dVar 1) (dC (.int 6))))
      (dRet (dCB cListAF (dCons (dVar 0) dNil)))
      dNx)
    (dRet (dOp dAddF (dOp dAddF (dSlF (dVar 0) dNoP (dSoP (dVar 4))) (dVar 7)) (dSlF (dVar 0) (dSoP (dOp dAddF (dVar 4) (dC (.int 1)))) dNoP))))))))))))))
abbrev N_l_bent_moves : List Str := ["_law_moves", "_law_way", "_law_number", "_law_many", "_law_at", "_law_move", "_law_odd", "_law_fresh"]
theorem ok_l_bent_moves {P : Program} {w : World} {K : PySem.W.Frag} {mg : Str → Option Value} {base : Heap} (T : Txt w K mg) (G_l_odd_leaf : DFn P w K mg base 1 T.a_l_odd_leaf T.f_l_odd_leaf ["_law_number"] sp_l_odd_leaf) (G_l_odd_stand : DFn P w K mg base 1 T.a_l_odd_stand T.f_l_odd_stand ["_law_number", "_law_many"] sp_l_odd_stand) {sp : DSp}
    (mono : SpMono sp) (len : ∀ ds S Q E, sp ds S Q E → ds.length = 4)
    (h : ∀ ds S Q E, sp ds S Q E → t_l_bent_moves (dEnd Q E) (dstart ["_law_moves", "_law_way", "_law_number", "_law_many", "_law_at", "_law_move", "_law_odd", "_law_fresh"] ds) S) : DFn P w K mg base 2 T.a_l_bent_moves T.f_l_bent_moves ["_law_moves", "_law_way", "_law_number", "_law_many"] sp := by
  refine dfn_of2 (t := t_l_bent_moves) T.F_l_bent_moves sc_l_bent_moves mono len (fun cdv A outer s H E hr gu => ?_) h
  have hu1 := hu_of hr
  have hu2 := hu_big hr
  exact (dss_cons (ds_set (i := 4) sc_l_bent_moves.nd rfl (by first | exact Or.inl rfl | exact Or.inr rfl) (de_op od_mod (dv 2) (de_op od_addF (de_callB cd_len (by rfl) T.b_len (by decide +kernel) (da_cons (dv 0) da_nil)) de_int)))
    (dss_cons (ds_set (i := 5) sc_l_bent_moves.nd rfl (by first | exact Or.inl rfl | exact Or.inr rfl) (de_tup (da_cons de_int (da_cons (de_tup (da_cons de_str da_nil)) (da_cons de_int da_nil)))))
    (dss_cons (ds_if (dt_cmp od_lt (dv 4) (de_callB cd_len (by rfl) T.b_len (by decide +kernel) (da_cons (dv 0) da_nil)) (nomark _))
      (dss_one (ds_set (i := 5) sc_l_bent_moves.nd rfl (by first | exact Or.inl rfl | exact Or.inr rfl) (de_ix (ixD_any hu2) (dv 0) (dv 4))))
      dss_nil)
    (dss_cons (ds_set (i := 6) sc_l_bent_moves.nd rfl (by first | exact Or.inl rfl | exact Or.inr rfl) (de_call G_l_odd_stand (hr.mono (by decide)) gu (by rfl) T.m_l_odd_stand T.F_l_odd_stand.kp T.d_l_odd_stand (da_cons (dv 2) (da_cons (dv 3) da_nil))))
    (dss_cons (ds_set (i := 7) sc_l_bent_moves.nd rfl (by first | exact Or.inl rfl | exact Or.inr rfl) (de_tup (da_cons (dv 5) (da_cons (dv 5) da_nil))))
    (dss_cons (ds_if (dt_cmp (od_eq hr.units) (dv 1) de_int (nomark _))
      (dss_one (ds_set (i := 7) sc_l_bent_moves.nd rfl (by first | exact Or.inl rfl | exact Or.inr rfl) (de_tup (da_cons (de_tup (da_cons (dv 6) (da_cons (de_ix (ixD_any hu2) (dv 5) de_int) (da_cons (de_ix (ixD_any hu2) (dv 5) de_int) da_nil)))) da_nil))))
      dss_nil)
    (dss_cons (ds_if (dt_cmp (od_eq hr.units) (dv 1) de_int (nomark _))
      (dss_one (ds_set (i := 7) sc_l_bent_moves.nd rfl (by first | exact Or.inl rfl | exact Or.inr rfl) (de_tup (da_cons (de_tup (da_cons (de_ix (ixD_any hu2) (dv 5) de_int) (da_cons (de_ix (ixD_any hu2) (dv 5) de_int) (da_cons (dv 6) da_nil)))) da_nil))))
      dss_nil)
    (dss_cons (ds_if (dt_cmp (od_eq hr.units) (dv 1) de_int (nomark _))
      (dss_one (ds_set (i := 7) sc_l_bent_moves.nd rfl (by first | exact Or.inl rfl | exact Or.inr rfl) (de_tup (da_cons (de_tup (da_cons (de_ix (ixD_any hu2) (dv 5) de_int) (da_cons (de_call G_l_odd_leaf (hr.mono (by decide)) gu (by rfl) T.m_l_odd_leaf T.F_l_odd_leaf.kp T.d_l_odd_leaf (da_cons (dv 2) da_nil)) (da_cons (de_ix (ixD_any hu2) (dv 5) de_int) da_nil)))) da_nil))))
      dss_nil)
    (dss_cons (ds_if (dt_cmp (od_eq hr.units) (dv 1) de_int (nomark _))
      (dss_one (ds_ret (de_backT (dv 0))))
      dss_nil)
    (dss_cons (ds_if (dt_cmp (od_eq hr.units) (dv 1) de_int (nomark _))
      (dss_one (ds_set (i := 7) sc_l_bent_moves.nd rfl (by first | exact Or.inl rfl | exact Or.inr rfl) (de_tup (da_cons (de_ix (ixD_any hu2) (de_lstF (da_cons (de_callTy (cd_listAF rfl) (by rfl) T.b_list (by decide +kernel) (da_cons (dv 5) da_nil)) (da_cons (de_slF (dv 5) do_none (do_some de_int)) (da_cons (de_op od_addF (dv 5) (de_tup (da_cons de_int da_nil))) (da_cons de_non da_nil))))) (de_op od_mod (dv 2) de_int)) da_nil))))
      dss_nil)
    (dss_cons (ds_if (dt_cmp (od_eq hr.units) (dv 1) de_int (nomark _))
      (dss_one (ds_ret (de_callTy (cd_listAF rfl) (by rfl) T.b_list (by decide +kernel) (da_cons (dv 0) da_nil))))
      dss_nil)
    (dss_one (ds_ret (de_op od_addF (de_op od_addF (de_slF (dv 0) do_none (do_some (dv 4))) (dv 7)) (de_slF (dv 0) (do_some (de_op od_addF (dv 4) de_int)) do_none)))))))))))))))

/-! is_leaf_patterns -/
def t_is_leaf_patterns : DTS := (dSeq (dIf (dOr (dNot (dTest (dIsi "tuple" (dVar 0)))) (dTest (dOp (dEq false) (dCB cLen (dCons (dVar 0) dNil)) (dC (.int 0)))))
      (dRet (dC (.bl false)))
      dNx)
    (dSeq (dIf (dTest (dCall sp_is_one_of (dCons (dOp dIxS (dVar 0) (dC (.int 0))) (dCons (dLstF (dCons (dC (.str "stay")) dNil)) dNil))))
      (dRet (dOp (dEq false) (dCB cLen (dCons (dVar 0) dNil)) (dC (.int 1))))
      dNx)
    (dSeq (dIf (dTest (dCall sp_is_one_of (dCons (dOp dIxS (dVar 0) (dC (.int 0))) (dCons (dLstF (dCons (dC (.str "step")) dNil)) dNil))))
      (dRet (dAndV (dOp (dEq false) (dCB cLen (dCons (dVar 0) dNil)) (dC (.int 3))) (dAndV (dCall sp_is_one_of (dCons (dOp dIxS (dVar 0) (dC (.int 1))) (dCons (dC (.tup [.str "on", .str "back"])) dNil))) (dCall sp_is_word (dCons (dOp dIxS (dVar 0) (dC (.int 2))) dNil)))))
      dNx)
    (dRet (dAndV (dCall sp_is_one_of (dCons (dOp dIxS (dVar 0) (dC (.int 0))) (dCons (dLstF (dCons (dC (.str "at")) (dCons (dC (.str "off")) dNil))) dNil))) (dAndV (dOp (dEq false) (dCB cLen (dCons (dVar 0) dNil)) (dC (.int 2))) (dCall sp_is_name (dCons (dOp dIxS (dVar 0) (dC (.int 1))) dNil))))))))
abbrev N_is_leaf_patterns : List Str := ["thing"]
theorem ok_is_leaf_patterns {P : Program} {w : World} {K : PySem.W.Frag} {mg : Str → Option Value} {base : Heap} (T : Txt w K mg) (G_is_name : DFn P w K mg base 1 T.a_is_name T.f_is_name ["thing"] sp_is_name) (G_is_one_of : DFn P w K mg base 1 T.a_is_one_of T.f_is_one_of ["thing", "some"] sp_is_one_of) (G_is_word : DFn P w K mg base 2 T.a_is_word T.f_is_word ["thing"] sp_is_word) {sp : DSp}
    (mono : SpMono sp) (len : ∀ ds S Q E, sp ds S Q E → ds.length = 1)
    (h : ∀ ds S Q E, sp ds S Q E → t_is_leaf_patterns (dEnd Q E) (dstart ["thing"] ds) S) : DFn P w K mg base 3 T.a_is_leaf_patterns T.f_is_leaf_patterns ["thing"] sp := by
  refine dfn_of2 (t := t_is_leaf_patterns) T.F_is_leaf_patterns sc_is_leaf_patterns mono len (fun cdv A outer s H E hr gu => ?_) h
  have hu1 := hu_of hr
  have hu2 := hu_big hr
  exact (dss_cons (ds_if (DWt.pt (dw_or (dt_not (dt_val (de_isi (T := "tuple") (by decide) (dv 0) (by rfl) T.b_isinstance (by rfl) T.b_tuple (by decide +kernel)))) (dw_or1 (dt_cmp (od_eq hr.units) (de_callB cd_len (by rfl) T.b_len (by decide +kernel) (da_cons (dv 0) da_nil)) de_int (nomark _)))))
      (dss_one (ds_ret de_bl))
      dss_nil)
    (dss_cons (ds_if (dt_val (de_call G_is_one_of (hr.mono (by decide)) gu (by rfl) T.m_is_one_of T.F_is_one_of.kp T.d_is_one_of (da_cons (de_ix (ixD_any hu2) (dv 0) de_int) (da_cons (de_lstF (da_cons de_str da_nil)) da_nil))))
      (dss_one (ds_ret (de_cmp (od_eq hr.units) (de_callB cd_len (by rfl) T.b_len (by decide +kernel) (da_cons (dv 0) da_nil)) de_int (nomark _))))
      dss_nil)
    (dss_cons (ds_if (dt_val (de_call G_is_one_of (hr.mono (by decide)) gu (by rfl) T.m_is_one_of T.F_is_one_of.kp T.d_is_one_of (da_cons (de_ix (ixD_any hu2) (dv 0) de_int) (da_cons (de_lstF (da_cons de_str da_nil)) da_nil))))
      (dss_one (ds_ret (de_and (de_cmp (od_eq hr.units) (de_callB cd_len (by rfl) T.b_len (by decide +kernel) (da_cons (dv 0) da_nil)) de_int (nomark _)) (de_and (de_call G_is_one_of (hr.mono (by decide)) gu (by rfl) T.m_is_one_of T.F_is_one_of.kp T.d_is_one_of (da_cons (de_ix (ixD_any hu2) (dv 0) de_int) (da_cons (de_gtup (by rfl) T.g_SIDES T.l_SIDES T.z_SIDES T.v_SIDES) da_nil))) (de_one (de_call G_is_word (hr.mono (by decide)) gu (by rfl) T.m_is_word T.F_is_word.kp T.d_is_word (da_cons (de_ix (ixD_any hu2) (dv 0) de_int) da_nil)))))))
      dss_nil)
    (dss_one (ds_ret (de_and (de_call G_is_one_of (hr.mono (by decide)) gu (by rfl) T.m_is_one_of T.F_is_one_of.kp T.d_is_one_of (da_cons (de_ix (ixD_any hu2) (dv 0) de_int) (da_cons (de_lstF (da_cons de_str (da_cons de_str da_nil))) da_nil))) (de_and (de_cmp (od_eq hr.units) (de_callB cd_len (by rfl) T.b_len (by decide +kernel) (da_cons (dv 0) da_nil)) de_int (nomark _)) (de_one (de_call G_is_name (hr.mono (by decide)) gu (by rfl) T.m_is_name T.F_is_name.kp T.d_is_name (da_cons (de_ix (ixD_any hu2) (dv 0) de_int) da_nil))))))))))
end K30X
set_option maxRecDepth 100000
set_option maxHeartbeats 4000000
namespace K30X
open PySem PySem.Spec L2
open L30
open Rc hiding N_is_pattern N_parts_right r_is_pattern r_parts_right sp_is_pattern sp_is_pattern_mono sp_parts_right sp_parts_right_mono t_is_pattern t_parts_right
open ShB hiding dSeqWhile_gen
open Sh hiding N_l_cell_at N_l_leaf deeps_mem perm_map_ex r_l_cell_at r_l_leaf sp_l_leaf sp_l_leaf_mono srt_strict t_l_cell_at t_l_leaf
open Dt hiding nkeys sp_l_cell_at sp_l_cell_at_mono

/-! l_machine -/
def t_l_machine : DTS := (dSeq (dAsg (dCall sp_l_draws (dCons (dVar 0) (dCons (dOp dAddF (dLstF (dCons (dVar 1) (dCons (dVar 1) (dCons (dC (.int 8)) (dCons (dOp dMul (dC (.int 3)) (dVar 1)) dNil))))) (dFz (dOp dMul (dOp dMul (dLst (dCons (dVar 1) (dCons (dC (.int 5)) (dCons (dC (.int 16)) (dCons (dVar 1) dNil))))) (dC (.int 3))) (dVar 1)))) dNil))) (dGN 2))
    (dSeq (dAsg (dOp dAddF (dC (.int 1)) (dOp dIxS (dVar 2) (dC (.int 0)))) (dGN 3))
    (dSeq (dAsg (dFz (dLc (dRng1 (dCons (dVar 3) dNil)) (dGN 11) (dTest (dOp (dEq false) (dOp rMod (dOp rFdiv (dOp dIxS (dVar 2) (dC (.int 2))) (dOp dIxS (dLstF (dCons (dC (.int 1)) (dCons (dC (.int 2)) (dCons (dC (.int 4)) dNil)))) (dOp rMod (dVar 11) (dC (.int 3))))) (dC (.int 2))) (dC (.int 1)))) (dVar 11) [11])) (dGN 4))
    (dSeq (dAsg dDnN (dGN 5))
    (dSeq (dFor (dRng1 (dCons (dOp dIxS (dVar 2) (dC (.int 3))) dNil)) (dGN 6)
      (dSeq (dAsg (dSlF (dVar 2) (dSoP (dOp dAddF (dC (.int 4)) (dOp dMul (dC (.int 4)) (dVar 6)))) (dSoP (dOp dAddF (dC (.int 8)) (dOp dMul (dC (.int 4)) (dVar 6))))) (dGTupA 4 (dGCons (dGN 7) (dGCons (dGN 8) (dGCons (dGN 9) (dGCons (dGN 10) dGNil))))))
    (dPut (dVar 5) (dTup (dCons (dOp rMod (dVar 7) (dVar 3)) (dCons (dCall sp_l_leaf (dCons (dVar 8) (dCons (dVar 9) dNil))) (dCons (dOp rMod (dVar 10) (dVar 3)) dNil)))) (dC (.bl true)))))
    (dRet (dTup (dCons (dVar 3) (dCons (dOp rMod (dOp dIxS (dVar 2) (dC (.int 1))) (dVar 3)) (dCons (dCB cTuple (dCons (dVar 4) dNil)) (dCons (dCB cTuple (dCons (dCB cSortAF (dCons (dVar 5) dNil)) dNil)) dNil)))))))))))
abbrev N_l_machine : List Str := ["_law_cell", "_law_most", "_law_ds", "_law_many", "_law_ends", "_law_moves", "_law_j", "_law_one", "_law_way", "_law_number", "_law_other", "_law_stand"]
theorem ok_l_machine {P : Program} {w : World} {K : PySem.W.Frag} {mg : Str → Option Value} {base : Heap} (T : Txt w K mg) (G_l_draws : DFn P w K mg base 1 T.a_l_draws T.f_l_draws ["_law_cell", "_law_sizes"] sp_l_draws) (G_l_leaf : DFn P w K mg base 2 T.a_l_leaf T.f_l_leaf ["_law_way", "_law_number"] sp_l_leaf) {sp : DSp}
    (mono : SpMono sp) (len : ∀ ds S Q E, sp ds S Q E → ds.length = 2)
    (h : ∀ ds S Q E, sp ds S Q E → t_l_machine (dEnd Q E) (dstart ["_law_cell", "_law_most", "_law_ds", "_law_many", "_law_ends", "_law_moves", "_law_j", "_law_one", "_law_way", "_law_number", "_law_other", "_law_stand"] ds) S) : DFn P w K mg base 3 T.a_l_machine T.f_l_machine ["_law_cell", "_law_most"] sp := by
  refine dfn_of2 (t := t_l_machine) T.F_l_machine sc_l_machine mono len (fun cdv A outer s H E hr gu => ?_) h
  have hu1 := hu_of hr
  have hu2 := hu_big hr
  exact (dss_cons (ds_set (i := 2) sc_l_machine.nd rfl (by first | exact Or.inl rfl | exact Or.inr rfl) (de_call G_l_draws (hr.mono (by decide)) gu (by rfl) T.m_l_draws T.F_l_draws.kp T.d_l_draws (da_cons (dv 0) (da_cons (de_op od_addF (de_lstF (da_cons (dv 1) (da_cons (dv 1) (da_cons de_int (da_cons (de_op od_mul de_int (dv 1)) da_nil))))) (de_fz (de_op od_mul (de_op od_mul (de_lst (da_cons (dv 1) (da_cons de_int (da_cons de_int (da_cons (dv 1) da_nil))))) de_int) (dv 1)))) da_nil))))
    (dss_cons (ds_set (i := 3) sc_l_machine.nd rfl (by first | exact Or.inl rfl | exact Or.inr rfl) (de_op od_addF de_int (de_ix (ixD_any hu2) (dv 2) de_int)))
    (dss_cons (ds_setLcF (i := 4) (own := [("_law_stand", 11)]) rfl sc_l_machine.nd rfl rfl (sw_true rfl rfl rfl (by decide +kernel)) (di_rng1 (by rfl) T.b_range (da_cons (dv 3) da_nil)) (blkOk_by (own := [("_law_stand", 11)]) (N := ["_law_cell", "_law_most", "_law_ds", "_law_many", "_law_ends", "_law_moves", "_law_j", "_law_one", "_law_way", "_law_number", "_law_other", "_law_stand"]) (sc := defScope s_l_machine) (by decide +kernel)) ⟨fun _ _ _ _ _ => (dw_name (i := 11) sc_l_machine.nd rfl (by first | exact Or.inl rfl | exact Or.inr rfl) (by decide)), fun _ _ _ _ _ => (dts_one (dt_cmp (od_eq hr.units) (de_op od_mod (de_op od_fdiv (de_ix (ixD_any hu2) (dv 2) de_int) (de_ix (ixD_any hu2) (de_lstF (da_cons de_int (da_cons de_int (da_cons de_int da_nil)))) (de_op od_mod (dv 11) de_int))) de_int) de_int (nomark _))), fun _ _ _ _ _ => (dv 11)⟩)
    (dss_cons (ds_set (i := 5) sc_l_machine.nd rfl (by first | exact Or.inl rfl | exact Or.inr rfl) de_dnN)
    (dss_cons (ds_for (passes_of rfl) rfl (di_rng1 (by rfl) T.b_range (da_cons (de_ix (ixD_any hu2) (dv 2) de_int) da_nil)) (dg_name (i := 6) sc_l_machine.nd rfl (by first | exact Or.inl rfl | exact Or.inr rfl))
      (dss_cons (ds_asg (de_slF (dv 2) (do_some (de_op od_addF de_int (de_op od_mul de_int (dv 6)))) (do_some (de_op od_addF de_int (de_op od_mul de_int (dv 6))))) (dg_tupA rfl (dgs_cons (dg_name (i := 7) sc_l_machine.nd rfl (by first | exact Or.inl rfl | exact Or.inr rfl)) (dgs_cons (dg_name (i := 8) sc_l_machine.nd rfl (by first | exact Or.inl rfl | exact Or.inr rfl)) (dgs_cons (dg_name (i := 9) sc_l_machine.nd rfl (by first | exact Or.inl rfl | exact Or.inr rfl)) (dgs_cons (dg_name (i := 10) sc_l_machine.nd rfl (by first | exact Or.inl rfl | exact Or.inr rfl)) dgs_nil))))))
    (dss_one (ds_put hu2 (dv 5) (de_tup (da_cons (de_op od_mod (dv 7) (dv 3)) (da_cons (de_call G_l_leaf (hr.mono (by decide)) gu (by rfl) T.m_l_leaf T.F_l_leaf.kp T.d_l_leaf (da_cons (dv 8) (da_cons (dv 9) da_nil))) (da_cons (de_op od_mod (dv 10) (dv 3)) da_nil)))) de_bl))))
    (dss_one (ds_ret (de_tup (da_cons (dv 3) (da_cons (de_op od_mod (de_ix (ixD_any hu2) (dv 2) de_int) (dv 3)) (da_cons (de_callTy cd_tuple (by rfl) T.b_tuple (by decide +kernel) (da_cons (dv 4) da_nil)) (da_cons (de_callTy cd_tuple (by rfl) T.b_tuple (by decide +kernel) (da_cons (de_callB (cd_sortAF rfl (hu64 hu2)) (by rfl) T.b_sorted (by decide +kernel) (da_cons (dv 5) da_nil)) da_nil)) da_nil))))))))))))

/-! l_is_machine -/
def t_l_is_machine : DTS := (dSeq (dIf (dOr (dNot (dTest (dIsi "tuple" (dVar 0)))) (dTest (dOp (dEq true) (dCB cLen (dCons (dVar 0) dNil)) (dC (.int 4)))))
      (dRet (dC (.bl false)))
      dNx)
    (dSeq (dAsg (dVar 0) (dGTupA 4 (dGCons (dGN 2) (dGCons (dGN 3) (dGCons (dGN 4) (dGCons (dGN 5) dGNil))))))
    (dSeq (dIf (dOr (dNot (dTest (dIsi "tuple" (dVar 4)))) (dNot (dTest (dIsi "tuple" (dVar 5)))))
      (dRet (dC (.bl false)))
      dNx)
    (dSeq (dIf (dOr (dNot (dTest (dCall sp_l_is_stand (dCons (dVar 2) (dCons (dOp dAddF (dVar 1) (dC (.int 1))) dNil))))) (dTest (dOp rLt (dVar 2) (dC (.int 1)))))
      (dRet (dC (.bl false)))
      dNx)
    (dSeq (dAsg (dOp dAdd (dLstF (dCons (dVar 3) dNil)) (dCB cListAF (dCons (dVar 4) dNil))) (dGN 6))
    (dSeq (dFor (dSeqI (dVar 5)) (dGN 7)
      (dSeq (dIf (dOr (dNot (dTest (dIsi "tuple" (dVar 7)))) (dOr (dTest (dOp (dEq true) (dCB cLen (dCons (dVar 7) dNil)) (dC (.int 3)))) (dNot (dTest (dCall sp_l_is_leaf (dCons (dOp dIxS (dVar 7) (dC (.int 1))) dNil))))))
      (dRet (dC (.bl false)))
      dNx)
    (dDrop (dBM "list" mExtend (dVar 6) (dCons (dLstF (dCons (dOp dIxS (dVar 7) (dC (.int 0))) (dCons (dOp dIxS (dVar 7) (dC (.int 2))) dNil))) dNil)))))
    (dSeq (dIf (dTest (dOp (dIn false) (dC (.bl false)) (dFz (dLc (dSeqI (dVar 6)) (dGN 8) dYes (dCall sp_l_is_stand (dCons (dVar 8) (dCons (dVar 2) dNil))) [8]))))
      (dRet (dC (.bl false)))
      dNx)
    (dRet (dAndV (dOp (dEq false) (dCB cListAF (dCons (dVar 4) dNil)) (dSortSetAF (dVar 4))) (dOp (dEq false) (dCB cListAF (dCons (dVar 5) dNil)) (dSortNF (dVar 5))))))))))))
abbrev N_l_is_machine : List Str := ["_law_thing", "_law_most", "_law_many", "_law_begin", "_law_ends", "_law_moves", "_law_stands", "_law_move", "_law_stand"]
theorem ok_l_is_machine {P : Program} {w : World} {K : PySem.W.Frag} {mg : Str → Option Value} {base : Heap} (T : Txt w K mg) (G_l_is_stand : DFn P w K mg base 1 T.a_l_is_stand T.f_l_is_stand ["_law_thing", "_law_many"] sp_l_is_stand) (G_l_is_leaf : DFn P w K mg base 2 T.a_l_is_leaf T.f_l_is_leaf ["_law_thing"] sp_l_is_leaf) {sp : DSp}
    (mono : SpMono sp) (len : ∀ ds S Q E, sp ds S Q E → ds.length = 2)
    (h : ∀ ds S Q E, sp ds S Q E → t_l_is_machine (dEnd Q E) (dstart ["_law_thing", "_law_most", "_law_many", "_law_begin", "_law_ends", "_law_moves", "_law_stands", "_law_move", "_law_stand"] ds) S) : DFn P w K mg base 3 T.a_l_is_machine T.f_l_is_machine ["_law_thing", "_law_most"] sp := by
  refine dfn_of2 (t := t_l_is_machine) T.F_l_is_machine sc_l_is_machine mono len (fun cdv A outer s H E hr gu => ?_) h
  have hu1 := hu_of hr
  have hu2 := hu_big hr
  exact (dss_cons (ds_if (DWt.pt (dw_or (dt_not (dt_val (de_isi (T := "tuple") (by decide) (dv 0) (by rfl) T.b_isinstance (by rfl) T.b_tuple (by decide +kernel)))) (dw_or1 (dt_cmp (od_ne hr.units) (de_callB cd_len (by rfl) T.b_len (by decide +kernel) (da_cons (dv 0) da_nil)) de_int (nomark _)))))
      (dss_one (ds_ret de_bl))
      dss_nil)
    (dss_cons (ds_asg (dv 0) (dg_tupA rfl (dgs_cons (dg_name (i := 2) sc_l_is_machine.nd rfl (by first | exact Or.inl rfl | exact Or.inr rfl)) (dgs_cons (dg_name (i := 3) sc_l_is_machine.nd rfl (by first | exact Or.inl rfl | exact Or.inr rfl)) (dgs_cons (dg_name (i := 4) sc_l_is_machine.nd rfl (by first | exact Or.inl rfl | exact Or.inr rfl)) (dgs_cons (dg_name (i := 5) sc_l_is_machine.nd rfl (by first | exact Or.inl rfl | exact Or.inr rfl)) dgs_nil))))))
    (dss_cons (ds_if (DWt.pt (dw_or (dt_not (dt_val (de_isi (T := "tuple") (by decide) (dv 4) (by rfl) T.b_isinstance (by rfl) T.b_tuple (by decide +kernel)))) (dw_or1 (dt_not (dt_val (de_isi (T := "tuple") (by decide) (dv 5) (by rfl) T.b_isinstance (by rfl) T.b_tuple (by decide +kernel)))))))
      (dss_one (ds_ret de_bl))
      dss_nil)
    (dss_cons (ds_if (DWt.pt (dw_or (dt_not (dt_val (de_call G_l_is_stand (hr.mono (by decide)) gu (by rfl) T.m_l_is_stand T.F_l_is_stand.kp T.d_l_is_stand (da_cons (dv 2) (da_cons (de_op od_addF (dv 1) de_int) da_nil))))) (dw_or1 (dt_cmp od_lt (dv 2) de_int (nomark _)))))
      (dss_one (ds_ret de_bl))
      dss_nil)
    (dss_cons (ds_set (i := 6) sc_l_is_machine.nd rfl (by first | exact Or.inl rfl | exact Or.inr rfl) (de_op od_add (de_lstF (da_cons (dv 3) da_nil)) (de_callTy (cd_listAF rfl) (by rfl) T.b_list (by decide +kernel) (da_cons (dv 4) da_nil))))
    (dss_cons (ds_for (passes_of rfl) rfl (di_seq (dv 5)) (dg_name (i := 7) sc_l_is_machine.nd rfl (by first | exact Or.inl rfl | exact Or.inr rfl))
      (dss_cons (ds_if (DWt.pt (dw_or (dt_not (dt_val (de_isi (T := "tuple") (by decide) (dv 7) (by rfl) T.b_isinstance (by rfl) T.b_tuple (by decide +kernel)))) (dw_or (dt_cmp (od_ne hr.units) (de_callB cd_len (by rfl) T.b_len (by decide +kernel) (da_cons (dv 7) da_nil)) de_int (nomark _)) (dw_or1 (dt_not (dt_val (de_call G_l_is_leaf (hr.mono (by decide)) gu (by rfl) T.m_l_is_leaf T.F_l_is_leaf.kp T.d_l_is_leaf (da_cons (de_ix (ixD_any hu2) (dv 7) de_int) da_nil))))))))
      (dss_one (ds_ret de_bl))
      dss_nil)
    (dss_one (ds_expr (de_bm PySem.F.plainAttrs_list PySem.F.slot_list_extend PySem.F.type_list_extend md_extend (dv 6) (da_cons (de_lstF (da_cons (de_ix (ixD_any hu2) (dv 7) de_int) (da_cons (de_ix (ixD_any hu2) (dv 7) de_int) da_nil))) da_nil))))))
    (dss_cons (ds_if (dt_cmp (od_in hu2) de_bl (de_fz (de_lc (own := [("_law_stand", 8)]) rfl sc_l_is_machine.nd (di_seq (dv 6)) (blkOk_by (own := [("_law_stand", 8)]) (N := ["_law_thing", "_law_most", "_law_many", "_law_begin", "_law_ends", "_law_moves", "_law_stands", "_law_move", "_law_stand"]) (sc := defScope s_l_is_machine) (by decide +kernel)) ⟨fun _ _ _ _ _ => (dw_name (i := 8) sc_l_is_machine.nd rfl (by first | exact Or.inl rfl | exact Or.inr rfl) (by decide)), fun _ _ _ _ _ => dts_nil, fun _ _ _ _ _ => (de_call G_l_is_stand (hr.mono (by decide)) gu (by rfl) T.m_l_is_stand T.F_l_is_stand.kp T.d_l_is_stand (da_cons (dv 8) (da_cons (dv 2) da_nil)))⟩)) (by rfl))
      (dss_one (ds_ret de_bl))
      dss_nil)
    (dss_one (ds_ret (de_and (de_cmp (od_eq hr.units) (de_callTy (cd_listAF rfl) (by rfl) T.b_list (by decide +kernel) (da_cons (dv 4) da_nil)) (de_sortSetAF rfl (hu64 hu2) (by rfl) T.b_sorted (by rfl) T.b_set (by decide +kernel) (by decide +kernel) (dv 4)) (nomark _)) (de_one (de_cmp (od_eq hr.units) (de_callTy (cd_listAF rfl) (by rfl) T.b_list (by decide +kernel) (da_cons (dv 5) da_nil)) (de_sortNF rfl (hu64 hu2) (by rfl) T.b_sorted (by rfl) T.b_set (by decide +kernel) (by decide +kernel) (dv 5)) (nomark _)))))))))))))

/-! l_bent -/
def t_l_bent : DTS := (dSeq (dAsg (dVar 0) (dGTupA 4 (dGCons (dGN 3) (dGCons (dGN 4) (dGCons (dGN 5) (dGCons (dGN 6) dGNil))))))
    (dSeq (dIf (dTest (dOp rLt (dVar 1) (dC (.int 7))))
      (dSeq (dAsg (dCall sp_l_bent_moves (dCons (dVar 6) (dCons (dVar 1) (dCons (dVar 2) (dCons (dVar 3) dNil))))) (dGN 7))
    (dRet (dTup (dCons (dVar 3) (dCons (dVar 4) (dCons (dVar 5) (dCons (dVar 7) dNil)))))))
      dNx)
    (dSeq (dIf (dTest (dOp (dEq false) (dVar 1) (dC (.int 7))))
      (dRet (dTup (dCons (dVar 3) (dCons (dCall sp_l_odd_stand (dCons (dVar 2) (dCons (dVar 3) dNil))) (dCons (dVar 5) (dCons (dVar 6) dNil))))))
      dNx)
    (dSeq (dIf (dTest (dOp (dEq false) (dVar 1) (dC (.int 8))))
      (dRet (dTup (dCons (dVar 3) (dCons (dVar 4) (dCons (dOp dAddF (dVar 5) (dTup (dCons (dCall sp_l_odd_stand (dCons (dVar 2) (dCons (dVar 3) dNil))) dNil))) (dCons (dVar 6) dNil))))))
      dNx)
    (dSeq (dIf (dTest (dOp (dEq false) (dVar 1) (dC (.int 9))))
      (dRet (dTup (dCons (dVar 3) (dCons (dVar 4) (dCons (dOp dAddF (dVar 5) (dSlF (dVar 5) dNoP (dSoP (dC (.int 1))))) (dCons (dVar 6) dNil))))))
      dNx)
    (dSeq (dIf (dTest (dOp (dEq false) (dVar 1) (dC (.int 10))))
      (dRet (dTup (dCons (dVar 3) (dCons (dVar 4) (dCons (dBackT (dVar 5)) (dCons (dVar 6) dNil))))))
      dNx)
    (dSeq (dIf (dTest (dOp (dEq false) (dVar 1) (dC (.int 11))))
      (dRet (dTup (dCons (dVar 3) (dCons (dVar 4) (dCons (dOp dIxS (dLstF (dCons (dCB cListAF (dCons (dVar 5) dNil)) (dCons (dC (.int 0)) (dCons (dC .non) (dCons (dC (.str "01")) dNil))))) (dOp rMod (dVar 2) (dC (.int 4)))) (dCons (dVar 6) dNil))))))
      dNx)
    (dSeq (dIf (dTest (dOp (dEq false) (dVar 1) (dC (.int 12))))
      (dRet (dTup (dCons (dOp dIxS (dLstF (dCons (dC (.int 0)) (dCons (dNeg (dC (.int 1))) (dCons (dC (.bl true)) (dCons (dC (.str "3")) (dCons (dC .non) (dCons (dOp rSub (dVar 3) (dC (.int 1))) dNil))))))) (dOp rMod (dVar 2) (dC (.int 6)))) (dCons (dVar 4) (dCons (dVar 5) (dCons (dVar 6) dNil))))))
      dNx)
    (dSeq (dIf (dTest (dOp (dEq false) (dVar 1) (dC (.int 13))))
      (dSeq (dAsg (dLstF (dCons (dCB cListAF (dCons (dVar 0) dNil)) (dCons (dSlF (dVar 0) dNoP (dSoP (dC (.int 3)))) (dCons (dOp dAddF (dVar 0) (dTup (dCons (dTup dNil) dNil))) (dCons (dTup dNil) (dCons (dC .non) (dCons (dC (.int 7)) (dCons (dC (.str "machine")) dNil)))))))) (dGN 8))
    (dRet (dOp dIxS (dVar 8) (dOp rMod (dVar 2) (dC (.int 7))))))
      dNx)
    (dSeq (dIf (dTest (dOp (dEq false) (dVar 1) (dC (.int 14))))
      (dRet (dTup (dCons (dOp dIxS (dLstF (dCons (dOp rPow (dC (.int 10)) (dC (.int 19))) (dCons (dOp dAddF (dVar 3) (dC (.int 1))) dNil))) (dOp rMod (dVar 2) (dC (.int 2)))) (dCons (dVar 4) (dCons (dVar 5) (dCons (dVar 6) dNil))))))
      dNx)
    (dRet (dVar 0))))))))))))
abbrev N_l_bent : List Str := ["_law_machine_here", "_law_way", "_law_number", "_law_many", "_law_begin", "_law_ends", "_law_moves", "_law_bent_here", "_law_odd"]
theorem ok_l_bent {P : Program} {w : World} {K : PySem.W.Frag} {mg : Str → Option Value} {base : Heap} (T : Txt w K mg) (G_l_odd_stand : DFn P w K mg base 1 T.a_l_odd_stand T.f_l_odd_stand ["_law_number", "_law_many"] sp_l_odd_stand) (G_l_bent_moves : DFn P w K mg base 2 T.a_l_bent_moves T.f_l_bent_moves ["_law_moves", "_law_way", "_law_number", "_law_many"] sp_l_bent_moves) {sp : DSp}
    (mono : SpMono sp) (len : ∀ ds S Q E, sp ds S Q E → ds.length = 3)
    (h : ∀ ds S Q E, sp ds S Q E → t_l_bent (dEnd Q E) (dstart ["_law_machine_here", "_law_way", "_law_number", "_law_many", "_law_begin", "_law_ends", "_law_moves", "_law_bent_here", "_law_odd"] ds) S) : DFn P w K mg base 3 T.a_l_bent T.f_l_bent ["_law_machine_here", "_law_way", "_law_number"] sp := by
  refine dfn_of2 (t := t_l_bent) T.F_l_bent sc_l_bent mono len (fun cdv A outer s H E hr gu => ?_) h
  have hu1 := hu_of hr
  have hu2 := hu_big hr
  exact (dss_cons (ds_asg (dv 0) (dg_tupA rfl (dgs_cons (dg_name (i := 3) sc_l_bent.nd rfl (by first | exact Or.inl rfl | exact Or.inr rfl)) (dgs_cons (dg_name (i := 4) sc_l_bent.nd rfl (by first | exact Or.inl rfl | exact Or.inr rfl)) (dgs_cons (dg_name (i := 5) sc_l_bent.nd rfl (by first | exact Or.inl rfl | exact Or.inr rfl)) (dgs_cons (dg_name (i := 6) sc_l_bent.nd rfl (by first | exact Or.inl rfl | exact Or.inr rfl)) dgs_nil))))))
    (dss_cons (ds_if (dt_cmp od_lt (dv 1) de_int (nomark _))
      (dss_cons (ds_set (i := 7) sc_l_bent.nd rfl (by first | exact Or.inl rfl | exact Or.inr rfl) (de_call G_l_bent_moves (hr.mono (by decide)) gu (by rfl) T.m_l_bent_moves T.F_l_bent_moves.kp T.d_l_bent_moves (da_cons (dv 6) (da_cons (dv 1) (da_cons (dv 2) (da_cons (dv 3) da_nil))))))
    (dss_one (ds_ret (de_tup (da_cons (dv 3) (da_cons (dv 4) (da_cons (dv 5) (da_cons (dv 7) da_nil))))))))
      dss_nil)
    (dss_cons (ds_if (dt_cmp (od_eq hr.units) (dv 1) de_int (nomark _))
      (dss_one (ds_ret (de_tup (da_cons (dv 3) (da_cons (de_call G_l_odd_stand (hr.mono (by decide)) gu (by rfl) T.m_l_odd_stand T.F_l_odd_stand.kp T.d_l_odd_stand (da_cons (dv 2) (da_cons (dv 3) da_nil))) (da_cons (dv 5) (da_cons (dv 6) da_nil)))))))
      dss_nil)
    (dss_cons (ds_if (dt_cmp (od_eq hr.units) (dv 1) de_int (nomark _))
      (dss_one (ds_ret (de_tup (da_cons (dv 3) (da_cons (dv 4) (da_cons (de_op od_addF (dv 5) (de_tup (da_cons (de_call G_l_odd_stand (hr.mono (by decide)) gu (by rfl) T.m_l_odd_stand T.F_l_odd_stand.kp T.d_l_odd_stand (da_cons (dv 2) (da_cons (dv 3) da_nil))) da_nil))) (da_cons (dv 6) da_nil)))))))
      dss_nil)
    (dss_cons (ds_if (dt_cmp (od_eq hr.units) (dv 1) de_int (nomark _))
      (dss_one (ds_ret (de_tup (da_cons (dv 3) (da_cons (dv 4) (da_cons (de_op od_addF (dv 5) (de_slF (dv 5) do_none (do_some de_int))) (da_cons (dv 6) da_nil)))))))
      dss_nil)
    (dss_cons (ds_if (dt_cmp (od_eq hr.units) (dv 1) de_int (nomark _))
      (dss_one (ds_ret (de_tup (da_cons (dv 3) (da_cons (dv 4) (da_cons (de_backT (dv 5)) (da_cons (dv 6) da_nil)))))))
      dss_nil)
    (dss_cons (ds_if (dt_cmp (od_eq hr.units) (dv 1) de_int (nomark _))
      (dss_one (ds_ret (de_tup (da_cons (dv 3) (da_cons (dv 4) (da_cons (de_ix (ixD_any hu2) (de_lstF (da_cons (de_callTy (cd_listAF rfl) (by rfl) T.b_list (by decide +kernel) (da_cons (dv 5) da_nil)) (da_cons de_int (da_cons de_non (da_cons de_str da_nil))))) (de_op od_mod (dv 2) de_int)) (da_cons (dv 6) da_nil)))))))
      dss_nil)
    (dss_cons (ds_if (dt_cmp (od_eq hr.units) (dv 1) de_int (nomark _))
      (dss_one (ds_ret (de_tup (da_cons (de_ix (ixD_any hu2) (de_lstF (da_cons de_int (da_cons (de_neg de_int) (da_cons de_bl (da_cons de_str (da_cons de_non (da_cons (de_op od_sub (dv 3) de_int) da_nil))))))) (de_op od_mod (dv 2) de_int)) (da_cons (dv 4) (da_cons (dv 5) (da_cons (dv 6) da_nil)))))))
      dss_nil)
    (dss_cons (ds_if (dt_cmp (od_eq hr.units) (dv 1) de_int (nomark _))
      (dss_cons (ds_set (i := 8) sc_l_bent.nd rfl (by first | exact Or.inl rfl | exact Or.inr rfl) (de_lstF (da_cons (de_callTy (cd_listAF rfl) (by rfl) T.b_list (by decide +kernel) (da_cons (dv 0) da_nil)) (da_cons (de_slF (dv 0) do_none (do_some de_int)) (da_cons (de_op od_addF (dv 0) (de_tup (da_cons (de_tup da_nil) da_nil))) (da_cons (de_tup da_nil) (da_cons de_non (da_cons de_int (da_cons de_str da_nil)))))))))
    (dss_one (ds_ret (de_ix (ixD_any hu2) (dv 8) (de_op od_mod (dv 2) de_int)))))
      dss_nil)
    (dss_cons (ds_if (dt_cmp (od_eq hr.units) (dv 1) de_int (nomark _))
      (dss_one (ds_ret (de_tup (da_cons (de_ix (ixD_any hu2) (de_lstF (da_cons (de_op od_pow de_int de_int) (da_cons (de_op od_addF (dv 3) de_int) da_nil))) (de_op od_mod (dv 2) de_int)) (da_cons (dv 4) (da_cons (dv 5) (da_cons (dv 6) da_nil)))))))
      dss_nil)
    (dss_one (ds_ret (dv 0)))))))))))))

/-! parts_right -/
def t_parts_right : DTS := (dSeq (dIf (dTest (dCall sp_is_leaf_patterns (dCons (dVar 0) dNil)))
      (dRet (dLstF dNil))
      dNx)
    (dSeq (dIf (dOr (dNot (dTest (dIsi "tuple" (dVar 0)))) (dTest (dOp (dEq true) (dCB cLen (dCons (dVar 0) dNil)) (dC (.int 2)))))
      (dRet (dC .non))
      dNx)
    (dSeq (dIf (dTest (dCall sp_is_one_of (dCons (dOp dIxS (dVar 0) (dC (.int 0))) (dCons (dLstF (dCons (dC (.str "many")) dNil)) dNil))))
      (dRet (dLstF (dCons (dOp dIxS (dVar 0) (dC (.int 1))) dNil)))
      dNx)
    (dSeq (dIf (dOr (dNot (dTest (dCall sp_is_one_of (dCons (dOp dIxS (dVar 0) (dC (.int 0))) (dCons (dLstF (dCons (dC (.str "then")) (dCons (dC (.str "either")) dNil))) dNil))))) (dNot (dTest (dIsi "tuple" (dOp dIxS (dVar 0) (dC (.int 1)))))))
      (dRet (dC .non))
      dNx)
    (dSeq (dIf (dTest (dOp rGt (dCB cLen (dCons (dOp dIxS (dVar 0) (dC (.int 1))) dNil)) (dC (.int 39))))
      (dRet (dC .non))
      dNx)
    (dRet (dCB cListAF (dCons (dOp dIxS (dVar 0) (dC (.int 1))) dNil))))))))
abbrev N_parts_right : List Str := ["thing"]
theorem ok_parts_right {P : Program} {w : World} {K : PySem.W.Frag} {mg : Str → Option Value} {base : Heap} (T : Txt w K mg) (G_is_one_of : DFn P w K mg base 1 T.a_is_one_of T.f_is_one_of ["thing", "some"] sp_is_one_of) (G_is_leaf_patterns : DFn P w K mg base 3 T.a_is_leaf_patterns T.f_is_leaf_patterns ["thing"] sp_is_leaf_patterns) {sp : DSp}
    (mono : SpMono sp) (len : ∀ ds S Q E, sp ds S Q E → ds.length = 1)
    (h : ∀ ds S Q E, sp ds S Q E → t_parts_right (dEnd Q E) (dstart ["thing"] ds) S) : DFn P w K mg base 4 T.a_parts_right T.f_parts_right ["thing"] sp := by
  refine dfn_of2 (t := t_parts_right) T.F_parts_right sc_parts_right mono len (fun cdv A outer s H E hr gu => ?_) h
  have hu1 := hu_of hr
  have hu2 := hu_big hr
  exact (dss_cons (ds_if (dt_val (de_call G_is_leaf_patterns (hr.mono (by decide)) gu (by rfl) T.m_is_leaf_patterns T.F_is_leaf_patterns.kp T.d_is_leaf_patterns (da_cons (dv 0) da_nil)))
      (dss_one (ds_ret (de_lstF da_nil)))
      dss_nil)
    (dss_cons (ds_if (DWt.pt (dw_or (dt_not (dt_val (de_isi (T := "tuple") (by decide) (dv 0) (by rfl) T.b_isinstance (by rfl) T.b_tuple (by decide +kernel)))) (dw_or1 (dt_cmp (od_ne hr.units) (de_callB cd_len (by rfl) T.b_len (by decide +kernel) (da_cons (dv 0) da_nil)) de_int (nomark _)))))
      (dss_one (ds_ret de_non))
      dss_nil)
    (dss_cons (ds_if (dt_val (de_call G_is_one_of (hr.mono (by decide)) gu (by rfl) T.m_is_one_of T.F_is_one_of.kp T.d_is_one_of (da_cons (de_ix (ixD_any hu2) (dv 0) de_int) (da_cons (de_lstF (da_cons de_str da_nil)) da_nil))))
      (dss_one (ds_ret (de_lstF (da_cons (de_ix (ixD_any hu2) (dv 0) de_int) da_nil))))
      dss_nil)
    (dss_cons (ds_if (DWt.pt (dw_or (dt_not (dt_val (de_call G_is_one_of (hr.mono (by decide)) gu (by rfl) T.m_is_one_of T.F_is_one_of.kp T.d_is_one_of (da_cons (de_ix (ixD_any hu2) (dv 0) de_int) (da_cons (de_lstF (da_cons de_str (da_cons de_str da_nil))) da_nil))))) (dw_or1 (dt_not (dt_val (de_isi (T := "tuple") (by decide) (de_ix (ixD_any hu2) (dv 0) de_int) (by rfl) T.b_isinstance (by rfl) T.b_tuple (by decide +kernel)))))))
      (dss_one (ds_ret de_non))
      dss_nil)
    (dss_cons (ds_if (dt_cmp od_gt (de_callB cd_len (by rfl) T.b_len (by decide +kernel) (da_cons (de_ix (ixD_any hu2) (dv 0) de_int) da_nil)) (de_gint (by rfl) T.g_MOST_WITHIN) (nomark _))
      (dss_one (ds_ret de_non))
      dss_nil)
    (dss_one (ds_ret (de_callTy (cd_listAF rfl) (by rfl) T.b_list (by decide +kernel) (da_cons (de_ix (ixD_any hu2) (dv 0) de_int) da_nil)))))))))

/-! is_pattern -/
def t_is_pattern : DTS := (dSeq (dAsg (dLst (dCons (dTup (dCons (dVar 0) (dCons (dC (.int 1)) dNil))) dNil)) (dGN 1))
    (dSeq (dAsg (dC (.int 0)) (dGN 2))
    (dSeq (dWhile (dTest (dOp rGt (dCB cLen (dCons (dVar 1) dNil)) (dC (.int 0))))
      (dSeq (dAsg (dBM "list" mPop (dVar 1) dNil) (dGTupA 2 (dGCons (dGN 3) (dGCons (dGN 4) dGNil))))
    (dSeq (dAsg (dOp dAddF (dVar 2) (dC (.int 1))) (dGN 2))
    (dSeq (dAsg (dCall sp_parts_right (dCons (dVar 3) dNil)) (dGN 5))
    (dSeq (dIf (dOr (dTest (dOp (dIsN false) (dVar 5) (dC .non))) (dOr (dTest (dOp rGt (dVar 4) (dC (.int 10)))) (dTest (dOp rGt (dVar 2) (dC (.int 40))))))
      (dRet (dC (.bl false)))
      dNx)
    (dDrop (dBM "list" mExtend (dVar 1) (dCons (dFz (dLc (dSeqI (dVar 5)) (dGN 6) dYes (dTup (dCons (dVar 6) (dCons (dOp dAddF (dVar 4) (dC (.int 1))) dNil))) [6])) dNil))))))))
    (dRet (dC (.bl true))))))
abbrev N_is_pattern : List Str := ["thing", "left", "count", "part", "deep", "some", "one"]
theorem ok_is_pattern {P : Program} {w : World} {K : PySem.W.Frag} {mg : Str → Option Value} {base : Heap} (T : Txt w K mg) (G_parts_right : DFn P w K mg base 4 T.a_parts_right T.f_parts_right ["thing"] sp_parts_right) {sp : DSp}
    (mono : SpMono sp) (len : ∀ ds S Q E, sp ds S Q E → ds.length = 1)
    (h : ∀ ds S Q E, sp ds S Q E → t_is_pattern (dEnd Q E) (dstart ["thing", "left", "count", "part", "deep", "some", "one"] ds) S) : DFn P w K mg base 5 T.a_is_pattern T.f_is_pattern ["thing"] sp := by
  refine dfn_of2 (t := t_is_pattern) T.F_is_pattern sc_is_pattern mono len (fun cdv A outer s H E hr gu => ?_) h
  have hu1 := hu_of hr
  have hu2 := hu_big hr
  exact (dss_cons (ds_set (i := 1) sc_is_pattern.nd rfl (by first | exact Or.inl rfl | exact Or.inr rfl) (de_lst (da_cons (de_tup (da_cons (dv 0) (da_cons de_int da_nil))) da_nil)))
    (dss_cons (ds_set (i := 2) sc_is_pattern.nd rfl (by first | exact Or.inl rfl | exact Or.inr rfl) de_int)
    (dss_cons (ds_while (passes_of rfl) (dt_cmp od_gt (de_callB cd_len (by rfl) T.b_len (by decide +kernel) (da_cons (dv 1) da_nil)) de_int (nomark _))
      (dss_cons (ds_asg (de_bm0 PySem.F.plainAttrs_list PySem.F.slot_list_pop PySem.F.type_list_pop md_pop (dv 1)) (dg_tupA rfl (dgs_cons (dg_name (i := 3) sc_is_pattern.nd rfl (by first | exact Or.inl rfl | exact Or.inr rfl)) (dgs_cons (dg_name (i := 4) sc_is_pattern.nd rfl (by first | exact Or.inl rfl | exact Or.inr rfl)) dgs_nil))))
    (dss_cons (ds_set (i := 2) sc_is_pattern.nd rfl (by first | exact Or.inl rfl | exact Or.inr rfl) (de_op od_addF (dv 2) de_int))
    (dss_cons (ds_set (i := 5) sc_is_pattern.nd rfl (by first | exact Or.inl rfl | exact Or.inr rfl) (de_call G_parts_right (hr.mono (by decide)) gu (by rfl) T.m_parts_right T.F_parts_right.kp T.d_parts_right (da_cons (dv 3) da_nil)))
    (dss_cons (ds_if (DWt.pt (dw_or (dt_cmp od_is (dv 5) de_non (nomark _)) (dw_or (dt_cmp od_gt (dv 4) (de_gint (by rfl) T.g_MOST_DEEP) (nomark _)) (dw_or1 (dt_cmp od_gt (dv 2) (de_gint (by rfl) T.g_MOST_PARTS) (nomark _))))))
      (dss_one (ds_ret de_bl))
      dss_nil)
    (dss_one (ds_expr (de_bm PySem.F.plainAttrs_list PySem.F.slot_list_extend PySem.F.type_list_extend md_extend (dv 1) (da_cons (de_fz (de_lc (own := [("one", 6)]) rfl sc_is_pattern.nd (di_seq (dv 5)) (blkOk_by (own := [("one", 6)]) (N := ["thing", "left", "count", "part", "deep", "some", "one"]) (sc := defScope s_is_pattern) (by decide +kernel)) ⟨fun _ _ _ _ _ => (dw_name (i := 6) sc_is_pattern.nd rfl (by first | exact Or.inl rfl | exact Or.inr rfl) (by decide)), fun _ _ _ _ _ => dts_nil, fun _ _ _ _ _ => (de_tup (da_cons (dv 6) (da_cons (de_op od_addF (dv 4) de_int) da_nil)))⟩)) da_nil)))))))))
    (dss_one (ds_ret de_bl)))))

/-! is_leaf_machines -/
def t_is_leaf_machines : DTS := (dRet (dAndV (dCall sp_is_pattern (dCons (dVar 0) dNil)) (dOp (dIn false) (dOp dIxS (dVar 0) (dC (.int 0))) (dC (.tup [.str "stay", .str "step", .str "at", .str "off"])))))
abbrev N_is_leaf_machines : List Str := ["thing"]
theorem ok_is_leaf_machines {P : Program} {w : World} {K : PySem.W.Frag} {mg : Str → Option Value} {base : Heap} (T : Txt w K mg) (G_is_pattern : DFn P w K mg base 5 T.a_is_pattern T.f_is_pattern ["thing"] sp_is_pattern) {sp : DSp}
    (mono : SpMono sp) (len : ∀ ds S Q E, sp ds S Q E → ds.length = 1)
    (h : ∀ ds S Q E, sp ds S Q E → t_is_leaf_machines (dEnd Q E) (dstart ["thing"] ds) S) : DFn P w K mg base 6 T.a_is_leaf_machines T.f_is_leaf_machines ["thing"] sp := by
  refine dfn_of2 (t := t_is_leaf_machines) T.F_is_leaf_machines sc_is_leaf_machines mono len (fun cdv A outer s H E hr gu => ?_) h
  have hu1 := hu_of hr
  have hu2 := hu_big hr
  exact (dss_one (ds_ret (de_and (de_call G_is_pattern (hr.mono (by decide)) gu (by rfl) T.m_is_pattern T.F_is_pattern.kp T.d_is_pattern (da_cons (dv 0) da_nil)) (de_one (de_cmp (od_in hu2) (de_ix (ixD_any hu2) (dv 0) de_int) (de_gtup (by rfl) T.g_LEAVES T.l_LEAVES T.z_LEAVES T.v_LEAVES) (by rfl))))))

/-! is_move -/
def t_is_move : DTS := (dSeq (dIf (dOr (dNot (dTest (dIsi "tuple" (dVar 0)))) (dTest (dOp (dEq true) (dCB cLen (dCons (dVar 0) dNil)) (dC (.int 3)))))
      (dRet (dC (.bl false)))
      dNx)
    (dRet (dAndV (dCall sp_is_whole (dCons (dOp dIxS (dVar 0) (dC (.int 0))) (dCons (dC (.int 0)) (dCons (dVar 1) dNil)))) (dAndV (dCall sp_is_leaf_machines (dCons (dOp dIxS (dVar 0) (dC (.int 1))) dNil)) (dCall sp_is_whole (dCons (dOp dIxS (dVar 0) (dC (.int 2))) (dCons (dC (.int 0)) (dCons (dVar 1) dNil))))))))
abbrev N_is_move : List Str := ["thing", "last"]
theorem ok_is_move {P : Program} {w : World} {K : PySem.W.Frag} {mg : Str → Option Value} {base : Heap} (T : Txt w K mg) (G_is_whole : DFn P w K mg base 1 T.a_is_whole T.f_is_whole ["thing", "least", "most"] sp_is_whole) (G_is_leaf_machines : DFn P w K mg base 6 T.a_is_leaf_machines T.f_is_leaf_machines ["thing"] sp_is_leaf_machines) {sp : DSp}
    (mono : SpMono sp) (len : ∀ ds S Q E, sp ds S Q E → ds.length = 2)
    (h : ∀ ds S Q E, sp ds S Q E → t_is_move (dEnd Q E) (dstart ["thing", "last"] ds) S) : DFn P w K mg base 7 T.a_is_move T.f_is_move ["thing", "last"] sp := by
  refine dfn_of2 (t := t_is_move) T.F_is_move sc_is_move mono len (fun cdv A outer s H E hr gu => ?_) h
  have hu1 := hu_of hr
  have hu2 := hu_big hr
  exact (dss_cons (ds_if (DWt.pt (dw_or (dt_not (dt_val (de_isi (T := "tuple") (by decide) (dv 0) (by rfl) T.b_isinstance (by rfl) T.b_tuple (by decide +kernel)))) (dw_or1 (dt_cmp (od_ne hr.units) (de_callB cd_len (by rfl) T.b_len (by decide +kernel) (da_cons (dv 0) da_nil)) de_int (nomark _)))))
      (dss_one (ds_ret de_bl))
      dss_nil)
    (dss_one (ds_ret (de_and (de_call G_is_whole (hr.mono (by decide)) gu (by rfl) T.m_is_whole T.F_is_whole.kp T.d_is_whole (da_cons (de_ix (ixD_any hu2) (dv 0) de_int) (da_cons de_int (da_cons (dv 1) da_nil)))) (de_and (de_call G_is_leaf_machines (hr.mono (by decide)) gu (by rfl) T.m_is_leaf_machines T.F_is_leaf_machines.kp T.d_is_leaf_machines (da_cons (de_ix (ixD_any hu2) (dv 0) de_int) da_nil)) (de_one (de_call G_is_whole (hr.mono (by decide)) gu (by rfl) T.m_is_whole T.F_is_whole.kp T.d_is_whole (da_cons (de_ix (ixD_any hu2) (dv 0) de_int) (da_cons de_int (da_cons (dv 1) da_nil))))))))))

/-! is_machine -/
def t_is_machine : DTS := (dSeq (dIf (dOr (dNot (dTest (dIsi "tuple" (dVar 0)))) (dTest (dOp (dEq true) (dCB cLen (dCons (dVar 0) dNil)) (dC (.int 4)))))
      (dRet (dC (.bl false)))
      dNx)
    (dSeq (dAsg (dVar 0) (dGTupA 4 (dGCons (dGN 1) (dGCons (dGN 2) (dGCons (dGN 3) (dGCons (dGN 4) dGNil))))))
    (dSeq (dIf (dOr (dNot (dTest (dCall sp_is_whole (dCons (dVar 1) (dCons (dC (.int 1)) (dCons (dOp rPow (dC (.int 10)) (dC (.int 20))) dNil)))))) (dNot (dTest (dCall sp_is_whole (dCons (dVar 2) (dCons (dC (.int 0)) (dCons (dOp rSub (dVar 1) (dC (.int 1))) dNil)))))))
      (dRet (dC (.bl false)))
      dNx)
    (dSeq (dIf (dOr (dNot (dTest (dIsi "tuple" (dVar 3)))) (dNot (dTest (dIsi "tuple" (dVar 4)))))
      (dRet (dC (.bl false)))
      dNx)
    (dSeq (dIf (dTest (dOp (dEq true) (dFz (dLc (dSeqI (dVar 3)) (dGN 5) (dNot (dTest (dCall sp_is_whole (dCons (dVar 5) (dCons (dC (.int 0)) (dCons (dOp rSub (dVar 1) (dC (.int 1))) dNil)))))) (dVar 5) [5])) (dLstF dNil)))
      (dRet (dC (.bl false)))
      dNx)
    (dSeq (dIf (dTest (dOp (dEq true) (dFz (dLc (dSeqI (dVar 4)) (dGN 6) (dNot (dTest (dCall sp_is_move (dCons (dVar 6) (dCons (dOp rSub (dVar 1) (dC (.int 1))) dNil))))) (dVar 6) [6])) (dLstF dNil)))
      (dRet (dC (.bl false)))
      dNx)
    (dRet (dAndV (dCall sp_rises (dCons (dVar 3) dNil)) (dCall sp_rises (dCons (dVar 4) dNil))))))))))
abbrev N_is_machine : List Str := ["thing", "many", "begin", "ends", "moves", "end", "move"]
theorem ok_is_machine {P : Program} {w : World} {K : PySem.W.Frag} {mg : Str → Option Value} {base : Heap} (T : Txt w K mg) (G_is_whole : DFn P w K mg base 1 T.a_is_whole T.f_is_whole ["thing", "least", "most"] sp_is_whole) (G_rises : DFn P w K mg base 1 T.a_rises T.f_rises ["things"] sp_rises) (G_is_move : DFn P w K mg base 7 T.a_is_move T.f_is_move ["thing", "last"] sp_is_move) {sp : DSp}
    (mono : SpMono sp) (len : ∀ ds S Q E, sp ds S Q E → ds.length = 1)
    (h : ∀ ds S Q E, sp ds S Q E → t_is_machine (dEnd Q E) (dstart ["thing", "many", "begin", "ends", "moves", "end", "move"] ds) S) : DFn P w K mg base 8 T.a_is_machine T.f_is_machine ["thing"] sp := by
  refine dfn_of2 (t := t_is_machine) T.F_is_machine sc_is_machine mono len (fun cdv A outer s H E hr gu => ?_) h
  have hu1 := hu_of hr
  have hu2 := hu_big hr
  exact (dss_cons (ds_if (DWt.pt (dw_or (dt_not (dt_val (de_isi (T := "tuple") (by decide) (dv 0) (by rfl) T.b_isinstance (by rfl) T.b_tuple (by decide +kernel)))) (dw_or1 (dt_cmp (od_ne hr.units) (de_callB cd_len (by rfl) T.b_len (by decide +kernel) (da_cons (dv 0) da_nil)) de_int (nomark _)))))
      (dss_one (ds_ret de_bl))
      dss_nil)
    (dss_cons (ds_asg (dv 0) (dg_tupA rfl (dgs_cons (dg_name (i := 1) sc_is_machine.nd rfl (by first | exact Or.inl rfl | exact Or.inr rfl)) (dgs_cons (dg_name (i := 2) sc_is_machine.nd rfl (by first | exact Or.inl rfl | exact Or.inr rfl)) (dgs_cons (dg_name (i := 3) sc_is_machine.nd rfl (by first | exact Or.inl rfl | exact Or.inr rfl)) (dgs_cons (dg_name (i := 4) sc_is_machine.nd rfl (by first | exact Or.inl rfl | exact Or.inr rfl)) dgs_nil))))))
    (dss_cons (ds_if (DWt.pt (dw_or (dt_not (dt_val (de_call G_is_whole (hr.mono (by decide)) gu (by rfl) T.m_is_whole T.F_is_whole.kp T.d_is_whole (da_cons (dv 1) (da_cons de_int (da_cons (de_op od_pow de_int de_int) da_nil)))))) (dw_or1 (dt_not (dt_val (de_call G_is_whole (hr.mono (by decide)) gu (by rfl) T.m_is_whole T.F_is_whole.kp T.d_is_whole (da_cons (dv 2) (da_cons de_int (da_cons (de_op od_sub (dv 1) de_int) da_nil)))))))))
      (dss_one (ds_ret de_bl))
      dss_nil)
    (dss_cons (ds_if (DWt.pt (dw_or (dt_not (dt_val (de_isi (T := "tuple") (by decide) (dv 3) (by rfl) T.b_isinstance (by rfl) T.b_tuple (by decide +kernel)))) (dw_or1 (dt_not (dt_val (de_isi (T := "tuple") (by decide) (dv 4) (by rfl) T.b_isinstance (by rfl) T.b_tuple (by decide +kernel)))))))
      (dss_one (ds_ret de_bl))
      dss_nil)
    (dss_cons (ds_if (dt_cmp (od_ne hr.units) (de_fz (de_lc (own := [("end", 5)]) rfl sc_is_machine.nd (di_seq (dv 3)) (blkOk_by (own := [("end", 5)]) (N := ["thing", "many", "begin", "ends", "moves", "end", "move"]) (sc := defScope s_is_machine) (by decide +kernel)) ⟨fun _ _ _ _ _ => (dw_name (i := 5) sc_is_machine.nd rfl (by first | exact Or.inl rfl | exact Or.inr rfl) (by decide)), fun _ _ _ _ _ => (dts_one (dt_not (dt_val (de_call G_is_whole (hr.mono (by decide)) gu (by rfl) T.m_is_whole T.F_is_whole.kp T.d_is_whole (da_cons (dv 5) (da_cons de_int (da_cons (de_op od_sub (dv 1) de_int) da_nil))))))), fun _ _ _ _ _ => (dv 5)⟩)) (de_lstF da_nil) (nomark _))
      (dss_one (ds_ret de_bl))
      dss_nil)
    (dss_cons (ds_if (dt_cmp (od_ne hr.units) (de_fz (de_lc (own := [("move", 6)]) rfl sc_is_machine.nd (di_seq (dv 4)) (blkOk_by (own := [("move", 6)]) (N := ["thing", "many", "begin", "ends", "moves", "end", "move"]) (sc := defScope s_is_machine) (by decide +kernel)) ⟨fun _ _ _ _ _ => (dw_name (i := 6) sc_is_machine.nd rfl (by first | exact Or.inl rfl | exact Or.inr rfl) (by decide)), fun _ _ _ _ _ => (dts_one (dt_not (dt_val (de_call G_is_move (hr.mono (by decide)) gu (by rfl) T.m_is_move T.F_is_move.kp T.d_is_move (da_cons (dv 6) (da_cons (de_op od_sub (dv 1) de_int) da_nil)))))), fun _ _ _ _ _ => (dv 6)⟩)) (de_lstF da_nil) (nomark _))
      (dss_one (ds_ret de_bl))
      dss_nil)
    (dss_one (ds_ret (de_and (de_call G_rises (hr.mono (by decide)) gu (by rfl) T.m_rises T.F_rises.kp T.d_rises (da_cons (dv 3) da_nil)) (de_one (de_call G_rises (hr.mono (by decide)) gu (by rfl) T.m_rises T.F_rises.kp T.d_rises (da_cons (dv 4) da_nil))))))))))))

/-! law -/
def t_law : DTS := (dSeq (dFor (dRng1 (dCons (dOp dAddF (dC (.int 1)) (dCB cLen (dCons (dSlF (dVar 0) dNoP (dSoP (dC (.int 19)))) dNil))) dNil)) (dGN 1)
      (dSeq (dAsg (dCall sp_l_cell_at (dCons (dVar 0) (dCons (dVar 1) dNil))) (dGN 2))
    (dSeq (dAsg (dCall sp_l_machine (dCons (dVar 2) (dCons (dC (.int 6)) dNil))) (dGN 3))
    (dSeq (dAsg (dCall sp_l_draws (dCons (dOp rFdiv (dVar 2) (dC (.int 5))) (dCons (dLstF (dCons (dC (.int 16)) (dCons (dC (.int 720)) (dCons (dC (.int 16)) (dCons (dC (.int 720)) (dCons (dC (.int 2)) dNil)))))) dNil))) (dGN 4))
    (dSeq (dAsg (dCall sp_l_bent (dCons (dVar 3) (dCons (dOp dIxS (dVar 4) (dC (.int 0))) (dCons (dOp dIxS (dVar 4) (dC (.int 1))) dNil)))) (dGN 5))
    (dSeq (dIf (dAnd (dTest (dOp (dEq false) (dOp dIxS (dVar 4) (dC (.int 4))) (dC (.int 1)))) (dTest (dCall sp_l_is_machine (dCons (dVar 5) (dCons (dOp rPow (dC (.int 10)) (dC (.int 20))) dNil)))))
      (dAsg (dCall sp_l_bent (dCons (dVar 5) (dCons (dOp dIxS (dVar 4) (dC (.int 2))) (dCons (dOp dIxS (dVar 4) (dC (.int 3))) dNil)))) (dGN 5))
      dNx)
    (dFor (dSeqI (dLstF (dCons (dVar 3) (dCons (dVar 5) dNil)))) (dGN 6)
      (dSeq (dAsg (dCall sp_is_machine (dCons (dVar 6) dNil)) (dGN 7))
    (dIf (dOr (dNot (dTest (dIsi "bool" (dVar 7)))) (dTest (dOp (dEq true) (dVar 7) (dCall sp_l_is_machine (dCons (dVar 6) (dCons (dOp rPow (dC (.int 10)) (dC (.int 20))) dNil))))))
      (dRet (dC (.bl false)))
      dNx)))))))))
    (dRet (dC (.bl true))))
abbrev N_law : List Str := ["_law_script", "_law_k", "_law_cell", "_law_machine_here", "_law_ds", "_law_one", "_law_thing", "_law_found"]
theorem ok_law {P : Program} {w : World} {K : PySem.W.Frag} {mg : Str → Option Value} {base : Heap} (T : Txt w K mg) (G_l_cell_at : DFn P w K mg base 1 T.a_l_cell_at T.f_l_cell_at ["_law_script", "_law_k"] sp_l_cell_at) (G_l_draws : DFn P w K mg base 1 T.a_l_draws T.f_l_draws ["_law_cell", "_law_sizes"] sp_l_draws) (G_l_machine : DFn P w K mg base 3 T.a_l_machine T.f_l_machine ["_law_cell", "_law_most"] sp_l_machine) (G_l_is_machine : DFn P w K mg base 3 T.a_l_is_machine T.f_l_is_machine ["_law_thing", "_law_most"] sp_l_is_machine) (G_l_bent : DFn P w K mg base 3 T.a_l_bent T.f_l_bent ["_law_machine_here", "_law_way", "_law_number"] sp_l_bent) (G_is_machine : DFn P w K mg base 8 T.a_is_machine T.f_is_machine ["thing"] sp_is_machine) {sp : DSp}
    (mono : SpMono sp) (len : ∀ ds S Q E, sp ds S Q E → ds.length = 1)
    (h : ∀ ds S Q E, sp ds S Q E → t_law (dEnd Q E) (dstart ["_law_script", "_law_k", "_law_cell", "_law_machine_here", "_law_ds", "_law_one", "_law_thing", "_law_found"] ds) S) : DFn P w K mg base 9 T.a_law T.f_law ["_law_script"] sp := by
  refine dfn_of2 (t := t_law) T.F_law sc_law mono len (fun cdv A outer s H E hr gu => ?_) h
  have hu1 := hu_of hr
  have hu2 := hu_big hr
  exact (dss_cons (ds_for (passes_of rfl) rfl (di_rng1 (by rfl) T.b_range (da_cons (de_op od_addF de_int (de_callB cd_len (by rfl) T.b_len (by decide +kernel) (da_cons (de_slF (dv 0) do_none (do_some de_int)) da_nil))) da_nil)) (dg_name (i := 1) sc_law.nd rfl (by first | exact Or.inl rfl | exact Or.inr rfl))
      (dss_cons (ds_set (i := 2) sc_law.nd rfl (by first | exact Or.inl rfl | exact Or.inr rfl) (de_call G_l_cell_at (hr.mono (by decide)) gu (by rfl) T.m_l_cell_at T.F_l_cell_at.kp T.d_l_cell_at (da_cons (dv 0) (da_cons (dv 1) da_nil))))
    (dss_cons (ds_set (i := 3) sc_law.nd rfl (by first | exact Or.inl rfl | exact Or.inr rfl) (de_call G_l_machine (hr.mono (by decide)) gu (by rfl) T.m_l_machine T.F_l_machine.kp T.d_l_machine (da_cons (dv 2) (da_cons de_int da_nil))))
    (dss_cons (ds_set (i := 4) sc_law.nd rfl (by first | exact Or.inl rfl | exact Or.inr rfl) (de_call G_l_draws (hr.mono (by decide)) gu (by rfl) T.m_l_draws T.F_l_draws.kp T.d_l_draws (da_cons (de_op od_fdiv (dv 2) de_int) (da_cons (de_lstF (da_cons de_int (da_cons de_int (da_cons de_int (da_cons de_int (da_cons de_int da_nil)))))) da_nil))))
    (dss_cons (ds_set (i := 5) sc_law.nd rfl (by first | exact Or.inl rfl | exact Or.inr rfl) (de_call G_l_bent (hr.mono (by decide)) gu (by rfl) T.m_l_bent T.F_l_bent.kp T.d_l_bent (da_cons (dv 3) (da_cons (de_ix (ixD_any hu2) (dv 4) de_int) (da_cons (de_ix (ixD_any hu2) (dv 4) de_int) da_nil)))))
    (dss_cons (ds_if (DWt.pt (dw_and (dt_cmp (od_eq hr.units) (de_ix (ixD_any hu2) (dv 4) de_int) de_int (nomark _)) (dw_and1 (dt_val (de_call G_l_is_machine (hr.mono (by decide)) gu (by rfl) T.m_l_is_machine T.F_l_is_machine.kp T.d_l_is_machine (da_cons (dv 5) (da_cons (de_op od_pow de_int de_int) da_nil)))))))
      (dss_one (ds_set (i := 5) sc_law.nd rfl (by first | exact Or.inl rfl | exact Or.inr rfl) (de_call G_l_bent (hr.mono (by decide)) gu (by rfl) T.m_l_bent T.F_l_bent.kp T.d_l_bent (da_cons (dv 5) (da_cons (de_ix (ixD_any hu2) (dv 4) de_int) (da_cons (de_ix (ixD_any hu2) (dv 4) de_int) da_nil))))))
      dss_nil)
    (dss_one (ds_for (passes_of rfl) rfl (di_seq (de_lstF (da_cons (dv 3) (da_cons (dv 5) da_nil)))) (dg_name (i := 6) sc_law.nd rfl (by first | exact Or.inl rfl | exact Or.inr rfl))
      (dss_cons (ds_set (i := 7) sc_law.nd rfl (by first | exact Or.inl rfl | exact Or.inr rfl) (de_call G_is_machine (hr.mono (by decide)) gu (by rfl) T.m_is_machine T.F_is_machine.kp T.d_is_machine (da_cons (dv 6) da_nil)))
    (dss_one (ds_if (DWt.pt (dw_or (dt_not (dt_val (de_isi (T := "bool") (by decide) (dv 7) (by rfl) T.b_isinstance (by rfl) T.b_bool (by decide +kernel)))) (dw_or1 (dt_cmp (od_ne hr.units) (dv 7) (de_call G_l_is_machine (hr.mono (by decide)) gu (by rfl) T.m_l_is_machine T.F_l_is_machine.kp T.d_l_is_machine (da_cons (dv 6) (da_cons (de_op od_pow de_int de_int) da_nil))) (nomark _)))))
      (dss_one (ds_ret de_bl))
      dss_nil)))))))))))
    (dss_one (ds_ret de_bl)))
end K30X
set_option maxRecDepth 100000
set_option maxHeartbeats 4000000
namespace K30X
open PySem PySem.Spec L2
open L30
open Rc hiding N_is_pattern N_parts_right r_is_pattern r_parts_right sp_is_pattern sp_is_pattern_mono sp_parts_right sp_parts_right_mono t_is_pattern t_parts_right
open ShB hiding dSeqWhile_gen
open Sh hiding N_l_cell_at N_l_leaf deeps_mem perm_map_ex r_l_cell_at r_l_leaf sp_l_leaf sp_l_leaf_mono srt_strict t_l_cell_at t_l_leaf
open Dt hiding nkeys sp_l_cell_at sp_l_cell_at_mono

section
theorem all_go {P : Program} {w : World} {K : PySem.W.Frag} {mg : Str → Option Value} {base : Heap} (T : Txt w K mg) : DFn P w K mg base 9 T.a_law T.f_law ["_law_script"] sp_law := by
  have G_is_name : DFn P w K mg base 1 T.a_is_name T.f_is_name ["thing"] sp_is_name := ok_is_name T sp_is_name_mono (fun ds S Q E h => by first | (obtain ⟨rfl, _⟩ := h; rfl) | (obtain ⟨_, rfl, _⟩ := h; rfl) | (obtain ⟨_, _, rfl, _⟩ := h; rfl) | (obtain ⟨_, _, _, rfl, _⟩ := h; rfl) | (obtain ⟨_, _, _, _, rfl, _⟩ := h; rfl) | (obtain ⟨_, _, _, _, _, rfl, _⟩ := h; rfl) | (obtain ⟨_, _, _, _, _, _, rfl, _⟩ := h; rfl) | (obtain ⟨_, _, _, _, _, _, _, rfl, _⟩ := h; rfl) | (obtain ⟨_, _, _, _, _, _, _, _, rfl, _⟩ := h; rfl) | (obtain ⟨_, _, _, _, _, _, _, _, _, rfl, _⟩ := h; rfl) | (obtain ⟨_, _, _, _, _, _, _, _, _, _, rfl, _⟩ := h; rfl) | (obtain ⟨_, _, _, _, _, _, _, _, _, _, _, rfl, _⟩ := h; rfl) | (obtain ⟨_, _, _, _, _, _, _, _, _, _, _, _, rfl, _⟩ := h; rfl) | (obtain ⟨_, _, _, _, _, _, _, _, _, _, _, _, _, rfl, _⟩ := h; rfl) | (obtain ⟨_, _, _, _, _, _, _, _, _, _, _, _, _, _, rfl, _⟩ := h; rfl) | (obtain ⟨_, _, _, _, _, _, _, _, _, _, _, _, _, _, _, rfl, _⟩ := h; rfl) | (obtain ⟨_, _, _, _, _, _, _, _, _, _, _, _, _, _, _, _, rfl, _⟩ := h; rfl) | (obtain ⟨_, _, _, _, _, _, _, _, _, _, _, _, _, _, _, _, _, rfl, _⟩ := h; rfl) | (obtain ⟨_, rfl⟩ := h; rfl)) r_is_name
  have G_is_one_of : DFn P w K mg base 1 T.a_is_one_of T.f_is_one_of ["thing", "some"] sp_is_one_of := ok_is_one_of T sp_is_one_of_mono (fun ds S Q E h => by first | (obtain ⟨rfl, _⟩ := h; rfl) | (obtain ⟨_, rfl, _⟩ := h; rfl) | (obtain ⟨_, _, rfl, _⟩ := h; rfl) | (obtain ⟨_, _, _, rfl, _⟩ := h; rfl) | (obtain ⟨_, _, _, _, rfl, _⟩ := h; rfl) | (obtain ⟨_, _, _, _, _, rfl, _⟩ := h; rfl) | (obtain ⟨_, _, _, _, _, _, rfl, _⟩ := h; rfl) | (obtain ⟨_, _, _, _, _, _, _, rfl, _⟩ := h; rfl) | (obtain ⟨_, _, _, _, _, _, _, _, rfl, _⟩ := h; rfl) | (obtain ⟨_, _, _, _, _, _, _, _, _, rfl, _⟩ := h; rfl) | (obtain ⟨_, _, _, _, _, _, _, _, _, _, rfl, _⟩ := h; rfl) | (obtain ⟨_, _, _, _, _, _, _, _, _, _, _, rfl, _⟩ := h; rfl) | (obtain ⟨_, _, _, _, _, _, _, _, _, _, _, _, rfl, _⟩ := h; rfl) | (obtain ⟨_, _, _, _, _, _, _, _, _, _, _, _, _, rfl, _⟩ := h; rfl) | (obtain ⟨_, _, _, _, _, _, _, _, _, _, _, _, _, _, rfl, _⟩ := h; rfl) | (obtain ⟨_, _, _, _, _, _, _, _, _, _, _, _, _, _, _, rfl, _⟩ := h; rfl) | (obtain ⟨_, _, _, _, _, _, _, _, _, _, _, _, _, _, _, _, rfl, _⟩ := h; rfl) | (obtain ⟨_, _, _, _, _, _, _, _, _, _, _, _, _, _, _, _, _, rfl, _⟩ := h; rfl) | (obtain ⟨_, rfl⟩ := h; rfl)) r_is_one_of
  have G_is_whole : DFn P w K mg base 1 T.a_is_whole T.f_is_whole ["thing", "least", "most"] sp_is_whole := ok_is_whole T sp_is_whole_mono (fun ds S Q E h => by first | (obtain ⟨rfl, _⟩ := h; rfl) | (obtain ⟨_, rfl, _⟩ := h; rfl) | (obtain ⟨_, _, rfl, _⟩ := h; rfl) | (obtain ⟨_, _, _, rfl, _⟩ := h; rfl) | (obtain ⟨_, _, _, _, rfl, _⟩ := h; rfl) | (obtain ⟨_, _, _, _, _, rfl, _⟩ := h; rfl) | (obtain ⟨_, _, _, _, _, _, rfl, _⟩ := h; rfl) | (obtain ⟨_, _, _, _, _, _, _, rfl, _⟩ := h; rfl) | (obtain ⟨_, _, _, _, _, _, _, _, rfl, _⟩ := h; rfl) | (obtain ⟨_, _, _, _, _, _, _, _, _, rfl, _⟩ := h; rfl) | (obtain ⟨_, _, _, _, _, _, _, _, _, _, rfl, _⟩ := h; rfl) | (obtain ⟨_, _, _, _, _, _, _, _, _, _, _, rfl, _⟩ := h; rfl) | (obtain ⟨_, _, _, _, _, _, _, _, _, _, _, _, rfl, _⟩ := h; rfl) | (obtain ⟨_, _, _, _, _, _, _, _, _, _, _, _, _, rfl, _⟩ := h; rfl) | (obtain ⟨_, _, _, _, _, _, _, _, _, _, _, _, _, _, rfl, _⟩ := h; rfl) | (obtain ⟨_, _, _, _, _, _, _, _, _, _, _, _, _, _, _, rfl, _⟩ := h; rfl) | (obtain ⟨_, _, _, _, _, _, _, _, _, _, _, _, _, _, _, _, rfl, _⟩ := h; rfl) | (obtain ⟨_, _, _, _, _, _, _, _, _, _, _, _, _, _, _, _, _, rfl, _⟩ := h; rfl) | (obtain ⟨_, rfl⟩ := h; rfl)) r_is_whole
  have G_rises : DFn P w K mg base 1 T.a_rises T.f_rises ["things"] sp_rises := ok_rises T sp_rises_mono (fun ds S Q E h => by first | (obtain ⟨rfl, _⟩ := h; rfl) | (obtain ⟨_, rfl, _⟩ := h; rfl) | (obtain ⟨_, _, rfl, _⟩ := h; rfl) | (obtain ⟨_, _, _, rfl, _⟩ := h; rfl) | (obtain ⟨_, _, _, _, rfl, _⟩ := h; rfl) | (obtain ⟨_, _, _, _, _, rfl, _⟩ := h; rfl) | (obtain ⟨_, _, _, _, _, _, rfl, _⟩ := h; rfl) | (obtain ⟨_, _, _, _, _, _, _, rfl, _⟩ := h; rfl) | (obtain ⟨_, _, _, _, _, _, _, _, rfl, _⟩ := h; rfl) | (obtain ⟨_, _, _, _, _, _, _, _, _, rfl, _⟩ := h; rfl) | (obtain ⟨_, _, _, _, _, _, _, _, _, _, rfl, _⟩ := h; rfl) | (obtain ⟨_, _, _, _, _, _, _, _, _, _, _, rfl, _⟩ := h; rfl) | (obtain ⟨_, _, _, _, _, _, _, _, _, _, _, _, rfl, _⟩ := h; rfl) | (obtain ⟨_, _, _, _, _, _, _, _, _, _, _, _, _, rfl, _⟩ := h; rfl) | (obtain ⟨_, _, _, _, _, _, _, _, _, _, _, _, _, _, rfl, _⟩ := h; rfl) | (obtain ⟨_, _, _, _, _, _, _, _, _, _, _, _, _, _, _, rfl, _⟩ := h; rfl) | (obtain ⟨_, _, _, _, _, _, _, _, _, _, _, _, _, _, _, _, rfl, _⟩ := h; rfl) | (obtain ⟨_, _, _, _, _, _, _, _, _, _, _, _, _, _, _, _, _, rfl, _⟩ := h; rfl) | (obtain ⟨_, rfl⟩ := h; rfl)) r_rises
  have G_l_cell_at : DFn P w K mg base 1 T.a_l_cell_at T.f_l_cell_at ["_law_script", "_law_k"] sp_l_cell_at := ok_l_cell_at T sp_l_cell_at_mono (fun ds S Q E h => by first | (obtain ⟨rfl, _⟩ := h; rfl) | (obtain ⟨_, rfl, _⟩ := h; rfl) | (obtain ⟨_, _, rfl, _⟩ := h; rfl) | (obtain ⟨_, _, _, rfl, _⟩ := h; rfl) | (obtain ⟨_, _, _, _, rfl, _⟩ := h; rfl) | (obtain ⟨_, _, _, _, _, rfl, _⟩ := h; rfl) | (obtain ⟨_, _, _, _, _, _, rfl, _⟩ := h; rfl) | (obtain ⟨_, _, _, _, _, _, _, rfl, _⟩ := h; rfl) | (obtain ⟨_, _, _, _, _, _, _, _, rfl, _⟩ := h; rfl) | (obtain ⟨_, _, _, _, _, _, _, _, _, rfl, _⟩ := h; rfl) | (obtain ⟨_, _, _, _, _, _, _, _, _, _, rfl, _⟩ := h; rfl) | (obtain ⟨_, _, _, _, _, _, _, _, _, _, _, rfl, _⟩ := h; rfl) | (obtain ⟨_, _, _, _, _, _, _, _, _, _, _, _, rfl, _⟩ := h; rfl) | (obtain ⟨_, _, _, _, _, _, _, _, _, _, _, _, _, rfl, _⟩ := h; rfl) | (obtain ⟨_, _, _, _, _, _, _, _, _, _, _, _, _, _, rfl, _⟩ := h; rfl) | (obtain ⟨_, _, _, _, _, _, _, _, _, _, _, _, _, _, _, rfl, _⟩ := h; rfl) | (obtain ⟨_, _, _, _, _, _, _, _, _, _, _, _, _, _, _, _, rfl, _⟩ := h; rfl) | (obtain ⟨_, _, _, _, _, _, _, _, _, _, _, _, _, _, _, _, _, rfl, _⟩ := h; rfl) | (obtain ⟨_, rfl⟩ := h; rfl)) r_l_cell_at
  have G_l_draws : DFn P w K mg base 1 T.a_l_draws T.f_l_draws ["_law_cell", "_law_sizes"] sp_l_draws := ok_l_draws T sp_l_draws_mono (fun ds S Q E h => by first | (obtain ⟨rfl, _⟩ := h; rfl) | (obtain ⟨_, rfl, _⟩ := h; rfl) | (obtain ⟨_, _, rfl, _⟩ := h; rfl) | (obtain ⟨_, _, _, rfl, _⟩ := h; rfl) | (obtain ⟨_, _, _, _, rfl, _⟩ := h; rfl) | (obtain ⟨_, _, _, _, _, rfl, _⟩ := h; rfl) | (obtain ⟨_, _, _, _, _, _, rfl, _⟩ := h; rfl) | (obtain ⟨_, _, _, _, _, _, _, rfl, _⟩ := h; rfl) | (obtain ⟨_, _, _, _, _, _, _, _, rfl, _⟩ := h; rfl) | (obtain ⟨_, _, _, _, _, _, _, _, _, rfl, _⟩ := h; rfl) | (obtain ⟨_, _, _, _, _, _, _, _, _, _, rfl, _⟩ := h; rfl) | (obtain ⟨_, _, _, _, _, _, _, _, _, _, _, rfl, _⟩ := h; rfl) | (obtain ⟨_, _, _, _, _, _, _, _, _, _, _, _, rfl, _⟩ := h; rfl) | (obtain ⟨_, _, _, _, _, _, _, _, _, _, _, _, _, rfl, _⟩ := h; rfl) | (obtain ⟨_, _, _, _, _, _, _, _, _, _, _, _, _, _, rfl, _⟩ := h; rfl) | (obtain ⟨_, _, _, _, _, _, _, _, _, _, _, _, _, _, _, rfl, _⟩ := h; rfl) | (obtain ⟨_, _, _, _, _, _, _, _, _, _, _, _, _, _, _, _, rfl, _⟩ := h; rfl) | (obtain ⟨_, _, _, _, _, _, _, _, _, _, _, _, _, _, _, _, _, rfl, _⟩ := h; rfl) | (obtain ⟨_, rfl⟩ := h; rfl)) r_l_draws
  have G_l_words : DFn P w K mg base 1 T.a_l_words T.f_l_words [] sp_l_words := ok_l_words T sp_l_words_mono (fun ds S Q E h => by first | (obtain ⟨rfl, _⟩ := h; rfl) | (obtain ⟨_, rfl, _⟩ := h; rfl) | (obtain ⟨_, _, rfl, _⟩ := h; rfl) | (obtain ⟨_, _, _, rfl, _⟩ := h; rfl) | (obtain ⟨_, _, _, _, rfl, _⟩ := h; rfl) | (obtain ⟨_, _, _, _, _, rfl, _⟩ := h; rfl) | (obtain ⟨_, _, _, _, _, _, rfl, _⟩ := h; rfl) | (obtain ⟨_, _, _, _, _, _, _, rfl, _⟩ := h; rfl) | (obtain ⟨_, _, _, _, _, _, _, _, rfl, _⟩ := h; rfl) | (obtain ⟨_, _, _, _, _, _, _, _, _, rfl, _⟩ := h; rfl) | (obtain ⟨_, _, _, _, _, _, _, _, _, _, rfl, _⟩ := h; rfl) | (obtain ⟨_, _, _, _, _, _, _, _, _, _, _, rfl, _⟩ := h; rfl) | (obtain ⟨_, _, _, _, _, _, _, _, _, _, _, _, rfl, _⟩ := h; rfl) | (obtain ⟨_, _, _, _, _, _, _, _, _, _, _, _, _, rfl, _⟩ := h; rfl) | (obtain ⟨_, _, _, _, _, _, _, _, _, _, _, _, _, _, rfl, _⟩ := h; rfl) | (obtain ⟨_, _, _, _, _, _, _, _, _, _, _, _, _, _, _, rfl, _⟩ := h; rfl) | (obtain ⟨_, _, _, _, _, _, _, _, _, _, _, _, _, _, _, _, rfl, _⟩ := h; rfl) | (obtain ⟨_, _, _, _, _, _, _, _, _, _, _, _, _, _, _, _, _, rfl, _⟩ := h; rfl) | (obtain ⟨_, rfl⟩ := h; rfl)) r_l_words
  have G_l_marks : DFn P w K mg base 1 T.a_l_marks T.f_l_marks [] sp_l_marks := ok_l_marks T sp_l_marks_mono (fun ds S Q E h => by first | (obtain ⟨rfl, _⟩ := h; rfl) | (obtain ⟨_, rfl, _⟩ := h; rfl) | (obtain ⟨_, _, rfl, _⟩ := h; rfl) | (obtain ⟨_, _, _, rfl, _⟩ := h; rfl) | (obtain ⟨_, _, _, _, rfl, _⟩ := h; rfl) | (obtain ⟨_, _, _, _, _, rfl, _⟩ := h; rfl) | (obtain ⟨_, _, _, _, _, _, rfl, _⟩ := h; rfl) | (obtain ⟨_, _, _, _, _, _, _, rfl, _⟩ := h; rfl) | (obtain ⟨_, _, _, _, _, _, _, _, rfl, _⟩ := h; rfl) | (obtain ⟨_, _, _, _, _, _, _, _, _, rfl, _⟩ := h; rfl) | (obtain ⟨_, _, _, _, _, _, _, _, _, _, rfl, _⟩ := h; rfl) | (obtain ⟨_, _, _, _, _, _, _, _, _, _, _, rfl, _⟩ := h; rfl) | (obtain ⟨_, _, _, _, _, _, _, _, _, _, _, _, rfl, _⟩ := h; rfl) | (obtain ⟨_, _, _, _, _, _, _, _, _, _, _, _, _, rfl, _⟩ := h; rfl) | (obtain ⟨_, _, _, _, _, _, _, _, _, _, _, _, _, _, rfl, _⟩ := h; rfl) | (obtain ⟨_, _, _, _, _, _, _, _, _, _, _, _, _, _, _, rfl, _⟩ := h; rfl) | (obtain ⟨_, _, _, _, _, _, _, _, _, _, _, _, _, _, _, _, rfl, _⟩ := h; rfl) | (obtain ⟨_, _, _, _, _, _, _, _, _, _, _, _, _, _, _, _, _, rfl, _⟩ := h; rfl) | (obtain ⟨_, rfl⟩ := h; rfl)) r_l_marks
  have G_l_is_stand : DFn P w K mg base 1 T.a_l_is_stand T.f_l_is_stand ["_law_thing", "_law_many"] sp_l_is_stand := ok_l_is_stand T sp_l_is_stand_mono (fun ds S Q E h => by first | (obtain ⟨rfl, _⟩ := h; rfl) | (obtain ⟨_, rfl, _⟩ := h; rfl) | (obtain ⟨_, _, rfl, _⟩ := h; rfl) | (obtain ⟨_, _, _, rfl, _⟩ := h; rfl) | (obtain ⟨_, _, _, _, rfl, _⟩ := h; rfl) | (obtain ⟨_, _, _, _, _, rfl, _⟩ := h; rfl) | (obtain ⟨_, _, _, _, _, _, rfl, _⟩ := h; rfl) | (obtain ⟨_, _, _, _, _, _, _, rfl, _⟩ := h; rfl) | (obtain ⟨_, _, _, _, _, _, _, _, rfl, _⟩ := h; rfl) | (obtain ⟨_, _, _, _, _, _, _, _, _, rfl, _⟩ := h; rfl) | (obtain ⟨_, _, _, _, _, _, _, _, _, _, rfl, _⟩ := h; rfl) | (obtain ⟨_, _, _, _, _, _, _, _, _, _, _, rfl, _⟩ := h; rfl) | (obtain ⟨_, _, _, _, _, _, _, _, _, _, _, _, rfl, _⟩ := h; rfl) | (obtain ⟨_, _, _, _, _, _, _, _, _, _, _, _, _, rfl, _⟩ := h; rfl) | (obtain ⟨_, _, _, _, _, _, _, _, _, _, _, _, _, _, rfl, _⟩ := h; rfl) | (obtain ⟨_, _, _, _, _, _, _, _, _, _, _, _, _, _, _, rfl, _⟩ := h; rfl) | (obtain ⟨_, _, _, _, _, _, _, _, _, _, _, _, _, _, _, _, rfl, _⟩ := h; rfl) | (obtain ⟨_, _, _, _, _, _, _, _, _, _, _, _, _, _, _, _, _, rfl, _⟩ := h; rfl) | (obtain ⟨_, rfl⟩ := h; rfl)) r_l_is_stand
  have G_l_is_name : DFn P w K mg base 1 T.a_l_is_name T.f_l_is_name ["_law_thing"] sp_l_is_name := ok_l_is_name T sp_l_is_name_mono (fun ds S Q E h => by first | (obtain ⟨rfl, _⟩ := h; rfl) | (obtain ⟨_, rfl, _⟩ := h; rfl) | (obtain ⟨_, _, rfl, _⟩ := h; rfl) | (obtain ⟨_, _, _, rfl, _⟩ := h; rfl) | (obtain ⟨_, _, _, _, rfl, _⟩ := h; rfl) | (obtain ⟨_, _, _, _, _, rfl, _⟩ := h; rfl) | (obtain ⟨_, _, _, _, _, _, rfl, _⟩ := h; rfl) | (obtain ⟨_, _, _, _, _, _, _, rfl, _⟩ := h; rfl) | (obtain ⟨_, _, _, _, _, _, _, _, rfl, _⟩ := h; rfl) | (obtain ⟨_, _, _, _, _, _, _, _, _, rfl, _⟩ := h; rfl) | (obtain ⟨_, _, _, _, _, _, _, _, _, _, rfl, _⟩ := h; rfl) | (obtain ⟨_, _, _, _, _, _, _, _, _, _, _, rfl, _⟩ := h; rfl) | (obtain ⟨_, _, _, _, _, _, _, _, _, _, _, _, rfl, _⟩ := h; rfl) | (obtain ⟨_, _, _, _, _, _, _, _, _, _, _, _, _, rfl, _⟩ := h; rfl) | (obtain ⟨_, _, _, _, _, _, _, _, _, _, _, _, _, _, rfl, _⟩ := h; rfl) | (obtain ⟨_, _, _, _, _, _, _, _, _, _, _, _, _, _, _, rfl, _⟩ := h; rfl) | (obtain ⟨_, _, _, _, _, _, _, _, _, _, _, _, _, _, _, _, rfl, _⟩ := h; rfl) | (obtain ⟨_, _, _, _, _, _, _, _, _, _, _, _, _, _, _, _, _, rfl, _⟩ := h; rfl) | (obtain ⟨_, rfl⟩ := h; rfl)) r_l_is_name
  have G_l_odd_leaf : DFn P w K mg base 1 T.a_l_odd_leaf T.f_l_odd_leaf ["_law_number"] sp_l_odd_leaf := ok_l_odd_leaf T sp_l_odd_leaf_mono (fun ds S Q E h => by first | (obtain ⟨rfl, _⟩ := h; rfl) | (obtain ⟨_, rfl, _⟩ := h; rfl) | (obtain ⟨_, _, rfl, _⟩ := h; rfl) | (obtain ⟨_, _, _, rfl, _⟩ := h; rfl) | (obtain ⟨_, _, _, _, rfl, _⟩ := h; rfl) | (obtain ⟨_, _, _, _, _, rfl, _⟩ := h; rfl) | (obtain ⟨_, _, _, _, _, _, rfl, _⟩ := h; rfl) | (obtain ⟨_, _, _, _, _, _, _, rfl, _⟩ := h; rfl) | (obtain ⟨_, _, _, _, _, _, _, _, rfl, _⟩ := h; rfl) | (obtain ⟨_, _, _, _, _, _, _, _, _, rfl, _⟩ := h; rfl) | (obtain ⟨_, _, _, _, _, _, _, _, _, _, rfl, _⟩ := h; rfl) | (obtain ⟨_, _, _, _, _, _, _, _, _, _, _, rfl, _⟩ := h; rfl) | (obtain ⟨_, _, _, _, _, _, _, _, _, _, _, _, rfl, _⟩ := h; rfl) | (obtain ⟨_, _, _, _, _, _, _, _, _, _, _, _, _, rfl, _⟩ := h; rfl) | (obtain ⟨_, _, _, _, _, _, _, _, _, _, _, _, _, _, rfl, _⟩ := h; rfl) | (obtain ⟨_, _, _, _, _, _, _, _, _, _, _, _, _, _, _, rfl, _⟩ := h; rfl) | (obtain ⟨_, _, _, _, _, _, _, _, _, _, _, _, _, _, _, _, rfl, _⟩ := h; rfl) | (obtain ⟨_, _, _, _, _, _, _, _, _, _, _, _, _, _, _, _, _, rfl, _⟩ := h; rfl) | (obtain ⟨_, rfl⟩ := h; rfl)) r_l_odd_leaf
  have G_l_odd_stand : DFn P w K mg base 1 T.a_l_odd_stand T.f_l_odd_stand ["_law_number", "_law_many"] sp_l_odd_stand := ok_l_odd_stand T sp_l_odd_stand_mono (fun ds S Q E h => by first | (obtain ⟨rfl, _⟩ := h; rfl) | (obtain ⟨_, rfl, _⟩ := h; rfl) | (obtain ⟨_, _, rfl, _⟩ := h; rfl) | (obtain ⟨_, _, _, rfl, _⟩ := h; rfl) | (obtain ⟨_, _, _, _, rfl, _⟩ := h; rfl) | (obtain ⟨_, _, _, _, _, rfl, _⟩ := h; rfl) | (obtain ⟨_, _, _, _, _, _, rfl, _⟩ := h; rfl) | (obtain ⟨_, _, _, _, _, _, _, rfl, _⟩ := h; rfl) | (obtain ⟨_, _, _, _, _, _, _, _, rfl, _⟩ := h; rfl) | (obtain ⟨_, _, _, _, _, _, _, _, _, rfl, _⟩ := h; rfl) | (obtain ⟨_, _, _, _, _, _, _, _, _, _, rfl, _⟩ := h; rfl) | (obtain ⟨_, _, _, _, _, _, _, _, _, _, _, rfl, _⟩ := h; rfl) | (obtain ⟨_, _, _, _, _, _, _, _, _, _, _, _, rfl, _⟩ := h; rfl) | (obtain ⟨_, _, _, _, _, _, _, _, _, _, _, _, _, rfl, _⟩ := h; rfl) | (obtain ⟨_, _, _, _, _, _, _, _, _, _, _, _, _, _, rfl, _⟩ := h; rfl) | (obtain ⟨_, _, _, _, _, _, _, _, _, _, _, _, _, _, _, rfl, _⟩ := h; rfl) | (obtain ⟨_, _, _, _, _, _, _, _, _, _, _, _, _, _, _, _, rfl, _⟩ := h; rfl) | (obtain ⟨_, _, _, _, _, _, _, _, _, _, _, _, _, _, _, _, _, rfl, _⟩ := h; rfl) | (obtain ⟨_, rfl⟩ := h; rfl)) r_l_odd_stand
  have G_is_word : DFn P w K mg base 2 T.a_is_word T.f_is_word ["thing"] sp_is_word := ok_is_word T (G_is_name := G_is_name) sp_is_word_mono (fun ds S Q E h => by first | (obtain ⟨rfl, _⟩ := h; rfl) | (obtain ⟨_, rfl, _⟩ := h; rfl) | (obtain ⟨_, _, rfl, _⟩ := h; rfl) | (obtain ⟨_, _, _, rfl, _⟩ := h; rfl) | (obtain ⟨_, _, _, _, rfl, _⟩ := h; rfl) | (obtain ⟨_, _, _, _, _, rfl, _⟩ := h; rfl) | (obtain ⟨_, _, _, _, _, _, rfl, _⟩ := h; rfl) | (obtain ⟨_, _, _, _, _, _, _, rfl, _⟩ := h; rfl) | (obtain ⟨_, _, _, _, _, _, _, _, rfl, _⟩ := h; rfl) | (obtain ⟨_, _, _, _, _, _, _, _, _, rfl, _⟩ := h; rfl) | (obtain ⟨_, _, _, _, _, _, _, _, _, _, rfl, _⟩ := h; rfl) | (obtain ⟨_, _, _, _, _, _, _, _, _, _, _, rfl, _⟩ := h; rfl) | (obtain ⟨_, _, _, _, _, _, _, _, _, _, _, _, rfl, _⟩ := h; rfl) | (obtain ⟨_, _, _, _, _, _, _, _, _, _, _, _, _, rfl, _⟩ := h; rfl) | (obtain ⟨_, _, _, _, _, _, _, _, _, _, _, _, _, _, rfl, _⟩ := h; rfl) | (obtain ⟨_, _, _, _, _, _, _, _, _, _, _, _, _, _, _, rfl, _⟩ := h; rfl) | (obtain ⟨_, _, _, _, _, _, _, _, _, _, _, _, _, _, _, _, rfl, _⟩ := h; rfl) | (obtain ⟨_, _, _, _, _, _, _, _, _, _, _, _, _, _, _, _, _, rfl, _⟩ := h; rfl) | (obtain ⟨_, rfl⟩ := h; rfl)) r_is_word
  have G_l_leaf : DFn P w K mg base 2 T.a_l_leaf T.f_l_leaf ["_law_way", "_law_number"] sp_l_leaf := ok_l_leaf T (G_l_words := G_l_words) (G_l_marks := G_l_marks) sp_l_leaf_mono (fun ds S Q E h => by first | (obtain ⟨rfl, _⟩ := h; rfl) | (obtain ⟨_, rfl, _⟩ := h; rfl) | (obtain ⟨_, _, rfl, _⟩ := h; rfl) | (obtain ⟨_, _, _, rfl, _⟩ := h; rfl) | (obtain ⟨_, _, _, _, rfl, _⟩ := h; rfl) | (obtain ⟨_, _, _, _, _, rfl, _⟩ := h; rfl) | (obtain ⟨_, _, _, _, _, _, rfl, _⟩ := h; rfl) | (obtain ⟨_, _, _, _, _, _, _, rfl, _⟩ := h; rfl) | (obtain ⟨_, _, _, _, _, _, _, _, rfl, _⟩ := h; rfl) | (obtain ⟨_, _, _, _, _, _, _, _, _, rfl, _⟩ := h; rfl) | (obtain ⟨_, _, _, _, _, _, _, _, _, _, rfl, _⟩ := h; rfl) | (obtain ⟨_, _, _, _, _, _, _, _, _, _, _, rfl, _⟩ := h; rfl) | (obtain ⟨_, _, _, _, _, _, _, _, _, _, _, _, rfl, _⟩ := h; rfl) | (obtain ⟨_, _, _, _, _, _, _, _, _, _, _, _, _, rfl, _⟩ := h; rfl) | (obtain ⟨_, _, _, _, _, _, _, _, _, _, _, _, _, _, rfl, _⟩ := h; rfl) | (obtain ⟨_, _, _, _, _, _, _, _, _, _, _, _, _, _, _, rfl, _⟩ := h; rfl) | (obtain ⟨_, _, _, _, _, _, _, _, _, _, _, _, _, _, _, _, rfl, _⟩ := h; rfl) | (obtain ⟨_, _, _, _, _, _, _, _, _, _, _, _, _, _, _, _, _, rfl, _⟩ := h; rfl) | (obtain ⟨_, rfl⟩ := h; rfl)) r_l_leaf
  have G_l_is_leaf : DFn P w K mg base 2 T.a_l_is_leaf T.f_l_is_leaf ["_law_thing"] sp_l_is_leaf := ok_l_is_leaf T (G_l_is_name := G_l_is_name) sp_l_is_leaf_mono (fun ds S Q E h => by first | (obtain ⟨rfl, _⟩ := h; rfl) | (obtain ⟨_, rfl, _⟩ := h; rfl) | (obtain ⟨_, _, rfl, _⟩ := h; rfl) | (obtain ⟨_, _, _, rfl, _⟩ := h; rfl) | (obtain ⟨_, _, _, _, rfl, _⟩ := h; rfl) | (obtain ⟨_, _, _, _, _, rfl, _⟩ := h; rfl) | (obtain ⟨_, _, _, _, _, _, rfl, _⟩ := h; rfl) | (obtain ⟨_, _, _, _, _, _, _, rfl, _⟩ := h; rfl) | (obtain ⟨_, _, _, _, _, _, _, _, rfl, _⟩ := h; rfl) | (obtain ⟨_, _, _, _, _, _, _, _, _, rfl, _⟩ := h; rfl) | (obtain ⟨_, _, _, _, _, _, _, _, _, _, rfl, _⟩ := h; rfl) | (obtain ⟨_, _, _, _, _, _, _, _, _, _, _, rfl, _⟩ := h; rfl) | (obtain ⟨_, _, _, _, _, _, _, _, _, _, _, _, rfl, _⟩ := h; rfl) | (obtain ⟨_, _, _, _, _, _, _, _, _, _, _, _, _, rfl, _⟩ := h; rfl) | (obtain ⟨_, _, _, _, _, _, _, _, _, _, _, _, _, _, rfl, _⟩ := h; rfl) | (obtain ⟨_, _, _, _, _, _, _, _, _, _, _, _, _, _, _, rfl, _⟩ := h; rfl) | (obtain ⟨_, _, _, _, _, _, _, _, _, _, _, _, _, _, _, _, rfl, _⟩ := h; rfl) | (obtain ⟨_, _, _, _, _, _, _, _, _, _, _, _, _, _, _, _, _, rfl, _⟩ := h; rfl) | (obtain ⟨_, rfl⟩ := h; rfl)) r_l_is_leaf
  have G_l_bent_moves : DFn P w K mg base 2 T.a_l_bent_moves T.f_l_bent_moves ["_law_moves", "_law_way", "_law_number", "_law_many"] sp_l_bent_moves := ok_l_bent_moves T (G_l_odd_leaf := G_l_odd_leaf) (G_l_odd_stand := G_l_odd_stand) sp_l_bent_moves_mono (fun ds S Q E h => by first | (obtain ⟨rfl, _⟩ := h; rfl) | (obtain ⟨_, rfl, _⟩ := h; rfl) | (obtain ⟨_, _, rfl, _⟩ := h; rfl) | (obtain ⟨_, _, _, rfl, _⟩ := h; rfl) | (obtain ⟨_, _, _, _, rfl, _⟩ := h; rfl) | (obtain ⟨_, _, _, _, _, rfl, _⟩ := h; rfl) | (obtain ⟨_, _, _, _, _, _, rfl, _⟩ := h; rfl) | (obtain ⟨_, _, _, _, _, _, _, rfl, _⟩ := h; rfl) | (obtain ⟨_, _, _, _, _, _, _, _, rfl, _⟩ := h; rfl) | (obtain ⟨_, _, _, _, _, _, _, _, _, rfl, _⟩ := h; rfl) | (obtain ⟨_, _, _, _, _, _, _, _, _, _, rfl, _⟩ := h; rfl) | (obtain ⟨_, _, _, _, _, _, _, _, _, _, _, rfl, _⟩ := h; rfl) | (obtain ⟨_, _, _, _, _, _, _, _, _, _, _, _, rfl, _⟩ := h; rfl) | (obtain ⟨_, _, _, _, _, _, _, _, _, _, _, _, _, rfl, _⟩ := h; rfl) | (obtain ⟨_, _, _, _, _, _, _, _, _, _, _, _, _, _, rfl, _⟩ := h; rfl) | (obtain ⟨_, _, _, _, _, _, _, _, _, _, _, _, _, _, _, rfl, _⟩ := h; rfl) | (obtain ⟨_, _, _, _, _, _, _, _, _, _, _, _, _, _, _, _, rfl, _⟩ := h; rfl) | (obtain ⟨_, _, _, _, _, _, _, _, _, _, _, _, _, _, _, _, _, rfl, _⟩ := h; rfl) | (obtain ⟨_, rfl⟩ := h; rfl)) r_l_bent_moves
  have G_is_leaf_patterns : DFn P w K mg base 3 T.a_is_leaf_patterns T.f_is_leaf_patterns ["thing"] sp_is_leaf_patterns := ok_is_leaf_patterns T (G_is_name := G_is_name) (G_is_one_of := G_is_one_of) (G_is_word := G_is_word) sp_is_leaf_patterns_mono (fun ds S Q E h => by first | (obtain ⟨rfl, _⟩ := h; rfl) | (obtain ⟨_, rfl, _⟩ := h; rfl) | (obtain ⟨_, _, rfl, _⟩ := h; rfl) | (obtain ⟨_, _, _, rfl, _⟩ := h; rfl) | (obtain ⟨_, _, _, _, rfl, _⟩ := h; rfl) | (obtain ⟨_, _, _, _, _, rfl, _⟩ := h; rfl) | (obtain ⟨_, _, _, _, _, _, rfl, _⟩ := h; rfl) | (obtain ⟨_, _, _, _, _, _, _, rfl, _⟩ := h; rfl) | (obtain ⟨_, _, _, _, _, _, _, _, rfl, _⟩ := h; rfl) | (obtain ⟨_, _, _, _, _, _, _, _, _, rfl, _⟩ := h; rfl) | (obtain ⟨_, _, _, _, _, _, _, _, _, _, rfl, _⟩ := h; rfl) | (obtain ⟨_, _, _, _, _, _, _, _, _, _, _, rfl, _⟩ := h; rfl) | (obtain ⟨_, _, _, _, _, _, _, _, _, _, _, _, rfl, _⟩ := h; rfl) | (obtain ⟨_, _, _, _, _, _, _, _, _, _, _, _, _, rfl, _⟩ := h; rfl) | (obtain ⟨_, _, _, _, _, _, _, _, _, _, _, _, _, _, rfl, _⟩ := h; rfl) | (obtain ⟨_, _, _, _, _, _, _, _, _, _, _, _, _, _, _, rfl, _⟩ := h; rfl) | (obtain ⟨_, _, _, _, _, _, _, _, _, _, _, _, _, _, _, _, rfl, _⟩ := h; rfl) | (obtain ⟨_, _, _, _, _, _, _, _, _, _, _, _, _, _, _, _, _, rfl, _⟩ := h; rfl) | (obtain ⟨_, rfl⟩ := h; rfl)) r_is_leaf_patterns
  have G_l_machine : DFn P w K mg base 3 T.a_l_machine T.f_l_machine ["_law_cell", "_law_most"] sp_l_machine := ok_l_machine T (G_l_draws := G_l_draws) (G_l_leaf := G_l_leaf) sp_l_machine_mono (fun ds S Q E h => by first | (obtain ⟨rfl, _⟩ := h; rfl) | (obtain ⟨_, rfl, _⟩ := h; rfl) | (obtain ⟨_, _, rfl, _⟩ := h; rfl) | (obtain ⟨_, _, _, rfl, _⟩ := h; rfl) | (obtain ⟨_, _, _, _, rfl, _⟩ := h; rfl) | (obtain ⟨_, _, _, _, _, rfl, _⟩ := h; rfl) | (obtain ⟨_, _, _, _, _, _, rfl, _⟩ := h; rfl) | (obtain ⟨_, _, _, _, _, _, _, rfl, _⟩ := h; rfl) | (obtain ⟨_, _, _, _, _, _, _, _, rfl, _⟩ := h; rfl) | (obtain ⟨_, _, _, _, _, _, _, _, _, rfl, _⟩ := h; rfl) | (obtain ⟨_, _, _, _, _, _, _, _, _, _, rfl, _⟩ := h; rfl) | (obtain ⟨_, _, _, _, _, _, _, _, _, _, _, rfl, _⟩ := h; rfl) | (obtain ⟨_, _, _, _, _, _, _, _, _, _, _, _, rfl, _⟩ := h; rfl) | (obtain ⟨_, _, _, _, _, _, _, _, _, _, _, _, _, rfl, _⟩ := h; rfl) | (obtain ⟨_, _, _, _, _, _, _, _, _, _, _, _, _, _, rfl, _⟩ := h; rfl) | (obtain ⟨_, _, _, _, _, _, _, _, _, _, _, _, _, _, _, rfl, _⟩ := h; rfl) | (obtain ⟨_, _, _, _, _, _, _, _, _, _, _, _, _, _, _, _, rfl, _⟩ := h; rfl) | (obtain ⟨_, _, _, _, _, _, _, _, _, _, _, _, _, _, _, _, _, rfl, _⟩ := h; rfl) | (obtain ⟨_, rfl⟩ := h; rfl)) r_l_machine
  have G_l_is_machine : DFn P w K mg base 3 T.a_l_is_machine T.f_l_is_machine ["_law_thing", "_law_most"] sp_l_is_machine := ok_l_is_machine T (G_l_is_stand := G_l_is_stand) (G_l_is_leaf := G_l_is_leaf) sp_l_is_machine_mono (fun ds S Q E h => by first | (obtain ⟨rfl, _⟩ := h; rfl) | (obtain ⟨_, rfl, _⟩ := h; rfl) | (obtain ⟨_, _, rfl, _⟩ := h; rfl) | (obtain ⟨_, _, _, rfl, _⟩ := h; rfl) | (obtain ⟨_, _, _, _, rfl, _⟩ := h; rfl) | (obtain ⟨_, _, _, _, _, rfl, _⟩ := h; rfl) | (obtain ⟨_, _, _, _, _, _, rfl, _⟩ := h; rfl) | (obtain ⟨_, _, _, _, _, _, _, rfl, _⟩ := h; rfl) | (obtain ⟨_, _, _, _, _, _, _, _, rfl, _⟩ := h; rfl) | (obtain ⟨_, _, _, _, _, _, _, _, _, rfl, _⟩ := h; rfl) | (obtain ⟨_, _, _, _, _, _, _, _, _, _, rfl, _⟩ := h; rfl) | (obtain ⟨_, _, _, _, _, _, _, _, _, _, _, rfl, _⟩ := h; rfl) | (obtain ⟨_, _, _, _, _, _, _, _, _, _, _, _, rfl, _⟩ := h; rfl) | (obtain ⟨_, _, _, _, _, _, _, _, _, _, _, _, _, rfl, _⟩ := h; rfl) | (obtain ⟨_, _, _, _, _, _, _, _, _, _, _, _, _, _, rfl, _⟩ := h; rfl) | (obtain ⟨_, _, _, _, _, _, _, _, _, _, _, _, _, _, _, rfl, _⟩ := h; rfl) | (obtain ⟨_, _, _, _, _, _, _, _, _, _, _, _, _, _, _, _, rfl, _⟩ := h; rfl) | (obtain ⟨_, _, _, _, _, _, _, _, _, _, _, _, _, _, _, _, _, rfl, _⟩ := h; rfl) | (obtain ⟨_, rfl⟩ := h; rfl)) r_l_is_machine
  have G_l_bent : DFn P w K mg base 3 T.a_l_bent T.f_l_bent ["_law_machine_here", "_law_way", "_law_number"] sp_l_bent := ok_l_bent T (G_l_odd_stand := G_l_odd_stand) (G_l_bent_moves := G_l_bent_moves) sp_l_bent_mono (fun ds S Q E h => by first | (obtain ⟨rfl, _⟩ := h; rfl) | (obtain ⟨_, rfl, _⟩ := h; rfl) | (obtain ⟨_, _, rfl, _⟩ := h; rfl) | (obtain ⟨_, _, _, rfl, _⟩ := h; rfl) | (obtain ⟨_, _, _, _, rfl, _⟩ := h; rfl) | (obtain ⟨_, _, _, _, _, rfl, _⟩ := h; rfl) | (obtain ⟨_, _, _, _, _, _, rfl, _⟩ := h; rfl) | (obtain ⟨_, _, _, _, _, _, _, rfl, _⟩ := h; rfl) | (obtain ⟨_, _, _, _, _, _, _, _, rfl, _⟩ := h; rfl) | (obtain ⟨_, _, _, _, _, _, _, _, _, rfl, _⟩ := h; rfl) | (obtain ⟨_, _, _, _, _, _, _, _, _, _, rfl, _⟩ := h; rfl) | (obtain ⟨_, _, _, _, _, _, _, _, _, _, _, rfl, _⟩ := h; rfl) | (obtain ⟨_, _, _, _, _, _, _, _, _, _, _, _, rfl, _⟩ := h; rfl) | (obtain ⟨_, _, _, _, _, _, _, _, _, _, _, _, _, rfl, _⟩ := h; rfl) | (obtain ⟨_, _, _, _, _, _, _, _, _, _, _, _, _, _, rfl, _⟩ := h; rfl) | (obtain ⟨_, _, _, _, _, _, _, _, _, _, _, _, _, _, _, rfl, _⟩ := h; rfl) | (obtain ⟨_, _, _, _, _, _, _, _, _, _, _, _, _, _, _, _, rfl, _⟩ := h; rfl) | (obtain ⟨_, _, _, _, _, _, _, _, _, _, _, _, _, _, _, _, _, rfl, _⟩ := h; rfl) | (obtain ⟨_, rfl⟩ := h; rfl)) r_l_bent
  have G_parts_right : DFn P w K mg base 4 T.a_parts_right T.f_parts_right ["thing"] sp_parts_right := ok_parts_right T (G_is_one_of := G_is_one_of) (G_is_leaf_patterns := G_is_leaf_patterns) sp_parts_right_mono (fun ds S Q E h => by first | (obtain ⟨rfl, _⟩ := h; rfl) | (obtain ⟨_, rfl, _⟩ := h; rfl) | (obtain ⟨_, _, rfl, _⟩ := h; rfl) | (obtain ⟨_, _, _, rfl, _⟩ := h; rfl) | (obtain ⟨_, _, _, _, rfl, _⟩ := h; rfl) | (obtain ⟨_, _, _, _, _, rfl, _⟩ := h; rfl) | (obtain ⟨_, _, _, _, _, _, rfl, _⟩ := h; rfl) | (obtain ⟨_, _, _, _, _, _, _, rfl, _⟩ := h; rfl) | (obtain ⟨_, _, _, _, _, _, _, _, rfl, _⟩ := h; rfl) | (obtain ⟨_, _, _, _, _, _, _, _, _, rfl, _⟩ := h; rfl) | (obtain ⟨_, _, _, _, _, _, _, _, _, _, rfl, _⟩ := h; rfl) | (obtain ⟨_, _, _, _, _, _, _, _, _, _, _, rfl, _⟩ := h; rfl) | (obtain ⟨_, _, _, _, _, _, _, _, _, _, _, _, rfl, _⟩ := h; rfl) | (obtain ⟨_, _, _, _, _, _, _, _, _, _, _, _, _, rfl, _⟩ := h; rfl) | (obtain ⟨_, _, _, _, _, _, _, _, _, _, _, _, _, _, rfl, _⟩ := h; rfl) | (obtain ⟨_, _, _, _, _, _, _, _, _, _, _, _, _, _, _, rfl, _⟩ := h; rfl) | (obtain ⟨_, _, _, _, _, _, _, _, _, _, _, _, _, _, _, _, rfl, _⟩ := h; rfl) | (obtain ⟨_, _, _, _, _, _, _, _, _, _, _, _, _, _, _, _, _, rfl, _⟩ := h; rfl) | (obtain ⟨_, rfl⟩ := h; rfl)) r_parts_right
  have G_is_pattern : DFn P w K mg base 5 T.a_is_pattern T.f_is_pattern ["thing"] sp_is_pattern := ok_is_pattern T (G_parts_right := G_parts_right) sp_is_pattern_mono (fun ds S Q E h => by first | (obtain ⟨rfl, _⟩ := h; rfl) | (obtain ⟨_, rfl, _⟩ := h; rfl) | (obtain ⟨_, _, rfl, _⟩ := h; rfl) | (obtain ⟨_, _, _, rfl, _⟩ := h; rfl) | (obtain ⟨_, _, _, _, rfl, _⟩ := h; rfl) | (obtain ⟨_, _, _, _, _, rfl, _⟩ := h; rfl) | (obtain ⟨_, _, _, _, _, _, rfl, _⟩ := h; rfl) | (obtain ⟨_, _, _, _, _, _, _, rfl, _⟩ := h; rfl) | (obtain ⟨_, _, _, _, _, _, _, _, rfl, _⟩ := h; rfl) | (obtain ⟨_, _, _, _, _, _, _, _, _, rfl, _⟩ := h; rfl) | (obtain ⟨_, _, _, _, _, _, _, _, _, _, rfl, _⟩ := h; rfl) | (obtain ⟨_, _, _, _, _, _, _, _, _, _, _, rfl, _⟩ := h; rfl) | (obtain ⟨_, _, _, _, _, _, _, _, _, _, _, _, rfl, _⟩ := h; rfl) | (obtain ⟨_, _, _, _, _, _, _, _, _, _, _, _, _, rfl, _⟩ := h; rfl) | (obtain ⟨_, _, _, _, _, _, _, _, _, _, _, _, _, _, rfl, _⟩ := h; rfl) | (obtain ⟨_, _, _, _, _, _, _, _, _, _, _, _, _, _, _, rfl, _⟩ := h; rfl) | (obtain ⟨_, _, _, _, _, _, _, _, _, _, _, _, _, _, _, _, rfl, _⟩ := h; rfl) | (obtain ⟨_, _, _, _, _, _, _, _, _, _, _, _, _, _, _, _, _, rfl, _⟩ := h; rfl) | (obtain ⟨_, rfl⟩ := h; rfl)) r_is_pattern
  have G_is_leaf_machines : DFn P w K mg base 6 T.a_is_leaf_machines T.f_is_leaf_machines ["thing"] sp_is_leaf_machines := ok_is_leaf_machines T (G_is_pattern := G_is_pattern) sp_is_leaf_machines_mono (fun ds S Q E h => by first | (obtain ⟨rfl, _⟩ := h; rfl) | (obtain ⟨_, rfl, _⟩ := h; rfl) | (obtain ⟨_, _, rfl, _⟩ := h; rfl) | (obtain ⟨_, _, _, rfl, _⟩ := h; rfl) | (obtain ⟨_, _, _, _, rfl, _⟩ := h; rfl) | (obtain ⟨_, _, _, _, _, rfl, _⟩ := h; rfl) | (obtain ⟨_, _, _, _, _, _, rfl, _⟩ := h; rfl) | (obtain ⟨_, _, _, _, _, _, _, rfl, _⟩ := h; rfl) | (obtain ⟨_, _, _, _, _, _, _, _, rfl, _⟩ := h; rfl) | (obtain ⟨_, _, _, _, _, _, _, _, _, rfl, _⟩ := h; rfl) | (obtain ⟨_, _, _, _, _, _, _, _, _, _, rfl, _⟩ := h; rfl) | (obtain ⟨_, _, _, _, _, _, _, _, _, _, _, rfl, _⟩ := h; rfl) | (obtain ⟨_, _, _, _, _, _, _, _, _, _, _, _, rfl, _⟩ := h; rfl) | (obtain ⟨_, _, _, _, _, _, _, _, _, _, _, _, _, rfl, _⟩ := h; rfl) | (obtain ⟨_, _, _, _, _, _, _, _, _, _, _, _, _, _, rfl, _⟩ := h; rfl) | (obtain ⟨_, _, _, _, _, _, _, _, _, _, _, _, _, _, _, rfl, _⟩ := h; rfl) | (obtain ⟨_, _, _, _, _, _, _, _, _, _, _, _, _, _, _, _, rfl, _⟩ := h; rfl) | (obtain ⟨_, _, _, _, _, _, _, _, _, _, _, _, _, _, _, _, _, rfl, _⟩ := h; rfl) | (obtain ⟨_, rfl⟩ := h; rfl)) r_is_leaf_machines
  have G_is_move : DFn P w K mg base 7 T.a_is_move T.f_is_move ["thing", "last"] sp_is_move := ok_is_move T (G_is_whole := G_is_whole) (G_is_leaf_machines := G_is_leaf_machines) sp_is_move_mono (fun ds S Q E h => by first | (obtain ⟨rfl, _⟩ := h; rfl) | (obtain ⟨_, rfl, _⟩ := h; rfl) | (obtain ⟨_, _, rfl, _⟩ := h; rfl) | (obtain ⟨_, _, _, rfl, _⟩ := h; rfl) | (obtain ⟨_, _, _, _, rfl, _⟩ := h; rfl) | (obtain ⟨_, _, _, _, _, rfl, _⟩ := h; rfl) | (obtain ⟨_, _, _, _, _, _, rfl, _⟩ := h; rfl) | (obtain ⟨_, _, _, _, _, _, _, rfl, _⟩ := h; rfl) | (obtain ⟨_, _, _, _, _, _, _, _, rfl, _⟩ := h; rfl) | (obtain ⟨_, _, _, _, _, _, _, _, _, rfl, _⟩ := h; rfl) | (obtain ⟨_, _, _, _, _, _, _, _, _, _, rfl, _⟩ := h; rfl) | (obtain ⟨_, _, _, _, _, _, _, _, _, _, _, rfl, _⟩ := h; rfl) | (obtain ⟨_, _, _, _, _, _, _, _, _, _, _, _, rfl, _⟩ := h; rfl) | (obtain ⟨_, _, _, _, _, _, _, _, _, _, _, _, _, rfl, _⟩ := h; rfl) | (obtain ⟨_, _, _, _, _, _, _, _, _, _, _, _, _, _, rfl, _⟩ := h; rfl) | (obtain ⟨_, _, _, _, _, _, _, _, _, _, _, _, _, _, _, rfl, _⟩ := h; rfl) | (obtain ⟨_, _, _, _, _, _, _, _, _, _, _, _, _, _, _, _, rfl, _⟩ := h; rfl) | (obtain ⟨_, _, _, _, _, _, _, _, _, _, _, _, _, _, _, _, _, rfl, _⟩ := h; rfl) | (obtain ⟨_, rfl⟩ := h; rfl)) r_is_move
  have G_is_machine : DFn P w K mg base 8 T.a_is_machine T.f_is_machine ["thing"] sp_is_machine := ok_is_machine T (G_is_whole := G_is_whole) (G_rises := G_rises) (G_is_move := G_is_move) sp_is_machine_mono (fun ds S Q E h => by first | (obtain ⟨rfl, _⟩ := h; rfl) | (obtain ⟨_, rfl, _⟩ := h; rfl) | (obtain ⟨_, _, rfl, _⟩ := h; rfl) | (obtain ⟨_, _, _, rfl, _⟩ := h; rfl) | (obtain ⟨_, _, _, _, rfl, _⟩ := h; rfl) | (obtain ⟨_, _, _, _, _, rfl, _⟩ := h; rfl) | (obtain ⟨_, _, _, _, _, _, rfl, _⟩ := h; rfl) | (obtain ⟨_, _, _, _, _, _, _, rfl, _⟩ := h; rfl) | (obtain ⟨_, _, _, _, _, _, _, _, rfl, _⟩ := h; rfl) | (obtain ⟨_, _, _, _, _, _, _, _, _, rfl, _⟩ := h; rfl) | (obtain ⟨_, _, _, _, _, _, _, _, _, _, rfl, _⟩ := h; rfl) | (obtain ⟨_, _, _, _, _, _, _, _, _, _, _, rfl, _⟩ := h; rfl) | (obtain ⟨_, _, _, _, _, _, _, _, _, _, _, _, rfl, _⟩ := h; rfl) | (obtain ⟨_, _, _, _, _, _, _, _, _, _, _, _, _, rfl, _⟩ := h; rfl) | (obtain ⟨_, _, _, _, _, _, _, _, _, _, _, _, _, _, rfl, _⟩ := h; rfl) | (obtain ⟨_, _, _, _, _, _, _, _, _, _, _, _, _, _, _, rfl, _⟩ := h; rfl) | (obtain ⟨_, _, _, _, _, _, _, _, _, _, _, _, _, _, _, _, rfl, _⟩ := h; rfl) | (obtain ⟨_, _, _, _, _, _, _, _, _, _, _, _, _, _, _, _, _, rfl, _⟩ := h; rfl) | (obtain ⟨_, rfl⟩ := h; rfl)) r_is_machine
  have G_law : DFn P w K mg base 9 T.a_law T.f_law ["_law_script"] sp_law := ok_law T (G_l_cell_at := G_l_cell_at) (G_l_draws := G_l_draws) (G_l_machine := G_l_machine) (G_l_is_machine := G_l_is_machine) (G_l_bent := G_l_bent) (G_is_machine := G_is_machine) sp_law_mono (fun ds S Q E h => by first | (obtain ⟨rfl, _⟩ := h; rfl) | (obtain ⟨_, rfl, _⟩ := h; rfl) | (obtain ⟨_, _, rfl, _⟩ := h; rfl) | (obtain ⟨_, _, _, rfl, _⟩ := h; rfl) | (obtain ⟨_, _, _, _, rfl, _⟩ := h; rfl) | (obtain ⟨_, _, _, _, _, rfl, _⟩ := h; rfl) | (obtain ⟨_, _, _, _, _, _, rfl, _⟩ := h; rfl) | (obtain ⟨_, _, _, _, _, _, _, rfl, _⟩ := h; rfl) | (obtain ⟨_, _, _, _, _, _, _, _, rfl, _⟩ := h; rfl) | (obtain ⟨_, _, _, _, _, _, _, _, _, rfl, _⟩ := h; rfl) | (obtain ⟨_, _, _, _, _, _, _, _, _, _, rfl, _⟩ := h; rfl) | (obtain ⟨_, _, _, _, _, _, _, _, _, _, _, rfl, _⟩ := h; rfl) | (obtain ⟨_, _, _, _, _, _, _, _, _, _, _, _, rfl, _⟩ := h; rfl) | (obtain ⟨_, _, _, _, _, _, _, _, _, _, _, _, _, rfl, _⟩ := h; rfl) | (obtain ⟨_, _, _, _, _, _, _, _, _, _, _, _, _, _, rfl, _⟩ := h; rfl) | (obtain ⟨_, _, _, _, _, _, _, _, _, _, _, _, _, _, _, rfl, _⟩ := h; rfl) | (obtain ⟨_, _, _, _, _, _, _, _, _, _, _, _, _, _, _, _, rfl, _⟩ := h; rfl) | (obtain ⟨_, _, _, _, _, _, _, _, _, _, _, _, _, _, _, _, _, rfl, _⟩ := h; rfl) | (obtain ⟨_, rfl⟩ := h; rfl)) r_law
  exact G_law
theorem all_mk {l : PySem.W.OpenLaw} {w : World} {K : PySem.W.Frag} {h : Heap} {mg : Str → Option Value} {fa : Addr} (X : K.In h) (G : h.Ns mainGlobals mg) (hfa : mg "law" = some (.ref fa))
    {f0 f1 f2 f3 f4 f5 f6 f7 f8 f9 f10 f11 f12 f13 f14 f15 f16 f17 f18 f19 f20 f21 f22 f23 f24 f25 : Addr} {od0 an0 od1 an1 od2 an2 od3 an3 od4 an4 od5 an5 od6 an6 od7 an7 od8 an8 od9 an9 od10 an10 od11 an11 od12 an12 od13 an13 od14 an14 od15 an15 od16 an16 od17 an17 od18 an18 od19 an19 od20 an20 od21 an21 od22 an22 od23 an23 od24 an24 od25 an25 : Option Addr} {sl0 sl1 sl2 sl3 sl4 sl5 sl6 sl7 sl8 sl9 sl10 sl11 sl12 sl13 sl14 sl15 sl16 sl17 sl18 sl19 sl20 sl21 sl22 sl23 sl24 sl25 : Array (Option Value)} {oc0 kV0 dc0 pm0 cd0 ct0 oc1 kV1 dc1 pm1 cd1 ct1 oc2 kV2 dc2 pm2 cd2 ct2 oc3 kV3 dc3 pm3 cd3 ct3 oc4 kV4 dc4 pm4 cd4 ct4 oc5 kV5 dc5 pm5 cd5 ct5 oc6 kV6 dc6 pm6 cd6 ct6 oc7 kV7 dc7 pm7 cd7 ct7 oc8 kV8 dc8 pm8 cd8 ct8 oc9 kV9 dc9 pm9 cd9 ct9 oc10 kV10 dc10 pm10 cd10 ct10 oc11 kV11 dc11 pm11 cd11 ct11 oc12 kV12 dc12 pm12 cd12 ct12 oc13 kV13 dc13 pm13 cd13 ct13 oc14 kV14 dc14 pm14 cd14 ct14 oc15 kV15 dc15 pm15 cd15 ct15 oc16 kV16 dc16 pm16 cd16 ct16 oc17 kV17 dc17 pm17 cd17 ct17 oc18 kV18 dc18 pm18 cd18 ct18 oc19 kV19 dc19 pm19 cd19 ct19 oc20 kV20 dc20 pm20 cd20 ct20 oc21 kV21 dc21 pm21 cd21 ct21 oc22 kV22 dc22 pm22 cd22 ct22 oc23 kV23 dc23 pm23 cd23 ct23 oc24 kV24 dc24 pm24 cd24 ct24 oc25 kV25 dc25 pm25 cd25 ct25 : Value}
    (a0 : PySem.W.nsIn K mainGlobals "is_name" = some (some (.ref f0))) (l0 : K.lookup f0 = some ⟨oc0, od0, .func (PySem.W.fnOf "is_name" "is_name" (defArgs s_is_name) (defBody s_is_name) (defScope s_is_name) .none kV0 dc0 pm0 an0 cd0 ct0), sl0⟩) (c0 : PySem.W.codeIn K cd0 "is_name" = true) (k0 : PySem.W.keepIn K (.ref f0) = true)
    (a1 : PySem.W.nsIn K mainGlobals "is_one_of" = some (some (.ref f1))) (l1 : K.lookup f1 = some ⟨oc1, od1, .func (PySem.W.fnOf "is_one_of" "is_one_of" (defArgs s_is_one_of) (defBody s_is_one_of) (defScope s_is_one_of) .none kV1 dc1 pm1 an1 cd1 ct1), sl1⟩) (c1 : PySem.W.codeIn K cd1 "is_one_of" = true) (k1 : PySem.W.keepIn K (.ref f1) = true)
    (a2 : PySem.W.nsIn K mainGlobals "is_whole" = some (some (.ref f2))) (l2 : K.lookup f2 = some ⟨oc2, od2, .func (PySem.W.fnOf "is_whole" "is_whole" (defArgs s_is_whole) (defBody s_is_whole) (defScope s_is_whole) .none kV2 dc2 pm2 an2 cd2 ct2), sl2⟩) (c2 : PySem.W.codeIn K cd2 "is_whole" = true) (k2 : PySem.W.keepIn K (.ref f2) = true)
    (a3 : PySem.W.nsIn K mainGlobals "rises" = some (some (.ref f3))) (l3 : K.lookup f3 = some ⟨oc3, od3, .func (PySem.W.fnOf "rises" "rises" (defArgs s_rises) (defBody s_rises) (defScope s_rises) .none kV3 dc3 pm3 an3 cd3 ct3), sl3⟩) (c3 : PySem.W.codeIn K cd3 "rises" = true) (k3 : PySem.W.keepIn K (.ref f3) = true)
    (a4 : PySem.W.nsIn K mainGlobals "_law_cell_at" = some (some (.ref f4))) (l4 : K.lookup f4 = some ⟨oc4, od4, .func (PySem.W.fnOf "_law_cell_at" "_law_cell_at" (defArgs s_l_cell_at) (defBody s_l_cell_at) (defScope s_l_cell_at) .none kV4 dc4 pm4 an4 cd4 ct4), sl4⟩) (c4 : PySem.W.codeIn K cd4 "_law_cell_at" = true) (k4 : PySem.W.keepIn K (.ref f4) = true)
    (a5 : PySem.W.nsIn K mainGlobals "_law_draws" = some (some (.ref f5))) (l5 : K.lookup f5 = some ⟨oc5, od5, .func (PySem.W.fnOf "_law_draws" "_law_draws" (defArgs s_l_draws) (defBody s_l_draws) (defScope s_l_draws) .none kV5 dc5 pm5 an5 cd5 ct5), sl5⟩) (c5 : PySem.W.codeIn K cd5 "_law_draws" = true) (k5 : PySem.W.keepIn K (.ref f5) = true)
    (a6 : PySem.W.nsIn K mainGlobals "_law_words" = some (some (.ref f6))) (l6 : K.lookup f6 = some ⟨oc6, od6, .func (PySem.W.fnOf "_law_words" "_law_words" (defArgs s_l_words) (defBody s_l_words) (defScope s_l_words) .none kV6 dc6 pm6 an6 cd6 ct6), sl6⟩) (c6 : PySem.W.codeIn K cd6 "_law_words" = true) (k6 : PySem.W.keepIn K (.ref f6) = true)
    (a7 : PySem.W.nsIn K mainGlobals "_law_marks" = some (some (.ref f7))) (l7 : K.lookup f7 = some ⟨oc7, od7, .func (PySem.W.fnOf "_law_marks" "_law_marks" (defArgs s_l_marks) (defBody s_l_marks) (defScope s_l_marks) .none kV7 dc7 pm7 an7 cd7 ct7), sl7⟩) (c7 : PySem.W.codeIn K cd7 "_law_marks" = true) (k7 : PySem.W.keepIn K (.ref f7) = true)
    (a8 : PySem.W.nsIn K mainGlobals "_law_is_stand" = some (some (.ref f8))) (l8 : K.lookup f8 = some ⟨oc8, od8, .func (PySem.W.fnOf "_law_is_stand" "_law_is_stand" (defArgs s_l_is_stand) (defBody s_l_is_stand) (defScope s_l_is_stand) .none kV8 dc8 pm8 an8 cd8 ct8), sl8⟩) (c8 : PySem.W.codeIn K cd8 "_law_is_stand" = true) (k8 : PySem.W.keepIn K (.ref f8) = true)
    (a9 : PySem.W.nsIn K mainGlobals "_law_is_name" = some (some (.ref f9))) (l9 : K.lookup f9 = some ⟨oc9, od9, .func (PySem.W.fnOf "_law_is_name" "_law_is_name" (defArgs s_l_is_name) (defBody s_l_is_name) (defScope s_l_is_name) .none kV9 dc9 pm9 an9 cd9 ct9), sl9⟩) (c9 : PySem.W.codeIn K cd9 "_law_is_name" = true) (k9 : PySem.W.keepIn K (.ref f9) = true)
    (a10 : PySem.W.nsIn K mainGlobals "_law_odd_leaf" = some (some (.ref f10))) (l10 : K.lookup f10 = some ⟨oc10, od10, .func (PySem.W.fnOf "_law_odd_leaf" "_law_odd_leaf" (defArgs s_l_odd_leaf) (defBody s_l_odd_leaf) (defScope s_l_odd_leaf) .none kV10 dc10 pm10 an10 cd10 ct10), sl10⟩) (c10 : PySem.W.codeIn K cd10 "_law_odd_leaf" = true) (k10 : PySem.W.keepIn K (.ref f10) = true)
    (a11 : PySem.W.nsIn K mainGlobals "_law_odd_stand" = some (some (.ref f11))) (l11 : K.lookup f11 = some ⟨oc11, od11, .func (PySem.W.fnOf "_law_odd_stand" "_law_odd_stand" (defArgs s_l_odd_stand) (defBody s_l_odd_stand) (defScope s_l_odd_stand) .none kV11 dc11 pm11 an11 cd11 ct11), sl11⟩) (c11 : PySem.W.codeIn K cd11 "_law_odd_stand" = true) (k11 : PySem.W.keepIn K (.ref f11) = true)
    (a12 : PySem.W.nsIn K mainGlobals "is_word" = some (some (.ref f12))) (l12 : K.lookup f12 = some ⟨oc12, od12, .func (PySem.W.fnOf "is_word" "is_word" (defArgs s_is_word) (defBody s_is_word) (defScope s_is_word) .none kV12 dc12 pm12 an12 cd12 ct12), sl12⟩) (c12 : PySem.W.codeIn K cd12 "is_word" = true) (k12 : PySem.W.keepIn K (.ref f12) = true)
    (a13 : PySem.W.nsIn K mainGlobals "_law_leaf" = some (some (.ref f13))) (l13 : K.lookup f13 = some ⟨oc13, od13, .func (PySem.W.fnOf "_law_leaf" "_law_leaf" (defArgs s_l_leaf) (defBody s_l_leaf) (defScope s_l_leaf) .none kV13 dc13 pm13 an13 cd13 ct13), sl13⟩) (c13 : PySem.W.codeIn K cd13 "_law_leaf" = true) (k13 : PySem.W.keepIn K (.ref f13) = true)
    (a14 : PySem.W.nsIn K mainGlobals "_law_is_leaf" = some (some (.ref f14))) (l14 : K.lookup f14 = some ⟨oc14, od14, .func (PySem.W.fnOf "_law_is_leaf" "_law_is_leaf" (defArgs s_l_is_leaf) (defBody s_l_is_leaf) (defScope s_l_is_leaf) .none kV14 dc14 pm14 an14 cd14 ct14), sl14⟩) (c14 : PySem.W.codeIn K cd14 "_law_is_leaf" = true) (k14 : PySem.W.keepIn K (.ref f14) = true)
    (a15 : PySem.W.nsIn K mainGlobals "_law_bent_moves" = some (some (.ref f15))) (l15 : K.lookup f15 = some ⟨oc15, od15, .func (PySem.W.fnOf "_law_bent_moves" "_law_bent_moves" (defArgs s_l_bent_moves) (defBody s_l_bent_moves) (defScope s_l_bent_moves) .none kV15 dc15 pm15 an15 cd15 ct15), sl15⟩) (c15 : PySem.W.codeIn K cd15 "_law_bent_moves" = true) (k15 : PySem.W.keepIn K (.ref f15) = true)
    (a16 : PySem.W.nsIn K mainGlobals "is_leaf_patterns" = some (some (.ref f16))) (l16 : K.lookup f16 = some ⟨oc16, od16, .func (PySem.W.fnOf "is_leaf" "is_leaf" (defArgs s_is_leaf_patterns) (defBody s_is_leaf_patterns) (defScope s_is_leaf_patterns) .none kV16 dc16 pm16 an16 cd16 ct16), sl16⟩) (c16 : PySem.W.codeIn K cd16 "is_leaf" = true) (k16 : PySem.W.keepIn K (.ref f16) = true)
    (a17 : PySem.W.nsIn K mainGlobals "_law_machine" = some (some (.ref f17))) (l17 : K.lookup f17 = some ⟨oc17, od17, .func (PySem.W.fnOf "_law_machine" "_law_machine" (defArgs s_l_machine) (defBody s_l_machine) (defScope s_l_machine) .none kV17 dc17 pm17 an17 cd17 ct17), sl17⟩) (c17 : PySem.W.codeIn K cd17 "_law_machine" = true) (k17 : PySem.W.keepIn K (.ref f17) = true)
    (a18 : PySem.W.nsIn K mainGlobals "_law_is_machine" = some (some (.ref f18))) (l18 : K.lookup f18 = some ⟨oc18, od18, .func (PySem.W.fnOf "_law_is_machine" "_law_is_machine" (defArgs s_l_is_machine) (defBody s_l_is_machine) (defScope s_l_is_machine) .none kV18 dc18 pm18 an18 cd18 ct18), sl18⟩) (c18 : PySem.W.codeIn K cd18 "_law_is_machine" = true) (k18 : PySem.W.keepIn K (.ref f18) = true)
    (a19 : PySem.W.nsIn K mainGlobals "_law_bent" = some (some (.ref f19))) (l19 : K.lookup f19 = some ⟨oc19, od19, .func (PySem.W.fnOf "_law_bent" "_law_bent" (defArgs s_l_bent) (defBody s_l_bent) (defScope s_l_bent) .none kV19 dc19 pm19 an19 cd19 ct19), sl19⟩) (c19 : PySem.W.codeIn K cd19 "_law_bent" = true) (k19 : PySem.W.keepIn K (.ref f19) = true)
    (a20 : PySem.W.nsIn K mainGlobals "parts_right" = some (some (.ref f20))) (l20 : K.lookup f20 = some ⟨oc20, od20, .func (PySem.W.fnOf "parts_right" "parts_right" (defArgs s_parts_right) (defBody s_parts_right) (defScope s_parts_right) .none kV20 dc20 pm20 an20 cd20 ct20), sl20⟩) (c20 : PySem.W.codeIn K cd20 "parts_right" = true) (k20 : PySem.W.keepIn K (.ref f20) = true)
    (a21 : PySem.W.nsIn K mainGlobals "is_pattern" = some (some (.ref f21))) (l21 : K.lookup f21 = some ⟨oc21, od21, .func (PySem.W.fnOf "is_pattern" "is_pattern" (defArgs s_is_pattern) (defBody s_is_pattern) (defScope s_is_pattern) .none kV21 dc21 pm21 an21 cd21 ct21), sl21⟩) (c21 : PySem.W.codeIn K cd21 "is_pattern" = true) (k21 : PySem.W.keepIn K (.ref f21) = true)
    (a22 : PySem.W.nsIn K mainGlobals "is_leaf_machines" = some (some (.ref f22))) (l22 : K.lookup f22 = some ⟨oc22, od22, .func (PySem.W.fnOf "is_leaf" "is_leaf" (defArgs s_is_leaf_machines) (defBody s_is_leaf_machines) (defScope s_is_leaf_machines) .none kV22 dc22 pm22 an22 cd22 ct22), sl22⟩) (c22 : PySem.W.codeIn K cd22 "is_leaf" = true) (k22 : PySem.W.keepIn K (.ref f22) = true)
    (a23 : PySem.W.nsIn K mainGlobals "is_move" = some (some (.ref f23))) (l23 : K.lookup f23 = some ⟨oc23, od23, .func (PySem.W.fnOf "is_move" "is_move" (defArgs s_is_move) (defBody s_is_move) (defScope s_is_move) .none kV23 dc23 pm23 an23 cd23 ct23), sl23⟩) (c23 : PySem.W.codeIn K cd23 "is_move" = true) (k23 : PySem.W.keepIn K (.ref f23) = true)
    (a24 : PySem.W.nsIn K mainGlobals "is_machine" = some (some (.ref f24))) (l24 : K.lookup f24 = some ⟨oc24, od24, .func (PySem.W.fnOf "is_machine" "is_machine" (defArgs s_is_machine) (defBody s_is_machine) (defScope s_is_machine) .none kV24 dc24 pm24 an24 cd24 ct24), sl24⟩) (c24 : PySem.W.codeIn K cd24 "is_machine" = true) (k24 : PySem.W.keepIn K (.ref f24) = true)
    (a25 : PySem.W.nsIn K mainGlobals "law" = some (some (.ref f25))) (l25 : K.lookup f25 = some ⟨oc25, od25, .func (PySem.W.fnOf "law" "law" (defArgs s_law) (defBody s_law) (defScope s_law) .none kV25 dc25 pm25 an25 cd25 ct25), sl25⟩) (c25 : PySem.W.codeIn K cd25 "law" = true) (k25 : PySem.W.keepIn K (.ref f25) = true)
    {u0 u1 u2 u3 u4 u5 : Tok}
    {ta0 : Addr} {tn0 : Nat} {to0 : Option Addr} {ts0 : Array (Option Value)} {tt0_0 tt0_1 tt0_2 tt0_3 : Tok}
    (gt0 : PySem.W.nsIn K mainGlobals "LEAVES" = some (some (.ref ta0))) (lt0 : K.lookup ta0 = some ⟨.type "tuple", to0, .seq #[.str "stay" tt0_0, .str "step" tt0_1, .str "at" tt0_2, .str "off" tt0_3] tn0, ts0⟩)
    {ta1 : Addr} {tn1 : Nat} {to1 : Option Addr} {ts1 : Array (Option Value)} {tt1_0 tt1_1 : Tok}
    (gt1 : PySem.W.nsIn K mainGlobals "SIDES" = some (some (.ref ta1))) (lt1 : K.lookup ta1 = some ⟨.type "tuple", to1, .seq #[.str "on" tt1_0, .str "back" tt1_1] tn1, ts1⟩)
    (gg0 : PySem.W.nsIn K mainGlobals "ANY_WORD" = some (some (.str "*" u0)))
    (gg1 : PySem.W.nsIn K mainGlobals "LETTERS" = some (some (.str "abcdefghijklmnopqrstuvwxyz" u1)))
    (gg2 : PySem.W.nsIn K mainGlobals "MOST_DEEP" = some (some (.int 10 u2)))
    (gg3 : PySem.W.nsIn K mainGlobals "MOST_PARTS" = some (some (.int 40 u3)))
    (gg4 : PySem.W.nsIn K mainGlobals "MOST_SIGNS" = some (some (.int 8 u4)))
    (gg5 : PySem.W.nsIn K mainGlobals "MOST_WITHIN" = some (some (.int 39 u5)))
    (z0 : PySem.W.nsIn K mainGlobals "all" = some none)
    (z1 : PySem.W.nsIn K mainGlobals "bool" = some none)
    (z2 : PySem.W.nsIn K mainGlobals "int" = some none)
    (z3 : PySem.W.nsIn K mainGlobals "isinstance" = some none)
    (z4 : PySem.W.nsIn K mainGlobals "len" = some none)
    (z5 : PySem.W.nsIn K mainGlobals "list" = some none)
    (z6 : PySem.W.nsIn K mainGlobals "range" = some none)
    (z7 : PySem.W.nsIn K mainGlobals "set" = some none)
    (z8 : PySem.W.nsIn K mainGlobals "sorted" = some none)
    (z9 : PySem.W.nsIn K mainGlobals "str" = some none)
    (z10 : PySem.W.nsIn K mainGlobals "tuple" = some none)
    : ∃ fd : FuncData, (∀ (s : Shared) (v : Value), BindsTo s fd ⟨[v], []⟩ [("_law_script", v)]) ∧ ∀ base : Heap, K.In base → base.Ns mainGlobals mg → DFn l.prog w K mg base 9 fa fd ["_law_script"] sp_law := by
  have e := hfa.symm.trans (PySem.W.mg_of X G a25)
  cases e
  have F0 := fun_mk (st := s_is_name) l0 c0 k0
  have F1 := fun_mk (st := s_is_one_of) l1 c1 k1
  have F2 := fun_mk (st := s_is_whole) l2 c2 k2
  have F3 := fun_mk (st := s_rises) l3 c3 k3
  have F4 := fun_mk (st := s_l_cell_at) l4 c4 k4
  have F5 := fun_mk (st := s_l_draws) l5 c5 k5
  have F6 := fun_mk (st := s_l_words) l6 c6 k6
  have F7 := fun_mk (st := s_l_marks) l7 c7 k7
  have F8 := fun_mk (st := s_l_is_stand) l8 c8 k8
  have F9 := fun_mk (st := s_l_is_name) l9 c9 k9
  have F10 := fun_mk (st := s_l_odd_leaf) l10 c10 k10
  have F11 := fun_mk (st := s_l_odd_stand) l11 c11 k11
  have F12 := fun_mk (st := s_is_word) l12 c12 k12
  have F13 := fun_mk (st := s_l_leaf) l13 c13 k13
  have F14 := fun_mk (st := s_l_is_leaf) l14 c14 k14
  have F15 := fun_mk (st := s_l_bent_moves) l15 c15 k15
  have F16 := fun_mk (st := s_is_leaf_patterns) l16 c16 k16
  have F17 := fun_mk (st := s_l_machine) l17 c17 k17
  have F18 := fun_mk (st := s_l_is_machine) l18 c18 k18
  have F19 := fun_mk (st := s_l_bent) l19 c19 k19
  have F20 := fun_mk (st := s_parts_right) l20 c20 k20
  have F21 := fun_mk (st := s_is_pattern) l21 c21 k21
  have F22 := fun_mk (st := s_is_leaf_machines) l22 c22 k22
  have F23 := fun_mk (st := s_is_move) l23 c23 k23
  have F24 := fun_mk (st := s_is_machine) l24 c24 k24
  have F25 := fun_mk (st := s_law) l25 c25 k25
  obtain ⟨T, e1, e2⟩ : ∃ T : Txt w K mg, T.a_law = fa ∧ T.f_law = PySem.W.fnOf "law" "law" (defArgs s_law) (defBody s_law) (defScope s_law) .none kV25 dc25 pm25 an25 cd25 ct25 :=
    ⟨{ a_is_name := f0, f_is_name := _, F_is_name := F0, m_is_name := PySem.W.mg_of X G a0, d_is_name := F0.binds (ps := ["thing"]) fun _ _ _ _ _ _ us hl => match us, hl with | [_], _ => rfl,
       a_is_one_of := f1, f_is_one_of := _, F_is_one_of := F1, m_is_one_of := PySem.W.mg_of X G a1, d_is_one_of := F1.binds (ps := ["thing", "some"]) fun _ _ _ _ _ _ us hl => match us, hl with | [_, _], _ => rfl,
       a_is_whole := f2, f_is_whole := _, F_is_whole := F2, m_is_whole := PySem.W.mg_of X G a2, d_is_whole := F2.binds (ps := ["thing", "least", "most"]) fun _ _ _ _ _ _ us hl => match us, hl with | [_, _, _], _ => rfl,
       a_rises := f3, f_rises := _, F_rises := F3, m_rises := PySem.W.mg_of X G a3, d_rises := F3.binds (ps := ["things"]) fun _ _ _ _ _ _ us hl => match us, hl with | [_], _ => rfl,
       a_l_cell_at := f4, f_l_cell_at := _, F_l_cell_at := F4, m_l_cell_at := PySem.W.mg_of X G a4, d_l_cell_at := F4.binds (ps := ["_law_script", "_law_k"]) fun _ _ _ _ _ _ us hl => match us, hl with | [_, _], _ => rfl,
       a_l_draws := f5, f_l_draws := _, F_l_draws := F5, m_l_draws := PySem.W.mg_of X G a5, d_l_draws := F5.binds (ps := ["_law_cell", "_law_sizes"]) fun _ _ _ _ _ _ us hl => match us, hl with | [_, _], _ => rfl,
       a_l_words := f6, f_l_words := _, F_l_words := F6, m_l_words := PySem.W.mg_of X G a6, d_l_words := F6.binds (ps := []) fun _ _ _ _ _ _ us hl => match us, hl with | [], _ => rfl,
       a_l_marks := f7, f_l_marks := _, F_l_marks := F7, m_l_marks := PySem.W.mg_of X G a7, d_l_marks := F7.binds (ps := []) fun _ _ _ _ _ _ us hl => match us, hl with | [], _ => rfl,
       a_l_is_stand := f8, f_l_is_stand := _, F_l_is_stand := F8, m_l_is_stand := PySem.W.mg_of X G a8, d_l_is_stand := F8.binds (ps := ["_law_thing", "_law_many"]) fun _ _ _ _ _ _ us hl => match us, hl with | [_, _], _ => rfl,
       a_l_is_name := f9, f_l_is_name := _, F_l_is_name := F9, m_l_is_name := PySem.W.mg_of X G a9, d_l_is_name := F9.binds (ps := ["_law_thing"]) fun _ _ _ _ _ _ us hl => match us, hl with | [_], _ => rfl,
       a_l_odd_leaf := f10, f_l_odd_leaf := _, F_l_odd_leaf := F10, m_l_odd_leaf := PySem.W.mg_of X G a10, d_l_odd_leaf := F10.binds (ps := ["_law_number"]) fun _ _ _ _ _ _ us hl => match us, hl with | [_], _ => rfl,
       a_l_odd_stand := f11, f_l_odd_stand := _, F_l_odd_stand := F11, m_l_odd_stand := PySem.W.mg_of X G a11, d_l_odd_stand := F11.binds (ps := ["_law_number", "_law_many"]) fun _ _ _ _ _ _ us hl => match us, hl with | [_, _], _ => rfl,
       a_is_word := f12, f_is_word := _, F_is_word := F12, m_is_word := PySem.W.mg_of X G a12, d_is_word := F12.binds (ps := ["thing"]) fun _ _ _ _ _ _ us hl => match us, hl with | [_], _ => rfl,
       a_l_leaf := f13, f_l_leaf := _, F_l_leaf := F13, m_l_leaf := PySem.W.mg_of X G a13, d_l_leaf := F13.binds (ps := ["_law_way", "_law_number"]) fun _ _ _ _ _ _ us hl => match us, hl with | [_, _], _ => rfl,
       a_l_is_leaf := f14, f_l_is_leaf := _, F_l_is_leaf := F14, m_l_is_leaf := PySem.W.mg_of X G a14, d_l_is_leaf := F14.binds (ps := ["_law_thing"]) fun _ _ _ _ _ _ us hl => match us, hl with | [_], _ => rfl,
       a_l_bent_moves := f15, f_l_bent_moves := _, F_l_bent_moves := F15, m_l_bent_moves := PySem.W.mg_of X G a15, d_l_bent_moves := F15.binds (ps := ["_law_moves", "_law_way", "_law_number", "_law_many"]) fun _ _ _ _ _ _ us hl => match us, hl with | [_, _, _, _], _ => rfl,
       a_is_leaf_patterns := f16, f_is_leaf_patterns := _, F_is_leaf_patterns := F16, m_is_leaf_patterns := PySem.W.mg_of X G a16, d_is_leaf_patterns := F16.binds (ps := ["thing"]) fun _ _ _ _ _ _ us hl => match us, hl with | [_], _ => rfl,
       a_l_machine := f17, f_l_machine := _, F_l_machine := F17, m_l_machine := PySem.W.mg_of X G a17, d_l_machine := F17.binds (ps := ["_law_cell", "_law_most"]) fun _ _ _ _ _ _ us hl => match us, hl with | [_, _], _ => rfl,
       a_l_is_machine := f18, f_l_is_machine := _, F_l_is_machine := F18, m_l_is_machine := PySem.W.mg_of X G a18, d_l_is_machine := F18.binds (ps := ["_law_thing", "_law_most"]) fun _ _ _ _ _ _ us hl => match us, hl with | [_, _], _ => rfl,
       a_l_bent := f19, f_l_bent := _, F_l_bent := F19, m_l_bent := PySem.W.mg_of X G a19, d_l_bent := F19.binds (ps := ["_law_machine_here", "_law_way", "_law_number"]) fun _ _ _ _ _ _ us hl => match us, hl with | [_, _, _], _ => rfl,
       a_parts_right := f20, f_parts_right := _, F_parts_right := F20, m_parts_right := PySem.W.mg_of X G a20, d_parts_right := F20.binds (ps := ["thing"]) fun _ _ _ _ _ _ us hl => match us, hl with | [_], _ => rfl,
       a_is_pattern := f21, f_is_pattern := _, F_is_pattern := F21, m_is_pattern := PySem.W.mg_of X G a21, d_is_pattern := F21.binds (ps := ["thing"]) fun _ _ _ _ _ _ us hl => match us, hl with | [_], _ => rfl,
       a_is_leaf_machines := f22, f_is_leaf_machines := _, F_is_leaf_machines := F22, m_is_leaf_machines := PySem.W.mg_of X G a22, d_is_leaf_machines := F22.binds (ps := ["thing"]) fun _ _ _ _ _ _ us hl => match us, hl with | [_], _ => rfl,
       a_is_move := f23, f_is_move := _, F_is_move := F23, m_is_move := PySem.W.mg_of X G a23, d_is_move := F23.binds (ps := ["thing", "last"]) fun _ _ _ _ _ _ us hl => match us, hl with | [_, _], _ => rfl,
       a_is_machine := f24, f_is_machine := _, F_is_machine := F24, m_is_machine := PySem.W.mg_of X G a24, d_is_machine := F24.binds (ps := ["thing"]) fun _ _ _ _ _ _ us hl => match us, hl with | [_], _ => rfl,
       a_law := fa, f_law := _, F_law := F25, m_law := PySem.W.mg_of X G a25, d_law := F25.binds (ps := ["_law_script"]) fun _ _ _ _ _ _ us hl => match us, hl with | [_], _ => rfl,
       a_LEAVES := ta0, i_LEAVES := _, n_LEAVES := _, o_LEAVES := _, s_LEAVES := _, g_LEAVES := PySem.W.mg_of X G gt0, l_LEAVES := lt0, z_LEAVES := (show 4 ≤ sizeLine by decide), v_LEAVES := ⟨[.str "stay", .str "step", .str "at", .str "off"], .cons ⟨_, rfl⟩ (.cons ⟨_, rfl⟩ (.cons ⟨_, rfl⟩ (.cons ⟨_, rfl⟩ (.nil)))), fun H => RDs.cons rfl (RDs.cons rfl (RDs.cons rfl (RDs.cons rfl (.nil))))⟩,
       a_SIDES := ta1, i_SIDES := _, n_SIDES := _, o_SIDES := _, s_SIDES := _, g_SIDES := PySem.W.mg_of X G gt1, l_SIDES := lt1, z_SIDES := (show 2 ≤ sizeLine by decide), v_SIDES := ⟨[.str "on", .str "back"], .cons ⟨_, rfl⟩ (.cons ⟨_, rfl⟩ (.nil)), fun H => RDs.cons rfl (RDs.cons rfl (.nil))⟩,
       t_ANY_WORD := _, g_ANY_WORD := PySem.W.mg_of X G gg0,
       t_LETTERS := _, g_LETTERS := PySem.W.mg_of X G gg1,
       t_MOST_DEEP := _, g_MOST_DEEP := PySem.W.mg_of X G gg2,
       t_MOST_PARTS := _, g_MOST_PARTS := PySem.W.mg_of X G gg3,
       t_MOST_SIGNS := _, g_MOST_SIGNS := PySem.W.mg_of X G gg4,
       t_MOST_WITHIN := _, g_MOST_WITHIN := PySem.W.mg_of X G gg5,
       b_all := PySem.W.mg_none_of X G z0,
       b_bool := PySem.W.mg_none_of X G z1,
       b_int := PySem.W.mg_none_of X G z2,
       b_isinstance := PySem.W.mg_none_of X G z3,
       b_len := PySem.W.mg_none_of X G z4,
       b_list := PySem.W.mg_none_of X G z5,
       b_range := PySem.W.mg_none_of X G z6,
       b_set := PySem.W.mg_none_of X G z7,
       b_sorted := PySem.W.mg_none_of X G z8,
       b_str := PySem.W.mg_none_of X G z9,
       b_tuple := PySem.W.mg_none_of X G z10 }, rfl, rfl⟩
  refine ⟨PySem.W.fnOf "law" "law" (defArgs s_law) (defBody s_law) (defScope s_law) .none kV25 dc25 pm25 an25 cd25 ct25, fun s v => .of_eq rfl, fun base _ _ => ?_⟩
  rw [← e1, ← e2]
  exact all_go T
end
theorem sp_law_all (ns : List Int) (S : DH) (h : ns.length ≤ 63) : sp_law [.rol (ns.map D.int)] S (fun d _ => d = .bl true) fun _ _ _ => False := ⟨ns, rfl, h, fun _ => rfl⟩
theorem walk {l : PySem.W.OpenLaw} {q : Program} {loose : List Str} {XP : (Str → Option Value) → Heap → Prop} {YP : World → Heap → Prop} {d : DefRec} {K : Params → PySem.W.Frag} (hn : l.most = some 63) (hdf : d.params.defaults = []) (hY : ∀ (w : World) (h : Heap), YP w h → (K w.params).In h)
    (F : ∀ (w : World) (mg : Str → Option Value) (fa : Addr) (h : Heap), (K w.params).In h → h.Ns mainGlobals mg → mg d.name = some (.ref fa) →
      ∃ fd : FuncData, (∀ (s : Shared) (u : Value), BindsTo s fd ⟨[u], []⟩ [("_law_script", u)]) ∧ ∀ base : Heap, (K w.params).In base → base.Ns mainGlobals mg → DFn l.prog w (K w.params) mg base 9 fa fd ["_law_script"] sp_law) : PySem.W.WalkO q loose XP YP l.row.toRowW d [] (fun f vs => PySem.call f vs) :=
  dwalk (n := 63) (k := 9) hn (by decide) hdf ⟨rfl, by decide, by decide⟩ hY F fun ns S hl => sp_law_all ns S hl
end K30X
set_option maxRecDepth 100000
open PySem PySem.W PyProof.Rows
set_option maxRecDepth 100000 in
set_option maxHeartbeats 0 in
theorem K30X.row_holds : OpenRow.Holds (OpenLaw.row PySem.Challenge.rw_pathask_k30_what_is_a_machine) := by
  have hsaid := K30XS.said; k_headL; (case hw => w_witness2)
  k_fill
  as_aux_lemma =>
    refine K30X.walk (l := PySem.Challenge.rw_pathask_k30_what_is_a_machine) rfl rfl (fun w h Y => PySem.W.kIn_of Y) ?F
    case F =>
      intro w mg fa h KX G hmg
      refine' K30X.all_mk KX G hmg ?a0 ?l0 ?c0 ?k0 ?a1 ?l1 ?c1 ?k1 ?a2 ?l2 ?c2 ?k2 ?a3 ?l3 ?c3 ?k3 ?a4 ?l4 ?c4 ?k4 ?a5 ?l5 ?c5 ?k5 ?a6 ?l6 ?c6 ?k6 ?a7 ?l7 ?c7 ?k7 ?a8 ?l8 ?c8 ?k8 ?a9 ?l9 ?c9 ?k9 ?a10 ?l10 ?c10 ?k10 ?a11 ?l11 ?c11 ?k11 ?a12 ?l12 ?c12 ?k12 ?a13 ?l13 ?c13 ?k13 ?a14 ?l14 ?c14 ?k14 ?a15 ?l15 ?c15 ?k15 ?a16 ?l16 ?c16 ?k16 ?a17 ?l17 ?c17 ?k17 ?a18 ?l18 ?c18 ?k18 ?a19 ?l19 ?c19 ?k19 ?a20 ?l20 ?c20 ?k20 ?a21 ?l21 ?c21 ?k21 ?a22 ?l22 ?c22 ?k22 ?a23 ?l23 ?c23 ?k23 ?a24 ?l24 ?c24 ?k24 ?a25 ?l25 ?c25 ?k25 ?gt0 ?lt0 ?gt1 ?lt1 ?gg0 ?gg1 ?gg2 ?gg3 ?gg4 ?gg5 ?z0 ?z1 ?z2 ?z3 ?z4 ?z5 ?z6 ?z7 ?z8 ?z9 ?z10
      (case a0 => k_is); (case l0 => k_is); (case c0 => k_is); (case k0 => k_is)
      (case a1 => k_is); (case l1 => k_is); (case c1 => k_is); (case k1 => k_is)
      (case a2 => k_is); (case l2 => k_is); (case c2 => k_is); (case k2 => k_is)
      (case a3 => k_is); (case l3 => k_is); (case c3 => k_is); (case k3 => k_is)
      (case a4 => k_is); (case l4 => k_is); (case c4 => k_is); (case k4 => k_is)
      (case a5 => k_is); (case l5 => k_is); (case c5 => k_is); (case k5 => k_is)
      (case a6 => k_is); (case l6 => k_is); (case c6 => k_is); (case k6 => k_is)
      (case a7 => k_is); (case l7 => k_is); (case c7 => k_is); (case k7 => k_is)
      (case a8 => k_is); (case l8 => k_is); (case c8 => k_is); (case k8 => k_is)
      (case a9 => k_is); (case l9 => k_is); (case c9 => k_is); (case k9 => k_is)
      (case a10 => k_is); (case l10 => k_is); (case c10 => k_is); (case k10 => k_is)
      (case a11 => k_is); (case l11 => k_is); (case c11 => k_is); (case k11 => k_is)
      (case a12 => k_is); (case l12 => k_is); (case c12 => k_is); (case k12 => k_is)
      (case a13 => k_is); (case l13 => k_is); (case c13 => k_is); (case k13 => k_is)
      (case a14 => k_is); (case l14 => k_is); (case c14 => k_is); (case k14 => k_is)
      (case a15 => k_is); (case l15 => k_is); (case c15 => k_is); (case k15 => k_is)
      (case a16 => k_is); (case l16 => k_is); (case c16 => k_is); (case k16 => k_is)
      (case a17 => k_is); (case l17 => k_is); (case c17 => k_is); (case k17 => k_is)
      (case a18 => k_is); (case l18 => k_is); (case c18 => k_is); (case k18 => k_is)
      (case a19 => k_is); (case l19 => k_is); (case c19 => k_is); (case k19 => k_is)
      (case a20 => k_is); (case l20 => k_is); (case c20 => k_is); (case k20 => k_is)
      (case a21 => k_is); (case l21 => k_is); (case c21 => k_is); (case k21 => k_is)
      (case a22 => k_is); (case l22 => k_is); (case c22 => k_is); (case k22 => k_is)
      (case a23 => k_is); (case l23 => k_is); (case c23 => k_is); (case k23 => k_is)
      (case a24 => k_is); (case l24 => k_is); (case c24 => k_is); (case k24 => k_is)
      (case a25 => k_is); (case l25 => k_is); (case c25 => k_is); (case k25 => k_is)
      (case gt0 => k_is); (case lt0 => k_is); (case gt1 => k_is); (case lt1 => k_is)
      (case gg0 => k_is); (case gg1 => k_is); (case gg2 => k_is); (case gg3 => k_is)
      (case gg4 => k_is); (case gg5 => k_is); (case z0 => k_is); (case z1 => k_is)
      (case z2 => k_is); (case z3 => k_is); (case z4 => k_is); (case z5 => k_is)
      (case z6 => k_is); (case z7 => k_is); (case z8 => k_is); (case z9 => k_is)
      (case z10 => k_is)
set_option maxHeartbeats 0 in
theorem PySem.Challenge.cw_pathask_k30_what_is_a_machine_holds : PySem.Challenge.rw_pathask_k30_what_is_a_machine.Holds := by
  w_on; o_law
  exact K30X.row_holds
