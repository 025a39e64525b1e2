import PyProof.Rows.All
import Wide.All
import OpenK.AllK
import Wide.FinOn
import KE.OsRunLaw
import PyProof.EqAt
import PyProof.EqKinds
import PyProof.TupleCall
import HandS.Base
import HandS.Call
import HandS.List
import HandS.Comp
import HandS.Ends
import HandS.Dict
import HandS.Iter
import HandS.Text
import HandS.Words
import HandS.Exc
import HandS.ExcInit
import KE.KeyNested
import KE.KDictKeyed
import HandS.WordsDict
import HandS.TupAny
import HandS.TupLe
import HandS.Deep
import HandS.Wide
import HandS.IsInst
import HandS.More
import HandS.SetFor
import HandS.SortInts
import HandS.TupLen
import KE.SortData
import HandS.Set
import PyProof.Rows.SetFrom
import HandS.TupMul
import KE.DataCmp
import HandS.Remove
import HandS.TryOnly
import KE.KDictCopyH
import KE.KDictSum
import PyProof.WalksMore
import HandS.RaiseMore
import HandS.Rev
import HandS.Style
import KE.DataFind
import PyProof.ListNew
import HandS.HotCalls
import HandS.ExcField
import HandS.ExcIs
import HandS.ExcValue
import KE.KExcIs
import PyProof.ReprRoads
import KE.KDictPairs
import KE.KDictDisplayH
import PySem.Challenge.RW_pathask_k33_whole_every_web
set_option Elab.async false
set_option linter.all false
set_option maxRecDepth 100000
set_option maxHeartbeats 0
namespace K33XS
open PySem PySem.W PyProof.Rows
theorem look0 : (sreFenced (OpenLaw.row PySem.Challenge.rw_pathask_k33_whole_every_web).prog.main) = true := by decide +kernel
theorem look1 : (((moduleNames (OpenLaw.row PySem.Challenge.rw_pathask_k33_whole_every_web).prog.main.body).isEmpty || lookedIntoSs (moduleNames (OpenLaw.row PySem.Challenge.rw_pathask_k33_whole_every_web).prog.main.body) (OpenLaw.row PySem.Challenge.rw_pathask_k33_whole_every_web).prog.main.body)) = true := by decide +kernel
theorem look2 : (namesResolve (OpenLaw.row PySem.Challenge.rw_pathask_k33_whole_every_web).prog) = true := by decide +kernel
theorem look3 : ((OpenLaw.row PySem.Challenge.rw_pathask_k33_whole_every_web).prog.boundNames.all (fun n => !worldNames.contains n)) = true := by decide +kernel
theorem look4 : (noRoadLSs { strict := !(importedModules (OpenLaw.row PySem.Challenge.rw_pathask_k33_whole_every_web).prog.main.body).all cThrough.contains, foot := none, bare := (["vars", "dir", "locals"] : List Str).filter (readsOut (OpenLaw.row PySem.Challenge.rw_pathask_k33_whole_every_web).prog (OpenLaw.row PySem.Challenge.rw_pathask_k33_whole_every_web).prog.main.body) } (OpenLaw.row PySem.Challenge.rw_pathask_k33_whole_every_web).prog.main.body) = true := by decide +kernel
theorem look5 : (namesMeet (OpenLaw.row PySem.Challenge.rw_pathask_k33_whole_every_web).prog (OpenLaw.row PySem.Challenge.rw_pathask_k33_whole_every_web).prog.main.body fun _ n => attrL n) = true := by decide +kernel
theorem looks : looksOpen (OpenLaw.row PySem.Challenge.rw_pathask_k33_whole_every_web).prog = true := by
  unfold looksOpen
  rw [look0, look1, look2, look3, look4, look5]
  rfl
theorem said : (OpenLaw.row PySem.Challenge.rw_pathask_k33_whole_every_web).wellSaid = true := by
  unfold OpenRow.wellSaid OpenRow.partSaid
  rw [looks]
  simp only [Bool.and_eq_true]
  (repeat' (refine And.intro ?_ ?_)) <;> decide +kernel
end K33XS
set_option maxRecDepth 100000
set_option maxHeartbeats 4000000
/-! Dat1: the data layer's base. A value is a plain tree (a tuple is its items); lists, dicts, instances stand at
addresses of a data heap. Readings are over slots of such values and the data heap. -/
namespace Dt
open PySem PySem.Spec L2

/-! ### the abstract heap grows -/
/-- what values rest on -/
structure LeW (H H' : Hp) : Prop where
  tup : ∀ p xs, H p = some (.tup xs) → H' p = some (.tup xs)
  fl : ∀ p o xs, H p = some (.frz o (.lst xs)) → H' p = some (.frz o (.lst xs))
  ft : ∀ p o xs, H p = some (.frz o (.tup xs)) → H' p = some (.frz o (.tup xs))
structure LeH (H H' : Hp) : Prop where
  tup : ∀ p xs, H p = some (.tup xs) → H' p = some (.tup xs)
  fz : ∀ p o u, H p = some (.frz o u) → H' p = some (.frz o u)
theorem LeH.fl {H H' : Hp} (le : LeH H H') : ∀ p o xs, H p = some (.frz o (.lst xs)) → H' p = some (.frz o (.lst xs)) := fun p o xs h => le.fz p o _ h
theorem LeH.ft {H H' : Hp} (le : LeH H H') : ∀ p o xs, H p = some (.frz o (.tup xs)) → H' p = some (.frz o (.tup xs)) := fun p o xs h => le.fz p o _ h
theorem LeH.w {H H' : Hp} (le : LeH H H') : LeW H H' := ⟨le.tup, le.fl, le.ft⟩
theorem LeH.refl (H : Hp) : LeH H H := ⟨fun _ _ h => h, fun _ _ _ h => h⟩
theorem LeH.trans {H1 H2 H3 : Hp} (a : LeH H1 H2) (b : LeH H2 H3) : LeH H1 H3 :=
  ⟨fun p xs h => b.tup p xs (a.tup p xs h), fun p o xs h => b.fz p o xs (a.fz p o xs h)⟩
theorem LeH.new {H : Hp} {p : Addr} {o : HO} (h : H p = none) : LeH H (upd H p o) :=
  ⟨fun q xs e => by rw [upd_ne (ne_of_none e h)]; exact e, fun q u xs e => by rw [upd_ne (ne_of_none e h)]; exact e⟩
theorem LeH.put {H : Hp} {p : Addr} {o u : HO} (h : H p = some u) (m : Mut (some u)) : LeH H (upd H p o) := by
  have k : ∀ q v, H q = some v → ¬ Mut (some v) → q ≠ p := fun q v e n z => by
    subst z
    rw [h] at e
    cases e
    exact n m
  exact ⟨fun q xs e => by rw [upd_ne (k q _ e fun z => z)]; exact e, fun q u xs e => by rw [upd_ne (k q _ e fun z => z)]; exact e⟩

/-! ### data -/
inductive D where
  | non | bl (b : Bool) | int (i : Int) | str (x : Str) | tup (xs : List D) | rol (xs : List D) | ref (a : Addr)

/-- a list that is read alone, for good -/
def SqR (K : PySem.W.Frag) (H : Hp) (a : Addr) (xs : List V) : Prop :=
  (∃ o, H a = some (.frz o (.lst xs))) ∨
    ∃ (its : Array Value) (n : Nat), K.lookup a = some { cls := .type "list", data := .seq its n } ∧ its.size ≤ sizeLine ∧ Vals xs its.toList
theorem SqR.l {K : PySem.W.Frag} {H : Hp} {a : Addr} {xs : List V} (h : SqR K H a xs) : SqL K H a xs := h.elim (fun z => .inl (.inr z)) fun ⟨its, n, e, hz, r⟩ => .inr ⟨_, its, n, e, rfl, rfl, rfl, hz, r⟩
theorem SqR.le {K : PySem.W.Frag} {H H' : Hp} {a : Addr} {xs : List V} (le : LeH H H') (h : SqR K H a xs) : SqR K H' a xs :=
  h.elim (fun ⟨o, e⟩ => .inl ⟨o, le.fl _ _ _ e⟩) .inr
theorem sqT_le {K : PySem.W.Frag} {H H' : Hp} {a : Addr} {xs : List V} (le : LeH H H') (h : SqT K H a xs) : SqT K H' a xs := by
  rcases h with (h | ⟨o, h⟩) | h
  · exact .inl (.inl (le.tup _ _ h))
  · exact .inl (.inr ⟨o, le.ft _ _ _ h⟩)
  · exact .inr h

theorem SqR.leW {K : PySem.W.Frag} {H H' : Hp} {a : Addr} {xs : List V} (le : LeW H H') (h : SqR K H a xs) : SqR K H' a xs :=
  h.elim (fun ⟨o, e⟩ => .inl ⟨o, le.fl _ _ _ e⟩) .inr
theorem sqT_leW {K : PySem.W.Frag} {H H' : Hp} {a : Addr} {xs : List V} (le : LeW H H') (h : SqT K H a xs) : SqT K H' a xs := by
  rcases h with (h | ⟨o, h⟩) | h
  · exact .inl (.inl (le.tup _ _ h))
  · exact .inl (.inr ⟨o, le.ft _ _ _ h⟩)
  · exact .inr h

mutual
def RD (K : PySem.W.Frag) (H : Hp) : D → V → Prop
  | .non, v => v = .non
  | .bl b, v => v = .bl b
  | .int i, v => v = .int i
  | .str x, v => v = .str x
  | .tup ds, v => ∃ p xs, v = .ref p ∧ SqT K H p xs ∧ RDs K H ds xs
  | .rol ds, v => ∃ p xs, v = .ref p ∧ SqR K H p xs ∧ RDs K H ds xs
  | .ref a, v => v = .ref a
def RDs (K : PySem.W.Frag) (H : Hp) : List D → List V → Prop
  | [], vs => vs = []
  | d :: ds, vs => ∃ v r, vs = v :: r ∧ RD K H d v ∧ RDs K H ds r
end

section
variable {w : World} {K : PySem.W.Frag} {H H' : Hp}
mutual
theorem RD.le (le : LeH H H') : ∀ {d : D} {v : V}, RD K H d v → RD K H' d v
  | .non, _, h => h
  | .bl _, _, h => h
  | .int _, _, h => h
  | .str _, _, h => h
  | .tup ds, _, h => by
    obtain ⟨p, xs, e, t, r⟩ : ∃ p xs, _ = V.ref p ∧ SqT K H p xs ∧ RDs K H ds xs := h
    exact ⟨p, xs, e, sqT_le le t, RDs.le le r⟩
  | .rol ds, _, h => by
    obtain ⟨p, xs, e, t, r⟩ : ∃ p xs, _ = V.ref p ∧ SqR K H p xs ∧ RDs K H ds xs := h
    exact ⟨p, xs, e, t.le le, RDs.le le r⟩
  | .ref _, _, h => h
theorem RDs.le (le : LeH H H') : ∀ {ds : List D} {vs : List V}, RDs K H ds vs → RDs K H' ds vs
  | [], _, h => h
  | _ :: _, _, h => by
    obtain ⟨v, r, e, h1, h2⟩ := h
    exact ⟨v, r, e, RD.le le h1, RDs.le le h2⟩
end
mutual
theorem RD.leW (le : LeW H H') : ∀ {d : D} {v : V}, RD K H d v → RD K H' d v
  | .non, _, h => h
  | .bl _, _, h => h
  | .int _, _, h => h
  | .str _, _, h => h
  | .tup ds, _, h => by
    obtain ⟨p, xs, e, t, r⟩ : ∃ p xs, _ = V.ref p ∧ SqT K H p xs ∧ RDs K H ds xs := h
    exact ⟨p, xs, e, sqT_leW le t, RDs.leW le r⟩
  | .rol ds, _, h => by
    obtain ⟨p, xs, e, t, r⟩ : ∃ p xs, _ = V.ref p ∧ SqR K H p xs ∧ RDs K H ds xs := h
    exact ⟨p, xs, e, t.leW le, RDs.leW le r⟩
  | .ref _, _, h => h
theorem RDs.leW (le : LeW H H') : ∀ {ds : List D} {vs : List V}, RDs K H ds vs → RDs K H' ds vs
  | [], _, h => h
  | _ :: _, _, h => by
    obtain ⟨v, r, e, h1, h2⟩ := h
    exact ⟨v, r, e, RD.leW le h1, RDs.leW le h2⟩
end
theorem RDs.nil : RDs K H [] [] := rfl
theorem RDs.cons {d : D} {ds : List D} {v : V} {vs : List V} (a : RD K H d v) (b : RDs K H ds vs) : RDs K H (d :: ds) (v :: vs) := ⟨v, vs, rfl, a, b⟩
theorem RDs.length : ∀ {ds : List D} {vs : List V}, RDs K H ds vs → ds.length = vs.length
  | [], _, h => by cases h; rfl
  | _ :: ds, _, h => by
    obtain ⟨v, r, rfl, _, h2⟩ := h
    simp [RDs.length h2]
theorem RDs.get : ∀ {ds : List D} {vs : List V} {i : Nat} {d : D}, RDs K H ds vs → ds[i]? = some d → ∃ v, vs[i]? = some v ∧ RD K H d v
  | [], _, _, _, _, e => by simp at e
  | _ :: _, _, 0, _, h, e => by
    obtain ⟨v, r, rfl, h1, h2⟩ := h
    simp at e
    subst e
    exact ⟨v, rfl, h1⟩
  | _ :: ds, _, i + 1, _, h, e => by
    obtain ⟨v, r, rfl, h1, h2⟩ := h
    obtain ⟨u, e1, e2⟩ := RDs.get (i := i) h2 (by simpa using e)
    exact ⟨u, by simpa using e1, e2⟩
theorem RDs.got : ∀ {ds : List D} {vs : List V} {i : Nat} {v : V}, RDs K H ds vs → vs[i]? = some v → ∃ d, ds[i]? = some d ∧ RD K H d v
  | [], _, _, _, h, e => by cases h; simp at e
  | _ :: _, _, 0, _, h, e => by
    obtain ⟨v, r, rfl, h1, h2⟩ := h
    simp at e
    subst e
    exact ⟨_, rfl, h1⟩
  | _ :: ds, _, i + 1, _, h, e => by
    obtain ⟨v, r, rfl, h1, h2⟩ := h
    obtain ⟨u, e1, e2⟩ := RDs.got (i := i) h2 (by simpa using e)
    exact ⟨u, by simpa using e1, e2⟩
theorem RDs.append : ∀ {ds es : List D} {vs us : List V}, RDs K H ds vs → RDs K H es us → RDs K H (ds ++ es) (vs ++ us)
  | [], _, _, _, h, k => by cases h; exact k
  | _ :: _, _, _, _, h, k => by
    obtain ⟨v, r, rfl, h1, h2⟩ := h
    exact ⟨v, r ++ _, rfl, h1, RDs.append h2 k⟩
theorem RDs.snoc {ds : List D} {vs : List V} {d : D} {v : V} (h : RDs K H ds vs) (k : RD K H d v) : RDs K H (ds ++ [d]) (vs ++ [v]) := h.append (.cons k .nil)
theorem RDs.set : ∀ {ds : List D} {vs : List V} {d : D} {v : V} (i : Nat), RDs K H ds vs → RD K H d v → RDs K H (ds.set i d) (vs.set i v)
  | [], _, _, _, _, h, _ => by cases h; rfl
  | _ :: _, _, _, _, 0, h, k => by
    obtain ⟨v, r, rfl, h1, h2⟩ := h
    exact ⟨_, r, rfl, k, h2⟩
  | _ :: _, _, _, _, i + 1, h, k => by
    obtain ⟨v, r, rfl, h1, h2⟩ := h
    exact ⟨v, _, rfl, h1, RDs.set i h2 k⟩
theorem RDs.take : ∀ {ds : List D} {vs : List V} (n : Nat), RDs K H ds vs → RDs K H (ds.take n) (vs.take n)
  | [], _, _, h => by cases h; simp [RDs]
  | _ :: _, _, 0, h => by simp [RDs]
  | _ :: _, _, n + 1, h => by
    obtain ⟨v, r, rfl, h1, h2⟩ := h
    exact ⟨v, _, rfl, h1, RDs.take n h2⟩
theorem RDs.drop : ∀ {ds : List D} {vs : List V} (n : Nat), RDs K H ds vs → RDs K H (ds.drop n) (vs.drop n)
  | [], _, _, h => by cases h; simp [RDs]
  | _ :: _, _, 0, h => h
  | _ :: _, _, n + 1, h => by
    obtain ⟨v, r, rfl, h1, h2⟩ := h
    exact RDs.drop n h2
theorem RDs.reverse : ∀ {ds : List D} {vs : List V}, RDs K H ds vs → RDs K H ds.reverse vs.reverse
  | [], _, h => by cases h; rfl
  | _ :: _, _, h => by
    obtain ⟨v, r, rfl, h1, h2⟩ := h
    rw [List.reverse_cons, List.reverse_cons]
    exact (RDs.reverse h2).snoc h1
theorem RDs.dropLast : ∀ {ds : List D} {vs : List V}, RDs K H ds vs → RDs K H ds.dropLast vs.dropLast := fun {ds vs} h => by
  rw [List.dropLast_eq_take, List.dropLast_eq_take, h.length]
  exact h.take _
theorem RDs.eraseIdx : ∀ {ds : List D} {vs : List V} (n : Nat), RDs K H ds vs → RDs K H (ds.eraseIdx n) (vs.eraseIdx n)
  | [], _, _, h => by cases h; rfl
  | _ :: _, _, 0, h => by
    obtain ⟨v, r, rfl, h1, h2⟩ := h
    exact h2
  | _ :: _, _, n + 1, h => by
    obtain ⟨v, r, rfl, h1, h2⟩ := h
    exact ⟨v, _, rfl, h1, RDs.eraseIdx n h2⟩
theorem RDs.ints : ∀ {ns : List Int} {vs : List V}, RDs K H (ns.map D.int) vs ↔ vs = ns.map V.int
  | [], _ => Iff.rfl
  | n :: ns, vs => by
    constructor
    · rintro ⟨v, r, rfl, h1, h2⟩
      cases h1
      rw [RDs.ints.mp h2]
      rfl
    · rintro rfl
      exact ⟨_, _, rfl, rfl, RDs.ints.mpr rfl⟩
end

/-! ### tables -/
section
variable {κ α : Type} [DecidableEq κ]
def lk : List (κ × α) → κ → Option α
  | [], _ => none
  | (j, v) :: r, k => if j = k then some v else lk r k
def pt (l : List (κ × α)) (k : κ) (v : α) : List (κ × α) :=
  if (lk l k).isSome then l.map (fun q => if q.1 = k then (q.1, v) else q) else l ++ [(k, v)]
def dr (l : List (κ × α)) (k : κ) : List (κ × α) := l.filter fun q => decide (q.1 ≠ k)
end
def RKs {κ : Type} (K : PySem.W.Frag) (H : Hp) : List (κ × D) → List (κ × V) → Prop
  | [], ws => ws = []
  | (k, d) :: r, ws => ∃ v s, ws = (k, v) :: s ∧ RD K H d v ∧ RKs K H r s
section
variable {w : World} {K : PySem.W.Frag} {H H' : Hp} {κ : Type}
theorem RKs.le (le : LeH H H') : ∀ {kvs : List (κ × D)} {ws : List (κ × V)}, RKs K H kvs ws → RKs K H' kvs ws
  | [], _, h => h
  | (_, _) :: _, _, h => by
    obtain ⟨v, r, e, h1, h2⟩ := h
    exact ⟨v, r, e, h1.le le, RKs.le le h2⟩
theorem RKs.leW (le : LeW H H') : ∀ {kvs : List (κ × D)} {ws : List (κ × V)}, RKs K H kvs ws → RKs K H' kvs ws
  | [], _, h => h
  | (_, _) :: _, _, h => by
    obtain ⟨v, r, e, h1, h2⟩ := h
    exact ⟨v, r, e, h1.leW le, RKs.leW le h2⟩
theorem RKs.length : ∀ {kvs : List (κ × D)} {ws : List (κ × V)}, RKs K H kvs ws → kvs.length = ws.length
  | [], _, h => by cases h; rfl
  | (_, _) :: _, _, h => by
    obtain ⟨v, r, rfl, h1, h2⟩ := h
    simp [RKs.length h2]
theorem RKs.append : ∀ {kvs ls : List (κ × D)} {ws us : List (κ × V)}, RKs K H kvs ws → RKs K H ls us → RKs K H (kvs ++ ls) (ws ++ us)
  | [], _, _, _, h, k => by cases h; exact k
  | (_, _) :: _, _, _, _, h, k => by
    obtain ⟨v, r, rfl, h1, h2⟩ := h
    exact ⟨v, r ++ _, rfl, h1, RKs.append h2 k⟩
theorem RKs.get : ∀ {kvs : List (κ × D)} {ws : List (κ × V)} {i : Nat} {k : κ} {v : V}, RKs K H kvs ws → ws[i]? = some (k, v) → ∃ d, kvs[i]? = some (k, d) ∧ RD K H d v
  | [], _, _, _, _, h, e => by cases h; simp at e
  | (_, _) :: _, _, 0, _, _, h, e => by
    obtain ⟨v, r, rfl, h1, h2⟩ := h
    simp at e
    obtain ⟨rfl, rfl⟩ := e
    exact ⟨_, rfl, h1⟩
  | (_, _) :: _, _, i + 1, _, _, h, e => by
    obtain ⟨v, r, rfl, h1, h2⟩ := h
    obtain ⟨u, e1, e2⟩ := RKs.get (i := i) h2 (by simpa using e)
    exact ⟨u, by simpa using e1, e2⟩
variable [DecidableEq κ]
theorem RKs.lk : ∀ {kvs : List (κ × D)} {ws : List (κ × V)} (k : κ), RKs K H kvs ws → match Dt.lk kvs k, valV ws k with | some d, some v => RD K H d v | none, none => True | _, _ => False
  | [], _, k, h => by cases h; simp [Dt.lk, valV]
  | (j, d) :: r, _, k, h => by
    obtain ⟨v, s, rfl, h1, h2⟩ := h
    by_cases e : j = k
    · rw [valV_pos e]
      simp [Dt.lk, e, h1]
    · rw [valV_neg e]
      simp only [Dt.lk, if_neg e]
      exact RKs.lk k h2
theorem RKs.nn {kvs : List (κ × D)} {ws : List (κ × V)} {k : κ} (h : RKs K H kvs ws) (e : Dt.lk kvs k = none) : valV ws k = none := by
  have := h.lk k
  rw [e] at this
  cases q : valV ws k with
  | none => rfl
  | some v => rw [q] at this; exact this.elim
theorem RKs.ss {kvs : List (κ × D)} {ws : List (κ × V)} {k : κ} {d : D} (h : RKs K H kvs ws) (e : Dt.lk kvs k = some d) : ∃ v, valV ws k = some v ∧ RD K H d v := by
  have := h.lk k
  rw [e] at this
  cases q : valV ws k with
  | none => rw [q] at this; exact this.elim
  | some v => rw [q] at this; exact ⟨v, rfl, this⟩
theorem RKs.isSome {kvs : List (κ × D)} {ws : List (κ × V)} (k : κ) (h : RKs K H kvs ws) : (valV ws k).isSome = (Dt.lk kvs k).isSome := by
  cases e : Dt.lk kvs k with
  | none => rw [h.nn e]; rfl
  | some d =>
    obtain ⟨v, q, _⟩ := h.ss e
    rw [q]
    rfl
theorem RKs.mapv {k : κ} {d : D} {v : V} (rv : RD K H d v) : ∀ {kvs : List (κ × D)} {ws : List (κ × V)}, RKs K H kvs ws →
    RKs K H (kvs.map fun q => if q.1 = k then (q.1, d) else q) (ws.map fun q => if q.1 = k then (q.1, v) else q)
  | [], _, h => by cases h; rfl
  | (j, _) :: _, _, h => by
    obtain ⟨w, s, rfl, h1, h2⟩ := h
    by_cases e : j = k
    · simp only [List.map_cons, if_pos e]
      exact ⟨v, _, rfl, rv, RKs.mapv rv h2⟩
    · simp only [List.map_cons, if_neg e]
      exact ⟨w, _, rfl, h1, RKs.mapv rv h2⟩
theorem RKs.pt {kvs : List (κ × D)} {ws : List (κ × V)} {k : κ} {d : D} {v : V} (h : RKs K H kvs ws) (rv : RD K H d v) : RKs K H (Dt.pt kvs k d) (putK ws k v) := by
  unfold Dt.pt putK
  rw [valV_any, h.isSome k]
  split
  · exact RKs.mapv rv h
  · exact h.append ⟨v, [], rfl, rv, rfl⟩
theorem RKs.dr {k : κ} : ∀ {kvs : List (κ × D)} {ws : List (κ × V)}, RKs K H kvs ws → RKs K H (Dt.dr kvs k) (dropK ws k)
  | [], _, h => by cases h; rfl
  | (j, _) :: _, _, h => by
    obtain ⟨w, s, rfl, h1, h2⟩ := h
    unfold Dt.dr dropK
    by_cases e : j = k
    · simp only [List.filter_cons, decide_eq_true_eq, ne_eq, e, not_true, decide_false, Bool.false_eq_true, if_false]
      exact RKs.dr h2
    · simp only [List.filter_cons, decide_eq_true_eq, ne_eq, e, not_false_eq_true, decide_true, if_true]
      exact ⟨w, _, rfl, h1, RKs.dr h2⟩
end

/-! ### data may be told apart -/
mutual
def deq : D → D → Bool
  | .non, .non => true
  | .bl a, .bl b => decide (a = b)
  | .int a, .int b => decide (a = b)
  | .str a, .str b => decide (a = b)
  | .tup a, .tup b => deqs a b
  | .rol a, .rol b => deqs a b
  | .ref a, .ref b => decide (a = b)
  | _, _ => false
def deqs : List D → List D → Bool
  | [], [] => true
  | a :: as, b :: bs => deq a b && deqs as bs
  | _, _ => false
end
mutual
theorem deq_self : ∀ a : D, deq a a = true
  | .non => rfl
  | .bl a => by simp [deq]
  | .int a => by simp [deq]
  | .str a => by simp [deq]
  | .tup a => by rw [deq]; exact deqs_self a
  | .rol a => by rw [deq]; exact deqs_self a
  | .ref a => by simp [deq]
theorem deqs_self : ∀ a : List D, deqs a a = true
  | [] => rfl
  | a :: as => by rw [deqs, deq_self a, deqs_self as]; rfl
end
mutual
theorem of_deq : ∀ a b : D, deq a b = true → a = b
  | .non, b, h => by cases b <;> simp [deq] at h; rfl
  | .bl a, b, h => by cases b <;> simp [deq] at h; rw [h]
  | .int a, b, h => by cases b <;> simp [deq] at h; rw [h]
  | .str a, b, h => by cases b <;> simp [deq] at h; rw [h]
  | .tup a, b, h => by
    cases b <;> simp [deq] at h
    rw [of_deqs a _ h]
  | .rol a, b, h => by
    cases b <;> simp [deq] at h
    rw [of_deqs a _ h]
  | .ref a, b, h => by cases b <;> simp [deq] at h; rw [h]
theorem of_deqs : ∀ a b : List D, deqs a b = true → a = b
  | [], b, h => by cases b <;> simp [deqs] at h; rfl
  | x :: xs, b, h => by
    cases b with
    | nil => simp [deqs] at h
    | cons y ys =>
      simp [deqs] at h
      rw [of_deq x y h.1, of_deqs xs ys h.2]
end
instance : DecidableEq D := fun a b => if h : deq a b = true then .isTrue (of_deq a b h) else .isFalse fun e => h (e ▸ deq_self a)
/-! ### keys that are tuples -/
mutual
def nkey : D → Option NestedKey
  | .non => some .none
  | .int i => some (.num i)
  | .str x => some (.text x)
  | .tup ds => match nkeys ds with | some ks => some (.tup ks) | none => none
  | _ => none
def nkeys : List D → Option (List NestedKey)
  | [] => some []
  | d :: ds => match nkey d, nkeys ds with | some k, some ks => some (k :: ks) | _, _ => none
end
mutual
theorem nkey_inj : ∀ (a b : D) (k : NestedKey), nkey a = some k → nkey b = some k → a = b
  | .non, b, k, h, h' => by
    simp only [nkey, Option.some.injEq] at h
    subst h
    cases b with
    | tup ds => simp only [nkey] at h'; split at h' <;> cases h'
    | non => rfl
    | _ => simp [nkey] at h'
  | .int i, b, k, h, h' => by
    simp only [nkey, Option.some.injEq] at h
    subst h
    cases b with
    | tup ds => simp only [nkey] at h'; split at h' <;> cases h'
    | int j => simp [nkey] at h'; rw [h']
    | _ => simp [nkey] at h'
  | .str i, b, k, h, h' => by
    simp only [nkey, Option.some.injEq] at h
    subst h
    cases b with
    | tup ds => simp only [nkey] at h'; split at h' <;> cases h'
    | str j => simp [nkey] at h'; rw [h']
    | _ => simp [nkey] at h'
  | .tup ds, b, k, h, h' => by
    simp only [nkey] at h
    split at h
    · rename_i ks e
      cases h
      cases b with
      | tup es =>
        simp only [nkey] at h'
        split at h'
        · rename_i ks' e'
          cases h'
          rw [nkeys_inj ds es _ e e']
        · cases h'
      | _ => simp [nkey] at h'
    · cases h
  | .bl _, _, _, h, _ => by simp [nkey] at h
  | .rol _, _, _, h, _ => by simp [nkey] at h
  | .ref _, _, _, h, _ => by simp [nkey] at h
theorem nkeys_inj : ∀ (a b : List D) (k : List NestedKey), nkeys a = some k → nkeys b = some k → a = b
  | [], b, k, h, h' => by
    simp only [nkeys, Option.some.injEq] at h
    subst h
    cases b with
    | nil => rfl
    | cons y ys => simp only [nkeys] at h'; split at h' <;> cases h'
  | x :: xs, b, k, h, h' => by
    simp only [nkeys] at h
    split at h
    · rename_i k1 ks e1 e2
      cases h
      cases b with
      | nil => simp [nkeys] at h'
      | cons y ys =>
        simp only [nkeys] at h'
        split at h'
        · rename_i k2 ks2 f1 f2
          cases h'
          rw [nkey_inj x y _ e1 f1, nkeys_inj xs ys _ e2 f2]
        · cases h'
    · cases h
end
/-- a dict's rows as they lie: the key, its address, the value -/
def RawRows (w : World) (rows : List (NestedKey × Addr × V)) (a : Addr) (h : Heap) : Prop := (a == sysModules) = false ∧ ∃ o es ep, h.get? a = some o ∧ o.ExactDict ∧ o.data = .dict es ep ∧
  Paired (fun (r : NestedKey × Addr × V) (e : DictEntry) => e.hash = r.1.hash w ∧ e.key = .ref r.2.1 ∧ RelV r.2.2 e.val) rows es.toList
abbrev dnHO (w : World) (rows : List (NestedKey × Addr × V)) (a : Addr) : HO := .ext (RawRows w rows a)
/-- rows beside keys and values -/
def RRows (K : PySem.W.Frag) (H : Hp) : List (D × D) → List (NestedKey × Addr × V) → Prop
  | [], rows => rows = []
  | (k, d) :: r, rows => ∃ nk b v s, rows = (nk, b, v) :: s ∧ nkey k = some nk ∧ nk.depth ≤ 8 ∧ RD K H k (.ref b) ∧ RD K H d v ∧ RRows K H r s
theorem RRows.le {K : PySem.W.Frag} {H H' : Hp} (le : LeH H H') : ∀ {kvs : List (D × D)} {rows : List (NestedKey × Addr × V)}, RRows K H kvs rows → RRows K H' kvs rows
  | [], _, h => h
  | (_, _) :: _, _, ⟨nk, b, v, s, e, e1, e2, r1, r2, h⟩ => ⟨nk, b, v, s, e, e1, e2, r1.le le, r2.le le, RRows.le le h⟩
theorem RRows.leW {K : PySem.W.Frag} {H H' : Hp} (le : LeW H H') : ∀ {kvs : List (D × D)} {rows : List (NestedKey × Addr × V)}, RRows K H kvs rows → RRows K H' kvs rows
  | [], _, h => h
  | (_, _) :: _, _, ⟨nk, b, v, s, e, e1, e2, r1, r2, h⟩ => ⟨nk, b, v, s, e, e1, e2, r1.leW le, r2.leW le, RRows.leW le h⟩
/-! ### the data heap -/
inductive Ob where
  | lst (xs : List D) | dK (kvs : List (Key × D)) | dN (kvs : List (D × D)) | ins (C : Addr) (fs : List (Str × D))
  | exc (C dd : Addr) | xd (fs : List (Str × D)) | ex0 (C : Addr) | ex1 (C dx : Addr) | xm (fs : List (Str × D))
  | fK (kvs : List (Key × D)) | fN (kvs : List (D × D))
abbrev DH := Addr → Option Ob
def upo (S : DH) (a : Addr) (o : Ob) : DH := fun b => if b = a then some o else S b
@[simp] theorem upo_same {S : DH} {a : Addr} {o : Ob} : upo S a o a = some o := if_pos rfl
theorem upo_ne {S : DH} {a b : Addr} {o : Ob} (h : b ≠ a) : upo S a o b = S b := if_neg h
@[simp] theorem upo_upo {S : DH} {a : Addr} {o u : Ob} : upo (upo S a o) a u = upo S a u := by
  funext b
  unfold upo
  split <;> rfl
/-- a new object o: p its address, the heap with it -/
def newO (S : DH) (o : Ob) (Q : Addr → DH → Prop) : Prop := ∀ p, S p = none → Q p (upo S p o)
/-- an exception: its class, where its fields lie -/
def excP (C dd a : Addr) (h : Heap) : Prop := ∃ (oe : Obj) (vs : Array Value), h.get? a = some oe ∧ oe.cls = .ref C ∧ oe.dict = some dd ∧ oe.data = .fields vs
abbrev excHO (C dd a : Addr) : HO := .ext (excP C dd a)
def ROb (w : World) (K : PySem.W.Frag) (H : Hp) (a : Addr) : Ob → Prop
  | .lst ds => ∃ xs, H a = some (.lst xs) ∧ RDs K H ds xs
  | .dK kvs => ∃ ws, H a = some (.dK ws) ∧ RKs K H kvs ws
  | .dN kvs => ∃ rows, H a = some (dnHO w rows a) ∧ kvs.length ≤ sizeLine ∧ (kvs.map (·.1)).Nodup ∧ RRows K H kvs rows
  | .ins C fs => ∃ dx ws, H a = some (.ins C dx ws) ∧ RKs K H fs ws
  | .exc C dd => H a = some (excHO C dd a)
  | .xd fs => ∃ ws, H a = some (.xd ws) ∧ RKs K H fs ws
  | .ex0 C => H a = some (exo a C none)
  | .ex1 C dx => H a = some (exo a C (some dx))
  | .xm fs => ∃ ws, H a = some (exd a ws) ∧ RKs K H fs ws
  | .fK kvs => ∃ ws, (∃ o, H a = some (.frz o (.dK ws))) ∧ RKs K H kvs ws
  | .fN kvs => ∃ rows, (∃ o, H a = some (.frz o (dnHO w rows a))) ∧ kvs.length ≤ sizeLine ∧ (kvs.map (·.1)).Nodup ∧ RRows K H kvs rows
def Rep (w : World) (K : PySem.W.Frag) (S : DH) (H : Hp) : Prop := ∀ a o, S a = some o → ROb w K H a o
section
variable {w : World} {K : PySem.W.Frag} {H H' : Hp} {S : DH} {a p : Addr} {o : Ob}
theorem ROb.mut (h : ROb w K H a o) : ∃ u, H a = some u ∧ True := by
  cases o with
  | lst _ => obtain ⟨xs, e, _⟩ := h; exact ⟨_, e, trivial⟩
  | dK _ => obtain ⟨xs, e, _⟩ := h; exact ⟨_, e, trivial⟩
  | dN _ => obtain ⟨xs, e, _⟩ := h; exact ⟨_, e, trivial⟩
  | ins _ _ => obtain ⟨dx, xs, e, _⟩ := h; exact ⟨_, e, trivial⟩
  | exc _ _ => exact ⟨_, h, trivial⟩
  | ex0 _ => exact ⟨_, h, trivial⟩
  | ex1 _ _ => exact ⟨_, h, trivial⟩
  | xd _ => obtain ⟨xs, e, _⟩ := h; exact ⟨_, e, trivial⟩
  | xm _ => obtain ⟨xs, e, _⟩ := h; exact ⟨_, e, trivial⟩
  | fK _ => obtain ⟨xs, ⟨o, e⟩, _⟩ := h; exact ⟨_, e, trivial⟩
  | fN _ => obtain ⟨xs, ⟨o, e⟩, _⟩ := h; exact ⟨_, e, trivial⟩
theorem ROb.at (h : ROb w K H a o) (le : LeH H H') (e : H' a = H a) : ROb w K H' a o := by
  cases o with
  | lst _ => obtain ⟨xs, q, r⟩ := h; exact ⟨xs, e.trans q, r.le le⟩
  | dK _ => obtain ⟨xs, q, r⟩ := h; exact ⟨xs, e.trans q, r.le le⟩
  | dN _ => obtain ⟨xs, q, l, n, r⟩ := h; exact ⟨xs, e.trans q, l, n, r.le le⟩
  | ins _ _ => obtain ⟨dx, xs, q, r⟩ := h; exact ⟨dx, xs, e.trans q, r.le le⟩
  | exc _ _ => exact e.trans h
  | ex0 _ => exact e.trans h
  | ex1 _ _ => exact e.trans h
  | xd _ => obtain ⟨xs, q, r⟩ := h; exact ⟨xs, e.trans q, r.le le⟩
  | xm _ => obtain ⟨xs, q, r⟩ := h; exact ⟨xs, e.trans q, r.le le⟩
  | fK _ => obtain ⟨xs, ⟨o, q⟩, r⟩ := h; exact ⟨xs, ⟨o, e.trans q⟩, r.le le⟩
  | fN _ => obtain ⟨xs, ⟨o, q⟩, l, n, r⟩ := h; exact ⟨xs, ⟨o, e.trans q⟩, l, n, r.le le⟩
theorem Rep.free (r : Rep w K S H) (h : H p = none) : S p = none := by
  cases e : S p with
  | none => rfl
  | some o =>
    obtain ⟨u, q, _⟩ := (r p o e).mut
    rw [h] at q
    cases q
/-- a new object that the data heap does not tell -/
theorem Rep.garb {u : HO} (r : Rep w K S H) (h : H p = none) : Rep w K S (upd H p u) := fun b o e => by
  obtain ⟨v, q, _⟩ := (r b o e).mut
  exact (r b o e).at (LeH.new h) (upd_ne (ne_of_none q h))
theorem Rep.new {u : HO} (r : Rep w K S H) (h : H p = none) (n : ROb w K (upd H p u) p o) : Rep w K (upo S p o) (upd H p u) := fun b ob e => by
  by_cases z : b = p
  · subst z
    rw [upo_same] at e
    cases e
    exact n
  · rw [upo_ne z] at e
    exact (r b ob e).at (LeH.new h) (upd_ne z)
theorem Rep.put {u v : HO} (r : Rep w K S H) (h : H p = some v) (m : Mut (some v)) (n : ROb w K (upd H p u) p o) : Rep w K (upo S p o) (upd H p u) := fun b ob e => by
  by_cases z : b = p
  · subst z
    rw [upo_same] at e
    cases e
    exact n
  · rw [upo_ne z] at e
    exact (r b ob e).at (LeH.put h m) (upd_ne z)
end

def opt {α : Type} (o : Option α) (k : α → Prop) : Prop := match o with | some x => k x | none => False
@[simp] theorem opt_some {α : Type} (x : α) (k : α → Prop) : opt (some x) k = k x := rfl
@[simp] theorem opt_none {α : Type} (k : α → Prop) : opt none k = False := rfl
theorem opt_mono {α : Type} {o : Option α} {k k' : α → Prop} (h : ∀ x, k x → k' x) (q : opt o k) : opt o k' := by
  cases o with
  | none => exact q
  | some x => exact h x q
theorem opt_ex {α : Type} {o : Option α} {k : α → Prop} (q : opt o k) : ∃ x, o = some x ∧ k x := by
  cases o with
  | none => exact q.elim
  | some x => exact ⟨x, rfl, q⟩
/-- the items of a list -/
def seqD (S : DH) (d : D) : Option (List D) := match d with
  | .rol xs => some xs
  | .ref a => (match S a with | some (.lst xs) => some xs | _ => none)
  | _ => none
section
variable {S : DH}
@[simp] theorem seqD_rol (xs : List D) : seqD S (.rol xs) = some xs := rfl
@[simp] theorem seqD_ref (a : Addr) : seqD S (.ref a) = (match S a with | some (.lst xs) => some xs | _ => none) := rfl
@[simp] theorem seqD_tup (xs : List D) : seqD S (.tup xs) = none := rfl
@[simp] theorem seqD_str (xs : Str) : seqD S (.str xs) = none := rfl
@[simp] theorem seqD_int (xs : Int) : seqD S (.int xs) = none := rfl
@[simp] theorem seqD_non : seqD S .non = none := rfl
@[simp] theorem seqD_bl (b : Bool) : seqD S (.bl b) = none := rfl
end
/-- a list of ours, written or not -/
def SqX (K : PySem.W.Frag) (H : Hp) (a : Addr) (xs : List V) : Prop := H a = some (.lst xs) ∨ SqR K H a xs
theorem SqX.l {K : PySem.W.Frag} {H : Hp} {a : Addr} {xs : List V} (h : SqX K H a xs) : SqL K H a xs := h.elim (fun z => .inl (.inl z)) SqR.l
theorem seqD_rd {w : World} {K : PySem.W.Frag} {S : DH} {H : Hp} {d : D} {v : V} {ds : List D} (rep : Rep w K S H) (rd : RD K H d v) (e : seqD S d = some ds) : ∃ a xs, v = .ref a ∧ SqX K H a xs ∧ RDs K H ds xs := by
  cases d with
  | rol xs =>
    cases e
    obtain ⟨p, ys, rfl, sq, rs⟩ : ∃ p xs, v = V.ref p ∧ SqR K H p xs ∧ RDs K H ds xs := rd
    exact ⟨p, ys, rfl, .inr sq, rs⟩
  | ref a =>
    simp only [seqD_ref] at e
    split at e
    · rename_i xs ea
      cases e
      obtain ⟨ys, e0, rs⟩ : ∃ ys, H a = some (.lst ys) ∧ RDs K H ds ys := rep a _ ea
      exact ⟨a, ys, rd, .inl e0, rs⟩
    · cases e
  | _ => simp at e
theorem sqX_get {X : Cx} {pins : List (Addr × Obj)} {σ : L2.St} {H : Hp} {s : Shared} {a : Addr} {xs : List V} (I : Inv X pins σ H s) (h : SqX X.K H a xs) :
    ∃ (its : List Value) (n : Nat), Vals xs its ∧ xs.length ≤ sizeLine ∧ xs.length = its.length ∧ s.heap.get? a = some { cls := .type "list", data := .seq its.toArray n } := by
  rcases h with h | ⟨o, h⟩ | ⟨its, n, h, hz, r⟩
  · obtain ⟨z, its, n, r, e⟩ := I.hok a _ h
    exact ⟨its, n, r, z, r.length, e⟩
  · obtain ⟨_, z, its, n, r, e⟩ := I.hok a _ h
    exact ⟨its, n, r, z, r.length, e⟩
  · exact ⟨its.toList, n, r, by rw [r.length, Array.length_toList]; exact hz, r.length, by simpa using I.kIn a _ h⟩
def catD (S : DH) (d e : D) (k : List D → Prop) : Prop := opt (seqD S d) fun xs => opt (seqD S e) fun ys => xs.length + ys.length ≤ sizeLine ∧ k (xs ++ ys)
/-! ### slots -/
abbrev DSt := List (Option D)
abbrev DK := D → DH → Prop
/-- what is wanted of an exception: its class, its fields, the slots, the heap -/
abbrev DW := Addr → List (Str × D) → DSt → DH → Prop
abbrev DTE := DW → DSt → DH → DK → Prop
abbrev DTT := DW → DSt → DH → (Bool → DH → Prop) → Prop
abbrev DTA := DW → DSt → DH → (List D → DH → Prop) → Prop
structure RSt (K : PySem.W.Frag) (H : Hp) (τ : DSt) (σ : St) : Prop where
  len : τ.length = σ.length
  get : ∀ (i : Nat) d, τ[i]? = some (some d) → ∃ v, σ[i]? = some (some v) ∧ RD K H d v
structure Rel (w : World) (K : PySem.W.Frag) (τ : DSt) (S : DH) (σ : St) (H : Hp) : Prop where
  st : RSt K H τ σ
  rep : Rep w K S H
theorem RSt.le {K : PySem.W.Frag} {H H' : Hp} {τ : DSt} {σ : St} (le : LeH H H') (r : RSt K H τ σ) : RSt K H' τ σ := ⟨r.len, fun i d e => by
  obtain ⟨v, q, rv⟩ := r.get i d e
  exact ⟨v, q, rv.le le⟩⟩
theorem RSt.set {K : PySem.W.Frag} {H : Hp} {τ : DSt} {σ : St} (r : RSt K H τ σ) (i : Nat) {d : D} {v : V} (rv : RD K H d v) : RSt K H (τ.set i (some d)) (σ.set i (some v)) := by
  refine ⟨by simp [r.len], fun j e h => ?_⟩
  rw [List.getElem?_set] at h ⊢
  by_cases z : i = j
  · subst z
    rw [if_pos rfl] at h
    rw [if_pos rfl]
    by_cases l : i < τ.length
    · rw [if_pos l] at h
      cases h
      rw [if_pos (by rw [← r.len]; exact l)]
      exact ⟨v, rfl, rv⟩
    · rw [if_neg l] at h
      cases h
  · rw [if_neg z] at h
    rw [if_neg z]
    exact r.get j e h
theorem Rel.le {w : World} {K : PySem.W.Frag} {H H' : Hp} {τ : DSt} {S S' : DH} {σ : St} (r : Rel w K τ S σ H) (le : LeH H H') (h : Rep w K S' H') : Rel w K τ S' σ H' := ⟨r.st.le le, h⟩

/-! ### wishes, lifts -/
def upW (w : World) (K : PySem.W.Frag) (E : DW) (H0 : Hp) : WX := fun cls d σ H => ∃ (C : Addr) (fs : List (Str × D)) (τ : DSt) (S : DH) (dd : Addr) (ws : List (Str × V)),
  cls = .ref C ∧ d = some dd ∧ LeH H0 H ∧ Rel w K τ S σ H ∧ H dd = some (.xd ws) ∧ RKs K H fs ws ∧ S dd = none ∧ E C fs τ S
theorem upW.imp {w : World} {K : PySem.W.Frag} {E E' : DW} {H0 H1 : Hp} (le : LeH H0 H1) (k : ∀ C fs τ S, E C fs τ S → E' C fs τ S) {cls : Value} {d : Option Addr} {σ : St} {H : Hp} (h : upW w K E H1 cls d σ H) : upW w K E' H0 cls d σ H := by
  obtain ⟨C, fs, τ, S, dd, ws, e1, e2, l, r, x, y, z, q⟩ := h
  exact ⟨C, fs, τ, S, dd, ws, e1, e2, le.trans l, r, x, y, z, k _ _ _ _ q⟩
def Wish (X : Cx) (E : DW) (H0 : Hp) : Prop := Takes X (upW X.w X.K E H0)
theorem Wish.le {X : Cx} {E : DW} {H0 H1 : Hp} (w : Wish X E H0) (le : LeH H0 H1) : Wish X E H1 := Takes.imp w fun _ _ _ _ h => upW.imp le (fun _ _ _ _ q => q) h
abbrev DW0 : DW := fun _ _ _ _ => False
theorem wish0 {X : Cx} {H0 : Hp} : Wish X DW0 H0 := fun u s' ⟨a, B, sI, pins, σ, H, cls, d, e, I, nb, up, sky, na, os, ag, w⟩ => by
  obtain ⟨_, _, _, _, _, _, _, _, _, _, _, _, _, q⟩ := w
  exact q.elim

def upE (X : Cx) (t : DTE) : TE := fun σ H Q => ∃ E τ S, Wish X E H ∧ Rel X.w X.K τ S σ H ∧ t E τ S fun d S' => ∀ v H', LeH H H' → Rep X.w X.K S' H' → RD X.K H' d v → Q v H'
def upT (X : Cx) (t : DTT) : TT := fun σ H Q => ∃ E τ S, Wish X E H ∧ Rel X.w X.K τ S σ H ∧ t E τ S fun b S' => ∀ H', LeH H H' → Rep X.w X.K S' H' → Q b H'
def upA (X : Cx) (t : DTA) : TA := fun σ H Q => ∃ E τ S, Wish X E H ∧ Rel X.w X.K τ S σ H ∧ t E τ S fun ds S' => ∀ vs H', LeH H H' → Rep X.w X.K S' H' → RDs X.K H' ds vs → Q vs H'
structure DE (X : Cx) (e : Expr) (t : DTE) : Prop where
  mono : ∀ (E E' : DW) τ S (Q Q' : DK), (∀ C fs τ S, E C fs τ S → E' C fs τ S) → (∀ d S', Q d S' → Q' d S') → t E τ S Q → t E' τ S Q'
  run : PE X e (upE X t)
structure DT (X : Cx) (e : Expr) (t : DTT) : Prop where
  mono : ∀ (E E' : DW) τ S (Q Q' : Bool → DH → Prop), (∀ C fs τ S, E C fs τ S → E' C fs τ S) → (∀ d S', Q d S' → Q' d S') → t E τ S Q → t E' τ S Q'
  run : PT X e (upT X t)
structure DWt (X : Cx) (e : Expr) (t : DTT) : Prop where
  mono : ∀ (E E' : DW) τ S (Q Q' : Bool → DH → Prop), (∀ C fs τ S, E C fs τ S → E' C fs τ S) → (∀ d S', Q d S' → Q' d S') → t E τ S Q → t E' τ S Q'
  run : PW X e (upT X t)
structure DA (X : Cx) (es : List Expr) (t : DTA) : Prop where
  mono : ∀ (E E' : DW) τ S (Q Q' : List D → DH → Prop), (∀ C fs τ S, E C fs τ S → E' C fs τ S) → (∀ d S', Q d S' → Q' d S') → t E τ S Q → t E' τ S Q'
  run : PA X es (upA X t)
theorem pE_imp {X : Cx} {e : Expr} {t t' : TE} (h : PE X e t) (k : ∀ σ H Q, t' σ H Q → t σ H Q) : PE X e t' := ⟨fun pins s σ H Q I q => h.run pins s σ H Q I (k σ H Q q)⟩
theorem pT_imp {X : Cx} {e : Expr} {t t' : TT} (h : PT X e t) (k : ∀ σ H Q, t' σ H Q → t σ H Q) : PT X e t' := ⟨fun pins s σ H Q I q => h.run pins s σ H Q I (k σ H Q q)⟩
theorem pW_imp {X : Cx} {e : Expr} {t t' : TT} (h : PW X e t) (k : ∀ σ H Q, t' σ H Q → t σ H Q) : PW X e t' := ⟨fun wh pins s σ H Q I q => h.run wh pins s σ H Q I (k σ H Q q)⟩
theorem pA_imp {X : Cx} {e : List Expr} {t t' : TA} (h : PA X e t) (k : ∀ σ H Q, t' σ H Q → t σ H Q) : PA X e t' := ⟨fun pos pins s σ H Q I q => h.run pos pins s σ H Q I (k σ H Q q)⟩
theorem pS_imp {X : Cx} {e : Stmt} {t t' : TS} (h : PS X e t) (k : ∀ D σ H, t' D σ H → t D σ H) : PS X e t' := ⟨fun pins s σ H D I q => h.run pins s σ H D I (k D σ H q)⟩
theorem pSs_imp {X : Cx} {e : List Stmt} {t t' : TS} (h : PSs X e t) (k : ∀ D σ H, t' D σ H → t D σ H) : PSs X e t' := ⟨fun pins s σ H D I q => h.run pins s σ H D I (k D σ H q)⟩

section
variable {X : Cx} {e : Expr} {es : List Expr} {E : DW} {τ : DSt} {S : DH} {σ : St} {H : Hp}
/-- from a data reading to the layer's, the end weakened -/
theorem DE.to {t : DTE} (h : DE X e t) {Q0 : DK} {Q : VK} (w : Wish X E H) (r : Rel X.w X.K τ S σ H) (q : t E τ S Q0)
    (k : ∀ d S' v H', LeH H H' → Wish X E H' → Rel X.w X.K τ S' σ H' → RD X.K H' d v → Q0 d S' → Q v H') : upE X t σ H Q :=
  ⟨E, τ, S, w, r, h.mono _ _ _ _ _ _ (fun _ _ _ _ z => z) (fun d S' z v H' le rp rd => k d S' v H' le (w.le le) (r.le le rp) rd z) q⟩
theorem DT.to {t : DTT} (h : DT X e t) {Q0 : Bool → DH → Prop} {Q : Bool → Hp → Prop} (w : Wish X E H) (r : Rel X.w X.K τ S σ H) (q : t E τ S Q0)
    (k : ∀ b S' H', LeH H H' → Wish X E H' → Rel X.w X.K τ S' σ H' → Q0 b S' → Q b H') : upT X t σ H Q :=
  ⟨E, τ, S, w, r, h.mono _ _ _ _ _ _ (fun _ _ _ _ z => z) (fun d S' z H' le rp => k d S' H' le (w.le le) (r.le le rp) z) q⟩
theorem DWt.to {t : DTT} (h : DWt X e t) {Q0 : Bool → DH → Prop} {Q : Bool → Hp → Prop} (w : Wish X E H) (r : Rel X.w X.K τ S σ H) (q : t E τ S Q0)
    (k : ∀ b S' H', LeH H H' → Wish X E H' → Rel X.w X.K τ S' σ H' → Q0 b S' → Q b H') : upT X t σ H Q :=
  ⟨E, τ, S, w, r, h.mono _ _ _ _ _ _ (fun _ _ _ _ z => z) (fun d S' z H' le rp => k d S' H' le (w.le le) (r.le le rp) z) q⟩
theorem DA.to {t : DTA} (h : DA X es t) {Q0 : List D → DH → Prop} {Q : List V → Hp → Prop} (w : Wish X E H) (r : Rel X.w X.K τ S σ H) (q : t E τ S Q0)
    (k : ∀ ds S' vs H', LeH H H' → Wish X E H' → Rel X.w X.K τ S' σ H' → RDs X.K H' ds vs → Q0 ds S' → Q vs H') : upA X t σ H Q :=
  ⟨E, τ, S, w, r, h.mono _ _ _ _ _ _ (fun _ _ _ _ z => z) (fun d S' z vs H' le rp rd => k d S' vs H' le (w.le le) (r.le le rp) rd z) q⟩
end

/-! ### names, constants -/
@[simp] def dVar (i : Nat) : DTE := fun _ τ S Q => match τ[i]? with | some (some d) => Q d S | _ => False
@[simp] def dC (d : D) : DTE := fun _ _ S Q => Q d S
section
variable {X : Cx}
theorem de_var {e : Expr} {i : Nat} (h : PE X e (tVar i)) : DE X e (dVar i) := by
  refine ⟨fun E E' τ S Q Q' _ k q => ?_, pE_imp h fun σ H Q ⟨E, τ, S, w, r, q⟩ => ?_⟩
  · unfold dVar at q ⊢
    split at q
    · exact k _ _ q
    · exact q
  · unfold dVar at q
    split at q
    · rename_i d e'
      obtain ⟨v, e2, rv⟩ := r.st.get i d e'
      exact ⟨v, e2, q v H (LeH.refl H) r.rep rv⟩
    · exact q.elim
theorem de_c {e : Expr} {d : D} {v : V} (h : PE X e (tC v)) (hv : ∀ H, RD X.K H d v) : DE X e (dC d) :=
  ⟨fun E E' τ S Q Q' _ k q => k _ _ q, pE_imp h fun σ H Q ⟨E, τ, S, w, r, q⟩ => q v H (LeH.refl H) r.rep (hv H)⟩
theorem dv (i : Nat) {x : Str} {pos : Pos} (hN : X.N[i]? = some x := by rfl) (hv : Vis X.env.scope x := by first | exact Or.inl rfl | exact Or.inr (Or.inl rfl) | exact Or.inr (Or.inr rfl)) (hd : (x == ("__debug__" : Str)) = false := by decide)
    (hcd : (x == ("__classdict__" : Str)) = false := by decide) : DE X (.Name x pos) (dVar i) := de_var (pe_var hN hv hd hcd)
theorem de_int {i : Int} {j pos} : DE X (.Constant (.int i) j pos) (dC (.int i)) := de_c pe_int fun _ => rfl
theorem de_bl {b : Bool} {j pos} : DE X (.Constant (.bool b) j pos) (dC (.bl b)) := de_c pe_bl fun _ => rfl
theorem de_str {x : Str} {j pos} : DE X (.Constant (.str x) j pos) (dC (.str x)) := de_c pe_str fun _ => rfl
end

/-! ### operators -/
abbrev R2D := D → D → DH → DK → Prop
def Mono2 (r : R2D) : Prop := ∀ x y S (Q Q' : DK), (∀ d S', Q d S' → Q' d S') → r x y S Q → r x y S Q'
def upO (w : World) (K : PySem.W.Frag) (r : R2D) : R2 := fun x y H Q => ∃ d e S, Rep w K S H ∧ RD K H d x ∧ RD K H e y ∧ r d e S fun z S' => ∀ v H', LeH H H' → Rep w K S' H' → RD K H' z v → Q v H'
structure OpD (X : Cx) (f : Value → Value → Sem Value) (r : R2D) : Prop where
  mono : Mono2 r
  run : OpR X f (upO X.w X.K r)
theorem opR_imp {X : Cx} {f : Value → Value → Sem Value} {r r' : R2} (h : OpR X f r) (k : ∀ x y H Q, r' x y H Q → r x y H Q) : OpR X f r' := fun pins s σ H x y v u Q I rx ry q => h pins s σ H x y v u Q I rx ry (k _ _ _ _ q)
@[simp] def dOp (r : R2D) (ta tb : DTE) : DTE := fun E τ S Q => ta E τ S fun d S1 => tb E τ S1 fun e S2 => r d e S2 Q
section
variable {X : Cx} {a b : Expr} {ta tb : DTE} {pos : Pos} {r : R2D}
theorem dOp_mono {E E' : DW} {τ : DSt} {S : DH} {Q Q' : DK} (ma : DE X a ta) (mb : DE X b tb) (mr : Mono2 r) (he : ∀ C fs τ S, E C fs τ S → E' C fs τ S) (k : ∀ d S', Q d S' → Q' d S') (q : dOp r ta tb E τ S Q) : dOp r ta tb E' τ S Q' :=
  ma.mono _ _ _ _ _ _ he (fun _ _ h => mb.mono _ _ _ _ _ _ he (fun _ _ h => mr _ _ _ _ _ k h) h) q
theorem dOp_up {σ : St} {H : Hp} {Q : VK} (ha : DE X a ta) (hb : DE X b tb) (mr : Mono2 r) (h : upE X (dOp r ta tb) σ H Q) : tOp (upO X.w X.K r) (upE X ta) (upE X tb) σ H Q := by
  obtain ⟨E, τ, S, w, rl, q⟩ := h
  refine ha.to w rl q fun d S1 x H1 le1 w1 r1 rd q1 => ?_
  refine hb.to w1 r1 q1 fun e S2 y H2 le2 w2 r2 re q2 => ?_
  exact ⟨d, e, S2, r2.rep, rd.le le2, re, mr _ _ _ _ _ (fun z S' k v H' le rp rz => k v H' (le1.trans (le2.trans le)) rp rz) q2⟩
theorem de_op {op : Operator} (ho : OpD X (binaryOp op) r) (ha : DE X a ta) (hb : DE X b tb) : DE X (.BinOp a op b pos) (dOp r ta tb) :=
  ⟨fun _ _ _ _ _ _ he k q => dOp_mono ha hb ho.mono he k q, pE_imp (pe_op ho.run ha.run hb.run) fun _ _ _ h => dOp_up ha hb ho.mono h⟩
theorem de_cmp {op : CmpOp} (ho : OpD X (compareOp op) r) (ha : DE X a ta) (hb : DE X b tb) (hm : behindInMarks op b = false) : DE X (.Compare a [op] [b] pos) (dOp r ta tb) :=
  ⟨fun _ _ _ _ _ _ he k q => dOp_mono ha hb ho.mono he k q, pE_imp (pe_cmpR ho.run ha.run hb.run hm) fun _ _ _ h => dOp_up ha hb ho.mono h⟩
/-- a test: a value that is a truth -/
@[simp] def dTest (t : DTE) : DTT := fun E τ S Q => t E τ S fun d S' => match d with | .bl b => Q b S' | _ => False
theorem dTest_mono {e : Expr} {t : DTE} (m : DE X e t) (E E' : DW) (τ : DSt) (S : DH) (Q Q' : Bool → DH → Prop) (he : ∀ C fs τ S, E C fs τ S → E' C fs τ S) (k : ∀ d S', Q d S' → Q' d S') (q : dTest t E τ S Q) : dTest t E' τ S Q' :=
  m.mono _ _ _ _ _ _ he (fun d S' h => by
    cases d with
    | bl b => exact k _ _ h
    | _ => exact h) q
theorem dt_cmp {op : CmpOp} (ho : OpD X (compareOp op) r) (ha : DE X a ta) (hb : DE X b tb) (hm : behindInMarks op b = false) : DT X (.Compare a [op] [b] pos) (dTest (dOp r ta tb)) := by
  refine ⟨dTest_mono (de_cmp ho ha hb hm (pos := pos)), pT_imp (pt_cmpR ho.run ha.run hb.run hm) fun σ H Q ⟨E, τ, S, w, rl, q⟩ => ?_⟩
  refine dOp_up ha hb ho.mono ⟨E, τ, S, w, rl, dOp_mono ha hb ho.mono (fun _ _ _ _ z => z) (fun d S' h v H' le rp rd => ?_) q⟩
  cases d with
  | bl b => exact ⟨b, rd, h H' le rp⟩
  | _ => exact h.elim
theorem dt_val {e : Expr} {t : DTE} (h : DE X e t) (he : ∀ whole, isTrue e X.env whole = (do let v ← whole; standAt e.pos; holding [v] (truthy v)) := by intro _; rfl) : DT X e (dTest t) := by
  refine ⟨dTest_mono h, pT_imp (pt_val h.run he) fun σ H Q ⟨E, τ, S, w, rl, q⟩ => ?_⟩
  refine h.to w rl q fun d S' v H' le w' r' rd q' => ?_
  cases d with
  | bl b => exact ⟨b, rd, q' H' le r'.rep⟩
  | _ => exact q'.elim
end
end Dt
set_option maxRecDepth 100000
set_option maxHeartbeats 4000000
/-! Dat2: tests, statements, loops, comprehensions. -/
namespace Dt
open PySem PySem.Spec L2

/-! ### arguments -/
@[simp] def dNil : DTA := fun _ _ S Q => Q [] S
@[simp] def dCons (ta : DTE) (tr : DTA) : DTA := fun E τ S Q => ta E τ S fun d S1 => tr E τ S1 fun ds S2 => Q (d :: ds) S2
section
variable {X : Cx} {e : Expr} {es : List Expr} {te : DTE} {t : DTA} {pos : Pos}
theorem da_nil : DA X [] dNil := ⟨fun _ _ _ _ _ _ _ k q => k _ _ q, pA_imp pa_nil fun σ H Q ⟨E, τ, S, w, r, q⟩ => q [] H (LeH.refl H) r.rep .nil⟩
theorem da_cons (ha : DE X e te) (hr : DA X es t) (hs : starEach (e :: es) X.env = (false, eval e X.env) :: starEach es X.env := by rfl) : DA X (e :: es) (dCons te t) := by
  refine ⟨fun _ _ _ _ _ _ he k q => ha.mono _ _ _ _ _ _ he (fun _ _ h => hr.mono _ _ _ _ _ _ he (fun _ _ h => k _ _ h) h) q, pA_imp (pa_cons ha.run hr.run hs) fun σ H Q ⟨E, τ, S, w, r, q⟩ => ?_⟩
  refine ha.to w r q fun d S1 v H1 le1 w1 r1 rd q1 => ?_
  exact hr.to w1 r1 q1 fun ds S2 vs H2 le2 w2 r2 rds q2 => q2 (v :: vs) H2 (le1.trans le2) r2.rep (.cons (rd.le le2) rds)
end

/-! ### tests -/
section
variable {X : Cx} {a b : Expr} {rest : List Expr} {ta tb : DTT} {te : DTE} {pos : Pos}
@[simp] def dAnd (t u : DTT) : DTT := fun E τ S Q => t E τ S fun c S1 => if c = true then u E τ S1 Q else Q false S1
@[simp] def dOr (t u : DTT) : DTT := fun E τ S Q => t E τ S fun c S1 => if c = true then Q true S1 else u E τ S1 Q
@[simp] def dNot (t : DTT) : DTT := fun E τ S Q => t E τ S fun c S1 => Q (!c) S1
theorem DWt.pt (h : DWt X a ta) : DT X a ta := ⟨h.mono, h.run.pt⟩
theorem dw_and1 (ha : DT X a ta) : DWt X (.BoolOp .And [a] pos) ta := ⟨ha.mono, pw_and1 ha.run⟩
theorem dw_or1 (ha : DT X a ta) : DWt X (.BoolOp .Or [a] pos) ta := ⟨ha.mono, pw_or1 ha.run⟩
theorem dw_and (ha : DT X a ta) (hb : DWt X (.BoolOp .And (b :: rest) pos) tb) : DWt X (.BoolOp .And (a :: b :: rest) pos) (dAnd ta tb) := by
  refine ⟨fun E E' τ S Q Q' he k q => ha.mono _ _ _ _ _ _ he (fun c S1 h => ?_) q, pW_imp (pw_and ha.run hb.run) fun σ H Q ⟨E, τ, S, w, r, q⟩ => ?_⟩
  · split at h
    · rename_i hc
      rw [if_pos hc]
      exact hb.mono _ _ _ _ _ _ he k h
    · rename_i hc
      rw [if_neg hc]
      exact k _ _ h
  · refine ha.to w r q fun c S1 H1 le w1 r1 h => ?_
    cases c with
    | true => exact hb.to w1 r1 h fun b S2 H2 le2 _ r2 q2 => q2 H2 (le.trans le2) r2.rep
    | false => exact h H1 le r1.rep
theorem dw_or (ha : DT X a ta) (hb : DWt X (.BoolOp .Or (b :: rest) pos) tb) : DWt X (.BoolOp .Or (a :: b :: rest) pos) (dOr ta tb) := by
  refine ⟨fun E E' τ S Q Q' he k q => ha.mono _ _ _ _ _ _ he (fun c S1 h => ?_) q, pW_imp (pw_or ha.run hb.run) fun σ H Q ⟨E, τ, S, w, r, q⟩ => ?_⟩
  · split at h
    · rename_i hc
      rw [if_pos hc]
      exact k _ _ h
    · rename_i hc
      rw [if_neg hc]
      exact hb.mono _ _ _ _ _ _ he k h
  · refine ha.to w r q fun c S1 H1 le w1 r1 h => ?_
    cases c with
    | true => exact h H1 le r1.rep
    | false => exact hb.to w1 r1 h fun b S2 H2 le2 _ r2 q2 => q2 H2 (le.trans le2) r2.rep
theorem dt_not (ha : DT X a ta) : DT X (.UnaryOp .Not a pos) (dNot ta) :=
  ⟨fun _ _ _ _ _ _ he k q => ha.mono _ _ _ _ _ _ he (fun _ _ h => k _ _ h) q, pT_imp (pt_not ha.run) fun σ H Q ⟨E, τ, S, w, r, q⟩ => ha.to w r q fun c S1 H1 le w1 r1 h => h H1 le r1.rep⟩
/-- and, or, not as values, of truths -/
def dBV (t : DTE) (k : Bool → DH → DK → Prop) : DTE := fun E τ S Q => t E τ S fun d S1 => match d with | .bl c => k c S1 Q | _ => False
@[simp] def dAndV (ta tb : DTE) : DTE := fun E τ S Q => ta E τ S fun d S1 => match d with | .bl c => (if c = true then tb E τ S1 Q else Q (.bl false) S1) | _ => False
@[simp] def dOrV (ta tb : DTE) : DTE := fun E τ S Q => ta E τ S fun d S1 => match d with | .bl c => (if c = true then Q (.bl true) S1 else tb E τ S1 Q) | _ => False
@[simp] def dNotV (ta : DTE) : DTE := fun E τ S Q => ta E τ S fun d S1 => match d with | .bl c => Q (.bl (!c)) S1 | _ => False
variable {va vb : DTE}
@[simp] def dIfE (t : DTT) (ta tb : DTE) : DTE := fun E τ S Q => t E τ S fun c S1 => if c = true then ta E τ S1 Q else tb E τ S1 Q
end

/-! ### statements -/
structure DEnds where
  nx : DSt → DH → Prop
  rt : DK
  bk : DSt → DH → Prop := fun _ _ => False
  ct : DSt → DH → Prop := fun _ _ => False
  xe : DW := fun _ _ _ _ => False
abbrev DTS := DEnds → DSt → DH → Prop
structure DEnds.Le (A B : DEnds) : Prop where
  nx : ∀ τ S, A.nx τ S → B.nx τ S
  rt : ∀ d S, A.rt d S → B.rt d S
  bk : ∀ τ S, A.bk τ S → B.bk τ S
  ct : ∀ τ S, A.ct τ S → B.ct τ S
  xe : ∀ C fs τ S, A.xe C fs τ S → B.xe C fs τ S
def dnE (w : World) (K : PySem.W.Frag) (H : Hp) (D : Ends) (E : DW) : DEnds where
  nx := fun τ S => ∀ σ H', LeH H H' → Rel w K τ S σ H' → D.nx σ H'
  rt := fun d S => ∀ v H', LeH H H' → Rep w K S H' → RD K H' d v → D.rt v H'
  bk := fun τ S => ∀ σ H', LeH H H' → Rel w K τ S σ H' → D.bk σ H'
  ct := fun τ S => ∀ σ H', LeH H H' → Rel w K τ S σ H' → D.ct σ H'
  xe := E
def upS (X : Cx) (t : DTS) : TS := fun D σ H => ∃ E τ S, Wish X E H ∧ Rel X.w X.K τ S σ H ∧ t (dnE X.w X.K H D E) τ S
structure DS (X : Cx) (st : Stmt) (t : DTS) : Prop where
  mono : ∀ A B τ S, DEnds.Le A B → t A τ S → t B τ S
  run : PS X st (upS X t)
structure DSs (X : Cx) (st : List Stmt) (t : DTS) : Prop where
  mono : ∀ A B τ S, DEnds.Le A B → t A τ S → t B τ S
  run : PSs X st (upS X t)
section
variable {X : Cx} {st : Stmt} {sts : List Stmt} {t u : DTS} {E : DW} {τ : DSt} {S : DH} {σ : St} {H : Hp} {pos : Pos}
theorem dn_le {w : World} {K : PySem.W.Frag} {D : Ends} {H H' : Hp} (le : LeH H H') : DEnds.Le (dnE w K H D E) (dnE w K H' D E) :=
  ⟨fun τ S h σ H2 l => h σ H2 (le.trans l), fun d S h v H2 l => h v H2 (le.trans l), fun τ S h σ H2 l => h σ H2 (le.trans l), fun τ S h σ H2 l => h σ H2 (le.trans l), fun _ _ _ _ h => h⟩
theorem DS.to (h : DS X st t) {A : DEnds} {D : Ends} (w : Wish X E H) (r : Rel X.w X.K τ S σ H) (q : t A τ S) (k : DEnds.Le A (dnE X.w X.K H D E)) : upS X t D σ H := ⟨E, τ, S, w, r, h.mono _ _ _ _ k q⟩
theorem DSs.to (h : DSs X sts t) {A : DEnds} {D : Ends} (w : Wish X E H) (r : Rel X.w X.K τ S σ H) (q : t A τ S) (k : DEnds.Le A (dnE X.w X.K H D E)) : upS X t D σ H := ⟨E, τ, S, w, r, h.mono _ _ _ _ k q⟩
@[simp] def dNx : DTS := fun A τ S => A.nx τ S
@[simp] def dSeq (t u : DTS) : DTS := fun A τ S => t { A with nx := u A } τ S
theorem dss_nil : DSs X [] dNx := ⟨fun _ _ _ _ le q => le.nx _ _ q, pSs_imp pss_nil fun D σ H ⟨E, τ, S, w, r, q⟩ => q σ H (LeH.refl H) r⟩
theorem dss_one (h : DS X st t) : DSs X [st] t := ⟨h.mono, pss_one h.run⟩
theorem dss_cons (h1 : DS X st t) (h2 : DSs X sts u) : DSs X (st :: sts) (dSeq t u) := by
  refine ⟨fun A B τ S le q => h1.mono { A with nx := u A } { B with nx := u B } _ _ ⟨fun τ S z => h2.mono _ _ _ _ le z, le.rt, le.bk, le.ct, le.xe⟩ q, pSs_imp (pss_cons h1.run h2.run) fun D σ H ⟨E, τ, S, w, r, q⟩ => ?_⟩
  exact h1.to w r q ⟨fun τ' S' z σ' H' le r' => h2.to (w.le le) r' z (dn_le le), fun _ _ z => z, fun _ _ z => z, fun _ _ z => z, fun _ _ _ _ z => z⟩
@[simp] def dBk : DTS := fun A τ S => A.bk τ S
@[simp] def dCt : DTS := fun A τ S => A.ct τ S
def dNever : DTS := fun _ _ _ => False
variable {e c : Expr} {te : DTE} {tc : DTT} {as bs : List Stmt}
@[simp] def dDrop (te : DTE) : DTS := fun A τ S => te A.xe τ S fun _ S' => A.nx τ S'
theorem ds_expr (h : DE X e te) (hs : swapsWith e none pos.line X.env = pure false := by rfl) : DS X (.Expr e pos) (dDrop te) :=
  ⟨fun _ _ _ _ le q => h.mono _ _ _ _ _ _ le.xe (fun _ _ z => le.nx _ _ z) q, pS_imp (ps_expr h.run hs) fun D σ H ⟨E, τ, S, w, r, q⟩ => h.to w r q fun d S' v H' le w' r' rd z => z σ H' le r'⟩
@[simp] def dRet (te : DTE) : DTS := fun A τ S => te A.xe τ S A.rt
theorem ds_ret (h : DE X e te) : DS X (.Return (some e) pos) (dRet te) :=
  ⟨fun _ _ _ _ le q => h.mono _ _ _ _ _ _ le.xe le.rt q, pS_imp (ps_ret h.run) fun D σ H ⟨E, τ, S, w, r, q⟩ => h.to w r q fun d S' v H' le w' r' rd z => z v H' le r'.rep rd⟩
@[simp] def dRetN : DTS := fun A _ S => A.rt .non S
@[simp] def dIf (tc : DTT) (t u : DTS) : DTS := fun A τ S => tc A.xe τ S fun b S' => if b = true then t A τ S' else u A τ S'
theorem ds_if (hc : DT X c tc) (ha : DSs X as t) (hb : DSs X bs u) : DS X (.If c as bs pos) (dIf tc t u) := by
  refine ⟨fun A B τ S le q => hc.mono _ _ _ _ _ _ le.xe (fun b S' z => ?_) q, pS_imp (ps_if hc.run ha.run hb.run) fun D σ H ⟨E, τ, S, w, r, q⟩ => ?_⟩
  · cases b with
    | true => exact ha.mono _ _ _ _ le z
    | false => exact hb.mono _ _ _ _ le z
  · refine hc.to w r q fun b S' H' le w' r' z => ?_
    cases b with
    | true => exact ha.to w' r' z (dn_le le)
    | false => exact hb.to w' r' z (dn_le le)
end

/-! ### targets -/
abbrev DTG := D → DSt → DH → (DSt → DH → Prop) → Prop
abbrev DTGs := List D → DSt → DH → (DSt → DH → Prop) → Prop
def upG (X : Cx) (t : DTG) : TG := fun v σ H Q => ∃ d τ S, Rel X.w X.K τ S σ H ∧ RD X.K H d v ∧ t d τ S fun τ' S' => ∀ σ' H', LeH H H' → Rel X.w X.K τ' S' σ' H' → Q σ' H'
def upGs (X : Cx) (t : DTGs) : TGs := fun vs σ H Q => ∃ ds τ S, Rel X.w X.K τ S σ H ∧ RDs X.K H ds vs ∧ t ds τ S fun τ' S' => ∀ σ' H', LeH H H' → Rel X.w X.K τ' S' σ' H' → Q σ' H'
structure DG (X : Cx) (tg : Expr) (t : DTG) : Prop where
  mono : ∀ d τ S (Q Q' : DSt → DH → Prop), (∀ τ S, Q τ S → Q' τ S) → t d τ S Q → t d τ S Q'
  run : PG X tg (upG X t)
structure DGs (X : Cx) (tg : List Expr) (t : DTGs) : Prop where
  mono : ∀ d τ S (Q Q' : DSt → DH → Prop), (∀ τ S, Q τ S → Q' τ S) → t d τ S Q → t d τ S Q'
  run : PGs X tg (upGs X t)
theorem pG_imp {X : Cx} {e : Expr} {t t' : TG} (h : PG X e t) (k : ∀ v σ H Q, t' v σ H Q → t v σ H Q) : PG X e t' := ⟨fun pins s σ H v u Q I r q => h.run pins s σ H v u Q I r (k v σ H Q q)⟩
theorem pGs_imp {X : Cx} {e : List Expr} {t t' : TGs} (h : PGs X e t) (k : ∀ v σ H Q, t' v σ H Q → t v σ H Q) : PGs X e t' := ⟨fun pins s σ H v u Q I r q => h.run pins s σ H v u Q I r (k v σ H Q q)⟩
section
variable {X : Cx} {tg e : Expr} {tgs : List Expr} {t : DTG} {ts : DTGs} {te : DTE} {pos : Pos}
theorem DG.to (h : DG X tg t) {d : D} {v : V} {τ : DSt} {S : DH} {σ : St} {H : Hp} {Q0 : DSt → DH → Prop} {Q : St → Hp → Prop} (r : Rel X.w X.K τ S σ H) (rd : RD X.K H d v) (q : t d τ S Q0) (k : ∀ τ' S' σ' H', LeH H H' → Rel X.w X.K τ' S' σ' H' → Q0 τ' S' → Q σ' H') : upG X t v σ H Q :=
  ⟨d, τ, S, r, rd, h.mono _ _ _ _ _ (fun τ' S' z σ' H' le r' => k _ _ _ _ le r' z) q⟩
@[simp] def dGN (i : Nat) : DTG := fun d τ S Q => Q (τ.set i (some d)) S
theorem dg_name {i : Nat} {x : Str} (hN : X.N.Nodup) (hi : X.N[i]? = some x) (hx : Loc X.env.scope x) (hf : X.fn x = true ∨ X.env.scope.names.lookup x = some .local := by first | exact .inl rfl | exact .inr rfl | assumption) : DG X (.Name x pos) (dGN i) :=
  ⟨fun _ _ _ _ _ k q => k _ _ q, pG_imp (pg_name hN hi hx hf) fun v σ H Q ⟨d, τ, S, r, rd, q⟩ => q _ _ (LeH.refl H) ⟨r.st.set i rd, r.rep⟩⟩
@[simp] def dGNil : DTGs := fun ds τ S Q => match ds with | [] => Q τ S | _ => False
@[simp] def dGCons (t : DTG) (u : DTGs) : DTGs := fun ds τ S Q => match ds with | d :: r => t d τ S fun τ' S' => u r τ' S' Q | _ => False
theorem dgs_nil : DGs X [] dGNil := by
  refine ⟨fun ds _ _ _ _ k q => ?_, pGs_imp pgs_nil fun vs σ H Q ⟨ds, τ, S, r, rd, q⟩ => ?_⟩
  · cases ds with
    | nil => exact k _ _ q
    | cons _ _ => exact q
  · cases ds with
    | nil => exact ⟨rd, q σ H (LeH.refl H) r⟩
    | cons _ _ => exact q.elim
theorem dgs_cons (h1 : DG X tg t) (h2 : DGs X tgs ts) (hs : (assignEach (tg :: tgs) X.env).map (·.2) = assign tg X.env :: (assignEach tgs X.env).map (·.2) := by rfl) : DGs X (tg :: tgs) (dGCons t ts) := by
  refine ⟨fun ds _ _ _ _ k q => ?_, pGs_imp (pgs_cons h1.run h2.run hs) fun vs σ H Q ⟨ds, τ, S, r, rd, q⟩ => ?_⟩
  · cases ds with
    | nil => exact q
    | cons d r => exact h1.mono _ _ _ _ _ (fun _ _ z => h2.mono _ _ _ _ _ k z) q
  · cases ds with
    | nil => exact q.elim
    | cons d ds =>
      obtain ⟨v, s, rfl, rd1, rd2⟩ := rd
      refine ⟨v, s, rfl, h1.to r rd1 q fun τ' S' σ' H' le r' z => ?_⟩
      exact ⟨ds, τ', S', r', rd2.le le, h2.mono _ _ _ _ _ (fun τ2 S2 z2 σ2 H2 le2 r2 => z2 σ2 H2 (le.trans le2) r2) z⟩
@[simp] def dGTup (n : Nat) (t : DTGs) : DTG := fun d τ S Q => match d with | .tup ds => ds.length = n ∧ t ds τ S Q | _ => False
theorem dg_tup {es : List Expr} {k : Nat} {n : Nat} (hc : X.calm = true) (h : DGs X es ts) (hn : (assignEach es X.env).length = n := by rfl) (hst : (assignEach es X.env).findIdx? (·.1) = none := by rfl) : DG X (.Tuple es k pos) (dGTup n ts) := by
  refine ⟨fun d _ _ _ _ k q => ?_, pG_imp (pg_tup hc h.run hn hst) fun v σ H Q ⟨d, τ, S, r, rd, q⟩ => ?_⟩
  · cases d with
    | tup ds => exact ⟨q.1, h.mono _ _ _ _ _ k q.2⟩
    | _ => exact q
  · cases d with
    | tup ds =>
      obtain ⟨p, xs, rfl, sq, rds⟩ : ∃ p xs, v = V.ref p ∧ SqT X.K H p xs ∧ RDs X.K H ds xs := rd
      exact ⟨p, xs, rfl, sq, by rw [← rds.length]; exact q.1, ds, τ, S, r, rds, q.2⟩
    | _ => exact q.elim
@[simp] def dAsg (te : DTE) (t : DTG) : DTS := fun A τ S => te A.xe τ S fun d S' => t d τ S' A.nx
theorem ds_asg (he : DE X e te) (hg : DG X tg t) (hs : swapsWithSole [tg] e pos.line X.env = pure false := by rfl) (hw : swappedStores [tg] e X.env = pure none := by rfl) (h1 : (assignEach [tg] X.env).map (·.2) = [assign tg X.env] := by rfl) : DS X (.Assign [tg] e pos) (dAsg te t) := by
  refine ⟨fun A B τ S le q => he.mono _ _ _ _ _ _ le.xe (fun _ _ z => hg.mono _ _ _ _ _ le.nx z) q, pS_imp (ps_asg he.run hg.run hs hw h1) fun D σ H ⟨E, τ, S, w, r, q⟩ => ?_⟩
  exact he.to w r q fun d S' v H' le w' r' rd z => hg.to r' rd z fun τ2 S2 σ2 H2 le2 r2 z2 => z2 σ2 H2 (le.trans le2) r2
theorem ds_set {i : Nat} {x : Str} {pos' : Pos} (hN : X.N.Nodup) (hi : X.N[i]? = some x) (hx : Loc X.env.scope x) (he : DE X e te) (hs : swapsWith e (some (.Name x pos')) pos.line X.env = pure false := by rfl)
    (hf : X.fn x = true ∨ X.env.scope.names.lookup x = some .local := by first | exact .inl rfl | exact .inr rfl | assumption) : DS X (.Assign [.Name x pos'] e pos) (dAsg te (dGN i)) := by
  refine ⟨fun A B τ S le q => he.mono _ _ _ _ _ _ le.xe (fun _ _ z => le.nx _ _ z) q, pS_imp (ps_set hN hi hx he.run hs hf) fun D σ H ⟨E, τ, S, w, r, q⟩ => ?_⟩
  exact he.to w r q fun d S' v H' le w' r' rd z => z _ H' le ⟨r'.st.set i rd, r'.rep⟩
end

/-! ### while -/
def dWh (c : DTT) (tb : DTS) (A : DEnds) : Nat → DSt → DH → Prop
  | 0, _, _ => False
  | n + 1, τ, S => c A.xe τ S fun b S' => if b = true then tb { A with nx := dWh c tb A n, ct := dWh c tb A n, bk := A.nx } τ S' else A.nx τ S'
def dWhile (c : DTT) (tb : DTS) : DTS := fun A τ S => ∃ n, dWh c tb A n τ S
section
variable {X : Cx} {c : Expr} {body : List Stmt} {tc : DTT} {tb : DTS} {pos : Pos}
theorem dWh_mono (hc : DT X c tc) (hb : DSs X body tb) {A B : DEnds} (le : DEnds.Le A B) : ∀ (n : Nat) (τ : DSt) (S : DH), dWh tc tb A n τ S → dWh tc tb B n τ S
  | 0, _, _, q => q
  | n + 1, τ, S, q => hc.mono _ _ _ _ _ _ le.xe (fun b S' z => by
      cases b with
      | true => exact hb.mono { A with nx := dWh tc tb A n, ct := dWh tc tb A n, bk := A.nx } { B with nx := dWh tc tb B n, ct := dWh tc tb B n, bk := B.nx } _ _ ⟨fun τ S w => dWh_mono hc hb le n τ S w, le.rt, le.nx, fun τ S w => dWh_mono hc hb le n τ S w, le.xe⟩ z
      | false => exact le.nx _ _ z) q
theorem ds_while (hp : PassesOwn (model X.prog X.w) X.A X.env X.xe) (hc : DT X c tc) (hb : DSs X body tb) : DS X (.While c body [] pos) (dWhile tc tb) := by
  refine ⟨fun A B τ S le ⟨n, q⟩ => ⟨n, dWh_mono hc hb le n τ S q⟩, pS_imp (ps_while hp hc.run hb.run) fun D σ H ⟨E, τ, S, w, r, n, q⟩ => ?_⟩
  refine ⟨fun m σ' H' => LeH H H' ∧ ∃ τ' S', Rel X.w X.K τ' S' σ' H' ∧ dWh tc tb (dnE X.w X.K H D E) m τ' S', ⟨n, LeH.refl H, τ, S, r, q⟩, ?_⟩
  rintro m σ1 H1 ⟨le1, τ1, S1, r1, q1⟩
  cases m with
  | zero => exact q1.elim
  | succ m =>
    refine hc.to (w.le le1) r1 q1 fun b S2 H2 le2 w2 r2 z => ?_
    cases b with
    | false => exact z σ1 H2 (le1.trans le2) r2
    | true =>
      rw [if_pos rfl]
      have again : ∀ τ3 S3, dWh tc tb (dnE X.w X.K H D E) m τ3 S3 → ∀ σ3 H3, LeH H2 H3 → Rel X.w X.K τ3 S3 σ3 H3 → LeH H H3 ∧ ∃ τ' S', Rel X.w X.K τ' S' σ3 H3 ∧ dWh tc tb (dnE X.w X.K H D E) m τ' S' :=
        fun τ3 S3 y σ3 H3 le3 r3 => ⟨le1.trans (le2.trans le3), τ3, S3, r3, y⟩
      refine ⟨fun σ3 H3 => LeH H H3 ∧ ∃ τ' S', Rel X.w X.K τ' S' σ3 H3 ∧ dWh tc tb (dnE X.w X.K H D E) m τ' S', fun σ3 H3 y => ⟨m, Nat.lt_succ_self m, y⟩, hb.to w2 r2 z ⟨again, ?_, ?_, again, fun _ _ _ _ y => y⟩⟩
      · exact fun d S3 y v H3 le3 r3 rd => y v H3 (le1.trans (le2.trans le3)) r3 rd
      · exact fun τ3 S3 y σ3 H3 le3 r3 => y σ3 H3 (le1.trans (le2.trans le3)) r3
end

/-! ### what is walked -/
structure Feeds (w : World) (K : PySem.W.Frag) (H0 : Hp) (J : It) (G : DH → Prop) (ds : List D) : Prop where
  go : ∀ i S H, LeH H0 H → Rep w K S H → G S → i < ds.length → J.go i H
  yld : ∀ i S H x H', LeH H0 H → Rep w K S H → G S → i < ds.length → J.yld i H x H' → LeH H H' ∧ Rep w K S H' ∧ ∃ d, ds[i]? = some d ∧ RD K H' d x
  stop : ∀ S H, LeH H0 H → Rep w K S H → G S → J.stop ds.length H
abbrev DTI := DW → DSt → DH → ((DH → Prop) → List D → DH → Prop) → Prop
def upI (X : Cx) (ti : DTI) : TI := fun σ H R => ∃ E τ S, Wish X E H ∧ Rel X.w X.K τ S σ H ∧ ti E τ S fun G ds S' => ∀ J H', LeH H H' → Rep X.w X.K S' H' → Feeds X.w X.K H' J G ds → R J H'
structure DI (X : Cx) (tg iter : Expr) (ti : DTI) : Prop where
  mono : ∀ (E E' : DW) τ S (Q Q' : (DH → Prop) → List D → DH → Prop), (∀ C fs τ S, E C fs τ S → E' C fs τ S) → (∀ G d S', Q G d S' → Q' G d S') → ti E τ S Q → ti E' τ S Q'
  run : PI X tg iter (upI X ti)
theorem pI_imp {X : Cx} {tg e : Expr} {t t' : TI} (h : PI X tg e t) (k : ∀ σ H R, t' σ H R → t σ H R) : PI X tg e t' := ⟨fun pins s σ H R I q => h.run pins s σ H R I (k σ H R q)⟩
@[simp] def dLoop (g : DTG) (tb : DTS) (A : DEnds) (G : DH → Prop) : List D → DSt → DH → Prop
  | [], τ, S => G S ∧ A.nx τ S
  | d :: ds, τ, S => G S ∧ g d τ S fun τ1 S1 => tb { A with nx := dLoop g tb A G ds, ct := dLoop g tb A G ds, bk := A.nx } τ1 S1
@[simp] def dFor (ti : DTI) (g : DTG) (tb : DTS) : DTS := fun A τ S => ti A.xe τ S fun G ds S' => dLoop g tb A G ds τ S'
section
variable {X : Cx} {tg iter : Expr} {body : List Stmt} {ti : DTI} {g : DTG} {tb : DTS} {pos : Pos}
theorem DI.to (h : DI X tg iter ti) {E : DW} {τ : DSt} {S : DH} {σ : St} {H : Hp} {Q0 : (DH → Prop) → List D → DH → Prop} {R : It → Hp → Prop} (w : Wish X E H) (r : Rel X.w X.K τ S σ H) (q : ti E τ S Q0)
    (k : ∀ G ds S' J H', LeH H H' → Wish X E H' → Rel X.w X.K τ S' σ H' → Feeds X.w X.K H' J G ds → Q0 G ds S' → R J H') : upI X ti σ H R :=
  ⟨E, τ, S, w, r, h.mono _ _ _ _ _ _ (fun _ _ _ _ z => z) (fun G ds S' z J H' le rp f => k G ds S' J H' le (w.le le) (r.le le rp) f z) q⟩
theorem dLoop_mono (hg : DG X tg g) (hb : DSs X body tb) {A B : DEnds} (le : DEnds.Le A B) {G : DH → Prop} : ∀ (ds : List D) (τ : DSt) (S : DH), dLoop g tb A G ds τ S → dLoop g tb B G ds τ S
  | [], _, _, q => ⟨q.1, le.nx _ _ q.2⟩
  | d :: ds, τ, S, q => ⟨q.1, hg.mono _ _ _ _ _ (fun τ1 S1 z => hb.mono { A with nx := dLoop g tb A G ds, ct := dLoop g tb A G ds, bk := A.nx } { B with nx := dLoop g tb B G ds, ct := dLoop g tb B G ds, bk := B.nx } _ _ ⟨fun τ S w => dLoop_mono hg hb le ds τ S w, le.rt, le.nx, fun τ S w => dLoop_mono hg hb le ds τ S w, le.xe⟩ z) q.2⟩
theorem drop_at {α : Type} {ds : List α} {i : Nat} {d : α} (h : ds[i]? = some d) : ds.drop i = d :: ds.drop (i + 1) := by
  obtain ⟨hi, e⟩ := List.getElem?_eq_some_iff.mp h
  rw [List.drop_eq_getElem_cons hi, e]
theorem ds_for (hp : PassesOwn (model X.prog X.w) X.A X.env X.xe) (hc : X.calm = true) (hi : DI X tg iter ti) (hg : DG X tg g) (hb : DSs X body tb) (hs : ∀ x, foldedSetIterable iter X.env x = pure x := by intro _; rfl) :
    DS X (.For tg iter body [] pos) (dFor ti g tb) := by
  refine ⟨fun A B τ S le q => hi.mono _ _ _ _ _ _ le.xe (fun G ds S' z => dLoop_mono hg hb le ds τ S' z) q, pS_imp (ps_for hp hc hi.run hg.run hb.run hs) fun D σ H ⟨E, τ, S, w, r, q⟩ => ?_⟩
  refine hi.to w r q fun G ds S0 J H0 le0 w0 r0 f z => ?_
  refine ⟨fun i m σ' H' => m = ds.length - i ∧ i ≤ ds.length ∧ LeH H0 H' ∧ ∃ τ' S', Rel X.w X.K τ' S' σ' H' ∧ dLoop g tb (dnE X.w X.K H D E) G (ds.drop i) τ' S', ⟨ds.length, by omega, Nat.zero_le _, LeH.refl H0, τ, S0, r0, z⟩, ?_⟩
  rintro i m σ1 H1 ⟨rfl, hle, le1, τ1, S1, r1, q1⟩
  by_cases hlt : i < ds.length
  · have e0 : ds[i]? = some ds[i] := List.getElem?_eq_getElem hlt
    rw [drop_at e0] at q1
    obtain ⟨hG, q1⟩ := q1
    refine .inr ⟨f.go i S1 H1 le1 r1.rep hG hlt, fun σ2 H2 => LeH H0 H2 ∧ ∃ τ' S', Rel X.w X.K τ' S' σ2 H2 ∧ dLoop g tb (dnE X.w X.K H D E) G (ds.drop (i + 1)) τ' S', fun σ2 H2 ⟨l, y⟩ => ⟨ds.length - (i + 1), by omega, rfl, hlt, l, y⟩, fun x H2 hy => ?_⟩
    obtain ⟨le2, rp2, d, ed, rd⟩ := f.yld i S1 H1 x H2 le1 r1.rep hG hlt hy
    rw [e0] at ed
    cases ed
    refine hg.to (r1.le le2 rp2) rd q1 fun τ3 S3 σ3 H3 le3 r3 q3 => ?_
    have l03 := le1.trans (le2.trans le3)
    refine hb.to (w0.le l03) r3 q3 ⟨?_, ?_, ?_, ?_, fun _ _ _ _ y => y⟩
    · exact fun τ4 S4 y σ4 H4 le4 r4 => ⟨l03.trans le4, τ4, S4, r4, y⟩
    · exact fun d S4 y v H4 le4 r4 rd => y v H4 (le0.trans (l03.trans le4)) r4 rd
    · exact fun τ4 S4 y σ4 H4 le4 r4 => y σ4 H4 (le0.trans (l03.trans le4)) r4
    · exact fun τ4 S4 y σ4 H4 le4 r4 => ⟨l03.trans le4, τ4, S4, r4, y⟩
  · have e : i = ds.length := by omega
    subst e
    rw [List.drop_length] at q1
    exact .inl ⟨f.stop S1 H1 le1 r1.rep q1.1, q1.2 σ1 H1 (le0.trans le1) r1⟩
end
/-! ### comprehensions -/
@[simp] def wipeD (τ : DSt) : List Nat → DSt
  | [] => τ
  | v :: vs => (wipeD τ vs).set v none
theorem RSt.wipe {K : PySem.W.Frag} {H : Hp} {τ : DSt} {σ : St} (r : RSt K H τ σ) : ∀ vs : List Nat, RSt K H (wipeD τ vs) (L2.wipe σ vs)
  | [] => r
  | v :: vs => by
    have q := RSt.wipe r vs
    refine ⟨by simp only [wipeD, L2.wipe, List.length_set]; exact q.len, fun i d e => ?_⟩
    simp only [wipeD, L2.wipe, List.getElem?_set] at e ⊢
    by_cases z : v = i
    · rw [if_pos z] at e
      split at e <;> cases e
    · rw [if_neg z] at e
      rw [if_neg z]
      exact q.get i d e
@[simp] def dLcL (g : DTG) (tt : DTT) (te : DTE) (E : DW) (τ : DSt) (G : DH → Prop) (p : Addr) (Q : DH → Prop) : List D → DH → Prop
  | [], S => G S ∧ Q S
  | d :: ds, S => G S ∧ g d τ S fun τ1 S1 => tt E τ1 S1 fun b S2 => if b = true then te E τ1 S2 fun y S3 => (match S3 p with | some (.lst acc) => acc.length < sizeLine ∧ dLcL g tt te E τ G p Q ds (upo S3 p (.lst (acc ++ [y]))) | _ => False) else dLcL g tt te E τ G p Q ds S2
@[simp] def dLc (ti : DTI) (g : DTG) (tt : DTT) (te : DTE) (vs : List Nat) : DTE := fun E τ S Q => ti E τ S fun G ds S' => newO S' (.lst []) fun p S1 => dLcL g tt te DW0 (wipeD τ vs) G p (Q (.ref p)) ds S1
structure DTs (X : Cx) (ifs : List Expr) (t : DTT) : Prop where
  mono : ∀ (E E' : DW) τ S (Q Q' : Bool → DH → Prop), (∀ C fs τ S, E C fs τ S → E' C fs τ S) → (∀ d S', Q d S' → Q' d S') → t E τ S Q → t E' τ S Q'
  run : PTs X ifs (upT X t)
@[simp] def dYes : DTT := fun _ _ S Q => Q true S
section
variable {X : Cx} {c : Expr} {t : DTT}
theorem pTs_imp {ifs : List Expr} {t t' : TT} (h : PTs X ifs t) (k : ∀ σ H Q, t' σ H Q → t σ H Q) : PTs X ifs t' := ⟨fun pins s σ H Q I q => h.run pins s σ H Q I (k σ H Q q)⟩
theorem dts_nil : DTs X [] dYes := ⟨fun _ _ _ _ _ _ _ k q => k _ _ q, pTs_imp pts_nil fun σ H Q ⟨E, τ, S, w, r, q⟩ => q H (LeH.refl H) r.rep⟩
theorem dts_one (h : DT X c t) : DTs X [c] t := ⟨h.mono, pts_one h.run⟩
end
def upT0 (w : World) (K : PySem.W.Frag) (t : DTT) : TT := fun σ H Q => ∃ τ S, Rel w K τ S σ H ∧ t DW0 τ S fun b S' => ∀ H', LeH H H' → Rep w K S' H' → Q b H'
def upE0 (w : World) (K : PySem.W.Frag) (t : DTE) : TE := fun σ H Q => ∃ τ S, Rel w K τ S σ H ∧ t DW0 τ S fun d S' => ∀ v H', LeH H H' → Rep w K S' H' → RD K H' d v → Q v H'
theorem DTs.zero {X : Cx} {ifs : List Expr} {t : DTT} (h : DTs X ifs t) : PTs X ifs (upT0 X.w X.K t) := pTs_imp h.run fun σ H Q ⟨τ, S, r, q⟩ => ⟨DW0, τ, S, wish0, r, q⟩
theorem DE.zero {X : Cx} {e : Expr} {t : DTE} (h : DE X e t) : PE X e (upE0 X.w X.K t) := pE_imp h.run fun σ H Q ⟨τ, S, r, q⟩ => ⟨DW0, τ, S, wish0, r, q⟩
theorem wipe_get (σ : L2.St) (j : Nat) : ∀ vs : List Nat, (L2.wipe σ vs)[j]? = if j ∈ vs then σ[j]?.map (fun _ => none) else σ[j]?
  | [] => by simp [L2.wipe]
  | v :: vs => by
    rw [L2.wipe, List.getElem?_set, L2.wipe_length, wipe_get σ j vs]
    by_cases e : v = j
    · subst e
      by_cases l : v < σ.length
      · simp [l]
      · simp [l]
    · have e' : ¬ j = v := fun z => e z.symm
      rw [if_neg e]
      by_cases m : j ∈ vs
      · simp [m]
      · simp [m, e']
theorem wipe_set {σ : L2.St} {i : Nat} {x : Option V} {vs : List Nat} (h : i ∈ vs) : L2.wipe (σ.set i x) vs = L2.wipe σ vs := by
  refine List.ext_getElem? fun j => ?_
  rw [wipe_get, wipe_get, List.getElem?_set]
  by_cases e : i = j
  · subst e
    rw [if_pos h, if_pos h, if_pos rfl]
    by_cases l : i < σ.length
    · simp [l]
    · simp [l]
  · rw [if_neg e]
theorem wipe_wipe (σ : L2.St) (vs : List Nat) : L2.wipe (L2.wipe σ vs) vs = L2.wipe σ vs := by
  refine List.ext_getElem? fun j => ?_
  rw [wipe_get, wipe_get]
  by_cases m : j ∈ vs
  · rw [if_pos m, if_pos m]
    cases σ[j]? <;> rfl
  · rw [if_neg m]
/-- a target that stores in vs alone -/
def upGw (w : World) (K : PySem.W.Frag) (vs : List Nat) (t : DTG) : TG := fun v σ H Q => ∃ d τ S, Rel w K τ S σ H ∧ RD K H d v ∧ t d τ S fun τ' S' => ∀ σ' H', LeH H H' → Rel w K τ' S' σ' H' → L2.wipe σ' vs = L2.wipe σ vs → Q σ' H'
def upGsw (w : World) (K : PySem.W.Frag) (vs : List Nat) (t : DTGs) : TGs := fun us σ H Q => ∃ ds τ S, Rel w K τ S σ H ∧ RDs K H ds us ∧ t ds τ S fun τ' S' => ∀ σ' H', LeH H H' → Rel w K τ' S' σ' H' → L2.wipe σ' vs = L2.wipe σ vs → Q σ' H'
structure DGw (X : Cx) (vs : List Nat) (tg : Expr) (t : DTG) : Prop where
  mono : ∀ d τ S (Q Q' : DSt → DH → Prop), (∀ τ S, Q τ S → Q' τ S) → t d τ S Q → t d τ S Q'
  run : PG X tg (upGw X.w X.K vs t)
structure DGsw (X : Cx) (vs : List Nat) (tg : List Expr) (t : DTGs) : Prop where
  mono : ∀ d τ S (Q Q' : DSt → DH → Prop), (∀ τ S, Q τ S → Q' τ S) → t d τ S Q → t d τ S Q'
  run : PGs X tg (upGsw X.w X.K vs t)
section
variable {X : Cx} {tg e : Expr} {tgs : List Expr} {t : DTG} {ts : DTGs} {te : DTE} {pos : Pos} {vs : List Nat}
theorem dw_name {i : Nat} {x : Str} (hN : X.N.Nodup) (hi : X.N[i]? = some x) (hx : Loc X.env.scope x) (hv : i ∈ vs) (hf : X.fn x = true ∨ X.env.scope.names.lookup x = some .local := by first | exact .inl rfl | exact .inr rfl | assumption) : DGw X vs (.Name x pos) (dGN i) :=
  ⟨fun _ _ _ _ _ k q => k _ _ q, pG_imp (pg_name hN hi hx hf) fun v σ H Q ⟨d, τ, S, r, rd, q⟩ => q _ _ (LeH.refl H) ⟨r.st.set i rd, r.rep⟩ (wipe_set hv)⟩
end
/-- the block's parts, at any block -/
structure Blk (X : Cx) (scope : Scope) (vs : List Nat) (elt tg : Expr) (ifs : List Expr) (g : DTG) (tt : DTT) (te : DTE) : Prop where
  hg : ∀ (s : Shared) (H : Hp) (C : Addr) (cl : List (Str × Addr)) (fp : List Addr), DGw (X.blk s H scope (compEnvC scope cl C X.env) fp) vs tg g
  ht : ∀ (s : Shared) (H : Hp) (C : Addr) (cl : List (Str × Addr)) (fp : List Addr), DTs (X.blk s H scope (compEnvC scope cl C X.env) fp) ifs tt
  he : ∀ (s : Shared) (H : Hp) (C : Addr) (cl : List (Str × Addr)) (fp : List Addr), DE (X.blk s H scope (compEnvC scope cl C X.env) fp) elt te
section
variable {X : Cx} {elt tg iter : Expr} {ifs : List Expr} {scope : Scope} {own : List (Str × Nat)} {pos spos py : Pos} {ti : DTI} {g : DTG} {tt : DTT} {te : DTE}
theorem dLcL_mono {X' : Cx} {vs : List Nat} (hg : DGw X' vs tg g) (ht : DTs X' ifs tt) (he : DE X' elt te) {E : DW} {τ : DSt} {G : DH → Prop} {p : Addr} {Q Q' : DH → Prop} (k : ∀ S, Q S → Q' S) : ∀ (ds : List D) (S : DH), dLcL g tt te E τ G p Q ds S → dLcL g tt te E τ G p Q' ds S
  | [], _, q => ⟨q.1, k _ q.2⟩
  | d :: ds, S, q => ⟨q.1, hg.mono _ _ _ _ _ (fun τ1 S1 z => ht.mono _ _ _ _ _ _ (fun _ _ _ _ y => y) (fun b S2 z => by
      cases b with
      | true =>
        refine he.mono _ _ _ _ _ _ (fun _ _ _ _ y => y) (fun y S3 z => ?_) z
        split at z
        · exact ⟨z.1, dLcL_mono hg ht he k ds _ z.2⟩
        · exact z
      | false => exact dLcL_mono hg ht he k ds _ z) z) q.2⟩
theorem dLc_mono {vs : List Nat} (hi : DI X tg iter ti) (B : Blk X scope vs elt tg ifs g tt te) (E E' : DW) (τ : DSt) (S : DH) (Q Q' : DK) (he : ∀ C fs τ S, E C fs τ S → E' C fs τ S) (k : ∀ d S', Q d S' → Q' d S') (q : dLc ti g tt te vs E τ S Q) : dLc ti g tt te vs E' τ S Q' :=
  hi.mono _ _ _ _ _ _ he (fun G ds S' z p hp => dLcL_mono (B.hg X.s_0 (fun _ => none) 0 [] []) (B.ht X.s_0 (fun _ => none) 0 [] []) (B.he X.s_0 (fun _ => none) 0 [] []) (fun S h => k _ _ h) ds _ (z p hp)) q
theorem dLc_up {vs : List Nat} (hi : DI X tg iter ti) (B : Blk X scope vs elt tg ifs g tt te) {σ : L2.St} {H : Hp} {Q : VK} (h : upE X (dLc ti g tt te vs) σ H Q) : tLc (upI X ti) (upGw X.w X.K vs g) (upT0 X.w X.K tt) (upE0 X.w X.K te) vs σ H Q := by
  obtain ⟨E, τ, S, w, r, q⟩ := h
  refine hi.to w r q fun G ds S0 J H0 le0 w0 r0 f z => fun p hp => ?_
  have z1 := z p (r0.rep.free hp)
  refine ⟨fun i m H' => m = ds.length - i ∧ i ≤ ds.length ∧ LeH H0 H' ∧ ∃ S', Rep X.w X.K S' H' ∧ dLcL g tt te DW0 (wipeD τ vs) G p (fun S => ∀ v H', LeH H H' → Rep X.w X.K S H' → RD X.K H' (.ref p) v → Q v H') (ds.drop i) S', ⟨ds.length, by omega, Nat.zero_le _, LeH.new hp, _, r0.rep.new hp (o := .lst []) ⟨[], upd_same, rfl⟩, z1⟩, ?_⟩
  rintro i m H1 ⟨rfl, hle, le1, S1, r1, q1⟩
  have st1 : RSt X.K H1 (wipeD τ vs) (L2.wipe σ vs) := (r0.st.wipe vs).le le1
  by_cases hlt : i < ds.length
  · have e0 : ds[i]? = some ds[i] := List.getElem?_eq_getElem hlt
    rw [drop_at e0] at q1
    obtain ⟨hG, q1⟩ := q1
    have again : ∀ S' H', LeH H1 H' → Rep X.w X.K S' H' → dLcL g tt te DW0 (wipeD τ vs) G p (fun S => ∀ v H', LeH H H' → Rep X.w X.K S H' → RD X.K H' (.ref p) v → Q v H') (ds.drop (i + 1)) S' →
        LeH H0 H' ∧ ∃ S', Rep X.w X.K S' H' ∧ dLcL g tt te DW0 (wipeD τ vs) G p (fun S => ∀ v H', LeH H H' → Rep X.w X.K S H' → RD X.K H' (.ref p) v → Q v H') (ds.drop (i + 1)) S' := fun S' H' le r' y => ⟨le1.trans le, S', r', y⟩
    refine .inr ⟨f.go i S1 H1 le1 r1 hG hlt, _, fun H2 y => ⟨ds.length - (i + 1), by omega, rfl, hlt, y⟩, fun x H2 hy => ?_⟩
    obtain ⟨le2, rp2, d, ed, rd⟩ := f.yld i S1 H1 x H2 le1 r1 hG hlt hy
    rw [e0] at ed
    cases ed
    refine ⟨ds[i], wipeD τ vs, S1, ⟨st1.le le2, rp2⟩, rd, (B.hg X.s_0 (fun _ => none) 0 [] []).mono _ _ _ _ _ (fun τ3 S3 q3 σ3 H3 le3 r3 hw => ?_) q1⟩
    refine ⟨hw.trans (wipe_wipe σ vs), τ3, S3, r3, (B.ht X.s_0 (fun _ => none) 0 [] []).mono _ _ _ _ _ _ (fun _ _ _ _ y => y) (fun b S4 q4 H4 le4 r4 => ?_) q3⟩
    cases b with
    | false => exact again S4 H4 (le2.trans (le3.trans le4)) r4 q4
    | true =>
      refine ⟨τ3, S4, ⟨r3.st.le le4, r4⟩, (B.he X.s_0 (fun _ => none) 0 [] []).mono _ _ _ _ _ _ (fun _ _ _ _ y => y) (fun y S5 q5 v H5 le5 r5 rv => ?_) q4⟩
      split at q5
      · rename_i acc ea
        obtain ⟨xs, hx, rxs⟩ : ∃ xs, H5 p = some (.lst xs) ∧ RDs X.K H5 acc xs := r5 p _ ea
        have le6 : LeH H5 (upd H5 p (.lst (xs ++ [v]))) := LeH.put hx trivial
        exact ⟨xs, hx, by rw [← rxs.length]; exact q5.1, again _ _ (le2.trans (le3.trans (le4.trans (le5.trans le6)))) (r5.put hx trivial (o := .lst (acc ++ [y])) ⟨_, upd_same, (rxs.snoc rv).le le6⟩) q5.2⟩
      · exact q5.elim
  · have e : i = ds.length := by omega
    subst e
    rw [List.drop_length] at q1
    exact .inl ⟨f.stop S1 H1 le1 r1 q1.1, q1.2 _ H1 (le0.trans le1) r1 rfl⟩
theorem de_lc (hc : X.calm = true) (hN : X.N.Nodup) (hi : DI X tg iter ti) (ok : BlkOk X.N X.env.scope scope own) (B : Blk X scope (own.map (·.2)) elt tg ifs g tt te) (hs : ∀ x, foldedSetIterable iter X.env x = pure x := by intro _; rfl) :
    DE X (.ListComp elt [⟨tg, iter, ifs, 0⟩] scope pos) (dLc ti g tt te (own.map (·.2))) :=
  ⟨dLc_mono hi B, pE_imp (pe_lc (g := upGw X.w X.K (own.map (·.2)) g) (tt := upT0 X.w X.K tt) (te := upE0 X.w X.K te) hc hN hi.run ok (fun s H C cl fp => (B.hg s H C cl fp).run) (fun s H C cl fp => (B.ht s H C cl fp).zero) (fun s H C cl fp => (B.he s H C cl fp).zero) hs) fun σ H Q h => dLc_up hi B h⟩
end
end Dt
set_option maxRecDepth 100000
set_option maxHeartbeats 4000000
/-! Dat3: defs and their promises, calls, instances. -/
namespace Dt
open PySem PySem.Spec L2

abbrev DXK := Addr → List (Str × D) → DH → Prop
abbrev DSp := List D → DH → DK → DXK → Prop
def lQ (w : World) (K : PySem.W.Frag) (H : Hp) (Q : VK) : DK := fun d S' => ∀ v H', LeH H H' → Rep w K S' H' → RD K H' d v → Q v H'
def lX (w : World) (K : PySem.W.Frag) (H : Hp) (E : XK) : DXK := fun C fs S' => ∀ dd ws H', LeH H H' → Rep w K S' H' → H' dd = some (.xd ws) → RKs K H' fs ws → S' dd = none → E (.ref C) (some dd) H'
def upSp (w : World) (K : PySem.W.Frag) (sp : DSp) : Sp := fun vs H Q E => ∃ ds S, Rep w K S H ∧ RDs K H ds vs ∧ sp ds S (lQ w K H Q) (lX w K H E)
structure DFn (P : Program) (w : World) (K : PySem.W.Frag) (mg : Str → Option Value) (base : Heap) (k : Nat) (f : Addr) (fd : FuncData) (ps : List Str) (sp : DSp) : Prop where
  mono : ∀ ds S (Q Q' : DK) (E E' : DXK), (∀ d S', Q d S' → Q' d S') → (∀ C fs S', E C fs S' → E' C fs S') → sp ds S Q E → sp ds S Q' E'
  len : ∀ ds S Q E, sp ds S Q E → ds.length = ps.length
  run : ∀ (A : Around) (outer : List Env) (s : Shared) (H : Hp) (args : Args) (us : List Value) (vs : List V) (Q : VK) (E : XK), Room k A → A.guards = some [] → Env0 P w K mg base A outer s H → BindsTo s fd args (ps.zip us) → Vals vs us →
    upSp w K sp vs H Q E → codeAny (model P w) A (.call (.ref f) args) (CR (L2.CX P w) outer P w H s Q E) s
theorem DFn.more {P : Program} {w : World} {K : PySem.W.Frag} {mg : Str → Option Value} {base : Heap} {j k : Nat} {f : Addr} {fd : FuncData} {ps : List Str} {sp : DSp} (F : DFn P w K mg base j f fd ps sp) (h : j ≤ k) : DFn P w K mg base k f fd ps sp :=
  ⟨F.mono, F.len, fun A outer s H args us vs Q E hr => F.run A outer s H args us vs Q E (hr.mono h)⟩

section
variable {X : Cx} {k : Nat} {f C : Addr} {fd : FuncData} {ps : List Str} {sp : DSp} {x m : Str} {p pos apos : Pos} {e o : Expr} {es : List Expr} {ta : DTE} {t : DTA}
theorem run_dfn {pins : List (Addr × Obj)} {s : Shared} {us : List Value} {vs : List V} {ds : List D} {E : DW} {τ : DSt} {S : DH} {σ : L2.St} {H : Hp} {Q0 : DK} {Q : VK} (F : DFn X.prog X.w X.K X.mg X.base k f fd ps sp) (hr : Room k X.A) (gu : X.A.guards = some []) (hb : Binds X.K fd ps [])
    (I : Inv X pins σ H s) (w : Wish X E H) (rl : Rel X.w X.K τ S σ H) (r : Vals vs us) (rd : RDs X.K H ds vs) (h : sp ds S Q0 (fun C fs S' => E C fs τ S')) (kq : ∀ d S' v H', LeH H H' → Rep X.w X.K S' H' → RD X.K H' d v → Q0 d S' → Q v H') :
    wpAny (model X.prog X.w) X.A (call (.ref f) us) (EP X pins σ Q) X.xe s := by
  have hl : (us ++ []).length = ps.length := by rw [List.append_nil, ← r.length, ← rd.length]; exact F.len _ _ _ _ h
  have hbd := hb s us I.kIn hl
  rw [List.append_nil] at hbd
  refine wpAny_call (codeAny_mono (F.run X.A X.stack s H ⟨us, []⟩ us vs Q (fun cls d H' => upW X.w X.K E H cls d σ H') hr gu I.env0 hbd r ⟨ds, S, rl.rep, rd, F.mono _ _ _ _ _ _ (fun d S' q v H' le rp rv => kq d S' v H' le rp rv q)
    (fun C fs S' q dd ws H' le rp hx rk hn => ⟨C, fs, τ, S', dd, ws, rfl, rfl, le, rl.le le rp, hx, rk, hn, q⟩) h⟩) fun r s' hq => ?_)
  cases r with
  | error e => exact w e s' (XE.of_call I (fun _ _ _ h => h) hq)
  | ok fl =>
    cases fl with
    | ret u => exact I.after hq
    | next => exact False.elim hq
    | brk => exact False.elim hq
    | cont => exact False.elim hq
@[simp] def dCall (sp : DSp) (t : DTA) : DTE := fun E τ S Q => t E τ S fun ds S1 => sp ds S1 Q fun C fs S' => E C fs τ S'
theorem de_call (F : DFn X.prog X.w X.K X.mg X.base k f fd ps sp) (hr : Room k X.A) (gu : X.A.guards = some []) (hg : Gl X x) (hm : X.mg x = some (.ref f)) (hk : PySem.W.keepIn X.K (.ref f) = true) (hb : Binds X.K fd ps []) (ha : DA X (e :: es) t)
    (hdb : (x == ("__debug__" : Str)) = false := by decide) (he : starEach (e :: es) X.env = (false, eval e X.env) :: starEach es X.env := by rfl) (hpl : (backTo pos (starEach es X.env)).any (·.1) = false := by rfl) :
    DE X (.Call (.Name x p) (e :: es) [] pos) (dCall sp t) := by
  refine ⟨fun E E' τ S Q Q' hE kq q => ha.mono _ _ _ _ _ _ hE (fun ds S1 z => F.mono _ _ _ _ _ _ kq (fun C fs S' y => hE _ _ _ _ y) z) q, ⟨fun pins s σ H Q I ⟨E, τ, S, w, r, q⟩ => ?_⟩⟩
  refine PySem.wpAny_Call_Name_kw (ld_glob I hg hm ?_ hdb)
  refine PySem.W.callWith_K (h₀ := X.base) I.ok.mod.kin hk (thn (ha.run.run pos pins s σ H _ I (ha.to w r q fun ds S1 vs H1 le1 w1 r1 rd1 z => (⟨LeH.refl H1, le1, w1, r1, rd1, z⟩ : LeH H1 H1 ∧ LeH H H1 ∧ Wish X E H1 ∧ Rel X.w X.K τ S1 σ H1 ∧ RDs X.K H1 ds vs ∧ _) |> fun a => (⟨ds, S1, a⟩ : ∃ ds S1, LeH H1 H1 ∧ LeH H H1 ∧ Wish X E H1 ∧ Rel X.w X.K τ S1 σ H1 ∧ RDs X.K H1 ds vs ∧ sp ds S1 (fun d S' => ∀ v H', LeH H H' → Rep X.w X.K S' H' → RD X.K H' d v → Q v H') fun C fs S' => E C fs τ S'))) fun us s1 ⟨vs, H1, I1, rv, ds, S1, _, le1, w1, r1, rd1, z⟩ => ⟨I1.kIn, ?_⟩) he hpl
  exact run_dfn F hr gu hb I1 w1 r1 rv rd1 z fun d S' v H' le rp rd q2 => q2 v H' (le1.trans le) rp rd
theorem de_call0 (F : DFn X.prog X.w X.K X.mg X.base k f fd ps sp) (hr : Room k X.A) (gu : X.A.guards = some []) (hg : Gl X x) (hm : X.mg x = some (.ref f)) (hk : PySem.W.keepIn X.K (.ref f) = true) (hb : Binds X.K fd ps [])
    (hdb : (x == ("__debug__" : Str)) = false := by decide) : DE X (.Call (.Name x p) [] [] pos) (dCall sp dNil) := by
  refine ⟨fun E E' τ S Q Q' hE kq q => F.mono _ _ _ _ _ _ kq (fun C fs S' y => hE _ _ _ _ y) q, ⟨fun pins s σ H Q I ⟨E, τ, S, w, r, q⟩ => ?_⟩⟩
  refine PySem.wpAny_Call_Name_kw (ld_glob I hg hm ?_ hdb)
  exact PySem.W.callWith_K0 I.kIn hk (run_dfn (us := []) F hr gu hb I w r .nil .nil q fun d S' v H' le rp rd q2 => q2 v H' le rp rd)

/-! ### fields of instances -/
theorem RKs.lookup {K : PySem.W.Frag} {H : Hp} : ∀ {fs : List (Str × D)} {ws : List (Str × V)} (f : Str), RKs K H fs ws → match fs.lookup f, ws.lookup f with | some d, some v => RD K H d v | none, none => True | _, _ => False
  | [], _, f, h => by cases h; trivial
  | (j, d) :: r, _, f, h => by
    obtain ⟨v, s, rfl, h1, h2⟩ := h
    simp only [List.lookup_cons]
    cases e : f == j with
    | true => exact h1
    | false => exact RKs.lookup f h2
theorem RKs.lookup_some {K : PySem.W.Frag} {H : Hp} {fs : List (Str × D)} {ws : List (Str × V)} {f : Str} {d : D} (h : RKs K H fs ws) (e : fs.lookup f = some d) : ∃ v, ws.lookup f = some v ∧ RD K H d v := by
  have := h.lookup f
  rw [e] at this
  cases q : ws.lookup f with
  | none => rw [q] at this; exact this.elim
  | some v => rw [q] at this; exact ⟨v, rfl, this⟩
theorem RKs.lookup_none {K : PySem.W.Frag} {H : Hp} {fs : List (Str × D)} {ws : List (Str × V)} {f : Str} (h : RKs K H fs ws) (e : fs.lookup f = none) : ws.lookup f = none := by
  have := h.lookup f
  rw [e] at this
  cases q : ws.lookup f with
  | none => rfl
  | some v => rw [q] at this; exact this.elim
/-- o.m(..) -/
@[simp] def dMeth (C : Addr) (m : Str) (sp : DSp) (ta : DTE) (t : DTA) : DTE := fun E τ S Q => ta E τ S fun d S1 => match d with
  | .ref a => (match S1 a with | some (.ins C' fs) => C' = C ∧ fs.lookup m = none ∧ t E τ S1 fun ds S2 => sp (.ref a :: ds) S2 Q fun C fs S' => E C fs τ S' | _ => False)
  | _ => False
theorem dMeth_mono {t : DTA} (F : DFn X.prog X.w X.K X.mg X.base k f fd ps sp) (he : DE X o ta) (ma : ∀ (E E' : DW) τ S (Q Q' : List D → DH → Prop), (∀ C fs τ S, E C fs τ S → E' C fs τ S) → (∀ d S', Q d S' → Q' d S') → t E τ S Q → t E' τ S Q')
    (E E' : DW) (τ : DSt) (S : DH) (Q Q' : DK) (hE : ∀ C fs τ S, E C fs τ S → E' C fs τ S) (kq : ∀ d S', Q d S' → Q' d S') (q : dMeth C m sp ta t E τ S Q) : dMeth C m sp ta t E' τ S Q' :=
  he.mono _ _ _ _ _ _ hE (fun d S1 z => by
    cases d with
    | ref a =>
      revert z
      show (match S1 a with | some (.ins C' fs) => _ | _ => False) → (match S1 a with | some (.ins C' fs) => _ | _ => False)
      split
      · exact fun z => ⟨z.1, z.2.1, ma _ _ _ _ _ _ hE (fun ds S2 y => F.mono _ _ _ _ _ _ kq (fun C fs S' u => hE _ _ _ _ u) y) z.2.2⟩
      · exact fun z => z
    | _ => exact z) q
theorem de_meth {pl : Sem Bool} (he : DE X o ta) (c : Cls X.K C) (hm : Meth X.K C m f) (F : DFn X.prog X.w X.K X.mg X.base k f fd ps sp) (hr : Room k X.A) (gu : X.A.guards = some []) (hb : Binds X.K fd ps []) (ha : DA X (e :: es) t)
    (hst : starEach (e :: es) X.env = (false, eval e X.env) :: starEach es X.env := by rfl) (hpl : (backTo pos (starEach es X.env)).any (·.1) = false := by rfl)
    (ht : eval (.Call (.Attribute o m apos) (e :: es) [] pos) X.env = (do let ov ← eval o X.env; standAt apos.atName; let (f, first) ← holding [ov] (getMethod ov m pl); callWith pos f first (backTo pos (starEach (e :: es) X.env)) (backToKw pos (keywordEach [] X.env))) := by rfl) :
    DE X (.Call (.Attribute o m apos) (e :: es) [] pos) (dMeth C m sp ta t) := by
  refine ⟨dMeth_mono F he ha.mono, ⟨fun pins s σ H Q I ⟨E, τ, S, w, r, q⟩ => ?_⟩⟩
  refine PySem.W.methodCall_KW (pl := pl) (thn (he.run.run pins s σ H _ I (he.to w r q fun d S1 v H1 le1 w1 r1 rd1 z => (⟨d, S1, le1, w1, r1, rd1, z⟩ : ∃ d S1, LeH H H1 ∧ Wish X E H1 ∧ Rel X.w X.K τ S1 σ H1 ∧ RD X.K H1 d v ∧ match d with
    | .ref a => (match S1 a with | some (.ins C' fs) => C' = C ∧ fs.lookup m = none ∧ t E τ S1 fun ds S2 => sp (.ref a :: ds) S2 (fun d S' => ∀ v H', LeH H H' → Rep X.w X.K S' H' → RD X.K H' d v → Q v H') fun C fs S' => E C fs τ S' | _ => False)
    | _ => False))) fun u s1 ⟨v, H1, I1, rv, d, S1, le1, w1, r1, rd1, z⟩ => ?_) ht
  cases d with
  | ref a =>
    obtain rfl : v = V.ref a := rd1
    obtain rfl : u = Value.ref a := rv
    revert z
    show (match S1 a with | some (.ins C' fs) => _ | _ => False) → _
    split
    · rename_i C' fs ea
      rintro ⟨rfl, hl, z⟩
      obtain ⟨dx, ws, eh, rk⟩ : ∃ dx ws, H1 a = some (.ins C' dx ws) ∧ RKs X.K H1 fs ws := r1.rep a _ ea
      refine getmeth_ok I1 eh c hm (rk.lookup_none hl) ?_
      refine PySem.W.callWith_K (first := [.ref a]) (h₀ := X.base) I.ok.mod.kin hm.kp (thn (ha.run.run pos pins s1 σ H1 _ I1 (ha.to w1 r1 z fun ds S2 vs H2 le2 w2 r2 rd2 y => (⟨ds, S2, le2, w2, r2, rd2, y⟩ : ∃ ds S2, LeH H1 H2 ∧ Wish X E H2 ∧ Rel X.w X.K τ S2 σ H2 ∧ RDs X.K H2 ds vs ∧
        sp (.ref a :: ds) S2 (fun d S' => ∀ v H', LeH H H' → Rep X.w X.K S' H' → RD X.K H' d v → Q v H') fun C fs S' => E C fs τ S'))) fun us s2 ⟨vs, H2, I2, rv2, ds, S2, le2, w2, r2, rd2, y⟩ => ⟨I2.kIn, ?_⟩) hst hpl
      exact run_dfn (us := .ref a :: us) (vs := .ref a :: vs) F hr gu hb I2 w2 r2 (.cons rfl rv2) (RDs.cons (d := .ref a) rfl rd2) y fun d S' v H' le rp rd q2 => q2 v H' (le1.trans (le2.trans le)) rp rd
    · exact fun z => z.elim
  | _ => exact z.elim
theorem de_meth0 {pl : Sem Bool} (he : DE X o ta) (c : Cls X.K C) (hm : Meth X.K C m f) (F : DFn X.prog X.w X.K X.mg X.base k f fd ps sp) (hr : Room k X.A) (gu : X.A.guards = some []) (hb : Binds X.K fd ps [])
    (ht : eval (.Call (.Attribute o m apos) [] [] pos) X.env = (do let ov ← eval o X.env; standAt apos.atName; let (f, first) ← holding [ov] (getMethod ov m pl); callWith pos f first (backTo pos (starEach [] X.env)) (backToKw pos (keywordEach [] X.env))) := by rfl) :
    DE X (.Call (.Attribute o m apos) [] [] pos) (dMeth C m sp ta dNil) := by
  refine ⟨dMeth_mono F he (fun _ _ _ _ _ _ _ k q => k _ _ q), ⟨fun pins s σ H Q I ⟨E, τ, S, w, r, q⟩ => ?_⟩⟩
  refine PySem.W.methodCall_KW (pl := pl) (thn (he.run.run pins s σ H _ I (he.to w r q fun d S1 v H1 le1 w1 r1 rd1 z => (⟨d, S1, le1, w1, r1, rd1, z⟩ : ∃ d S1, LeH H H1 ∧ Wish X E H1 ∧ Rel X.w X.K τ S1 σ H1 ∧ RD X.K H1 d v ∧ match d with
    | .ref a => (match S1 a with | some (.ins C' fs) => C' = C ∧ fs.lookup m = none ∧ sp [.ref a] S1 (fun d S' => ∀ v H', LeH H H' → Rep X.w X.K S' H' → RD X.K H' d v → Q v H') fun C fs S' => E C fs τ S' | _ => False)
    | _ => False))) fun u s1 ⟨v, H1, I1, rv, d, S1, le1, w1, r1, rd1, z⟩ => ?_) ht
  cases d with
  | ref a =>
    obtain rfl : v = V.ref a := rd1
    obtain rfl : u = Value.ref a := rv
    revert z
    show (match S1 a with | some (.ins C' fs) => _ | _ => False) → _
    split
    · rename_i C' fs ea
      rintro ⟨rfl, hl, z⟩
      obtain ⟨dx, ws, eh, rk⟩ : ∃ dx ws, H1 a = some (.ins C' dx ws) ∧ RKs X.K H1 fs ws := r1.rep a _ ea
      refine getmeth_ok I1 eh c hm (rk.lookup_none hl) ?_
      exact PySem.W.callWith_K0 (first := [.ref a]) I1.kIn hm.kp (run_dfn (us := [.ref a]) (vs := [.ref a]) F hr gu hb I1 w1 r1 (.cons rfl .nil) (RDs.cons (d := .ref a) rfl .nil) z fun d S' v H' le rp rd q2 => q2 v H' (le1.trans le) rp rd)
    · exact fun z => z.elim
  | _ => exact z.elim
end

/-! ### a def by its body -/
def dstart (N : List Str) (ds : List D) : DSt := ds.map some ++ List.replicate (N.length - ds.length) none
theorem dstart_rel {K : PySem.W.Frag} {H : Hp} {N : List Str} {ds : List D} {vs : List V} (r : RDs K H ds vs) : RSt K H (dstart N ds) (L2.start N vs) := by
  refine ⟨by simp [dstart, L2.start, r.length], fun i d e => ?_⟩
  unfold dstart at e
  unfold L2.start
  by_cases l : i < ds.length
  · rw [List.getElem?_append_left (by simpa using l), List.getElem?_map] at e
    rw [List.getElem?_append_left (by simpa [← r.length] using l), List.getElem?_map]
    cases q : ds[i]? with
    | none => rw [q] at e; cases e
    | some d' =>
      rw [q] at e
      cases e
      obtain ⟨v, h1, h2⟩ := r.get q
      exact ⟨v, by rw [h1]; rfl, h2⟩
  · rw [List.getElem?_append_right (by simpa using l), List.getElem?_replicate] at e
    split at e <;> cases e
theorem guards_deeper {A : Around} {env : Env} (h : A.guards = some []) : (A.deeper env).guards = some [] := by
  first | exact h | (simp [Around.deeper, h])
end Dt
set_option maxRecDepth 100000
set_option maxHeartbeats 4000000
/-! DatU: lists that are written no more are values; what is no more needed is let go. -/
namespace Dt
open PySem PySem.Spec L2

def delo (S : DH) (a : Addr) : DH := fun b => if b = a then none else S b
@[simp] theorem delo_upo {S : DH} {p : Addr} {o : Ob} : delo (upo S p o) p = delo S p := by
  funext b
  unfold delo upo
  split <;> rfl
theorem delo_none {S : DH} {p : Addr} (h : S p = none) : delo S p = S := by
  funext b
  unfold delo
  split
  · rename_i e
    rw [e, h]
  · rfl
/-- a data heap that tells less -/
def Sub (S' S : DH) : Prop := ∀ b o, S' b = some o → S b = some o
theorem Sub.refl (S : DH) : Sub S S := fun _ _ h => h
theorem Sub.trans {S1 S2 S3 : DH} (a : Sub S1 S2) (b : Sub S2 S3) : Sub S1 S3 := fun x o h => b x o (a x o h)
theorem Sub.delo (S : DH) (a : Addr) : Sub (delo S a) S := fun b o h => by
  unfold Dt.delo at h
  split at h
  · cases h
  · exact h
theorem Sub.new {S : DH} {p : Addr} {o : Ob} (h : S p = none) : Sub S (upo S p o) := fun b u e => by
  rw [upo_ne (fun z => by subst z; rw [h] at e; cases e)]
  exact e
section
variable {w : World} {K : PySem.W.Frag} {S S' : DH} {H H' : Hp}
theorem Rep.sub (r : Rep w K S H) (h : Sub S' S) : Rep w K S' H := fun a o e => r a o (h a o e)
end
section
variable {X : Cx} {pins : List (Addr × Obj)} {σ : L2.St} {H : Hp} {s : Shared}
/-- the list at a is written no more -/
theorem inv_frz {a : Addr} {xs : List V} (I : Inv X pins σ H s) (e : H a = some (.lst xs)) : ∃ o, Inv X pins σ (upd H a (.frz o (.lst xs))) s := by
  obtain ⟨hz, its, n, r, eo⟩ := I.hok a _ e
  refine ⟨{ cls := .type "list", data := .seq its.toArray n }, ?_⟩
  have := I.write (t' := s.toks) (h' := s.heap) (x := a) (e := a) (o := .frz { cls := .type "list", data := .seq its.toArray n } (.lst xs)) (by rw [e]; trivial) (.inl rfl) (fun _ _ _ q => q) ⟨_, eo⟩ ⟨eo, hz, its, n, r, eo⟩
  exact this
/-! lists that are written no more, and how a value is seen then -/
mutual
inductive Vw (S : DH) (F : List Addr) : D → D → Prop
  | same (d : D) : Vw S F d d
  | lst {a : Addr} {ds es : List D} : S a = some (.lst ds) → a ∈ F → Vws S F ds es → Vw S F (.ref a) (.rol es)
  | tup {ds es : List D} : Vws S F ds es → Vw S F (.tup ds) (.tup es)
  | rol {ds es : List D} : Vws S F ds es → Vw S F (.rol ds) (.rol es)
inductive Vws (S : DH) (F : List Addr) : List D → List D → Prop
  | nil : Vws S F [] []
  | cons {d e : D} {ds es : List D} : Vw S F d e → Vws S F ds es → Vws S F (d :: ds) (e :: es)
end
theorem Vws.same {S : DH} {F : List Addr} : ∀ ds : List D, Vws S F ds ds
  | [] => .nil
  | d :: ds => .cons (.same d) (Vws.same ds)
/-- what stands behind: F's lists are told as values alone -/
def Bhd (S : DH) (F : List Addr) (S' : DH) : Prop := ∀ b o, S' b = some o → S b = some o ∧ b ∉ F
structure Frzn (w : World) (K : PySem.W.Frag) (S : DH) (F : List Addr) (H : Hp) : Prop where
  get : ∀ a ∈ F, ∀ ds, S a = some (.lst ds) → ∃ xs o, H a = some (.frz o (.lst xs)) ∧ RDs K H ds xs
end
section
variable {w : World} {K : PySem.W.Frag} {S : DH} {F : List Addr} {H : Hp}
mutual
theorem Vw.rd (f : Frzn w K S F H) : ∀ {d e : D} {v : V}, Vw S F d e → RD K H d v → RD K H e v
  | _, _, _, .same _, r => r
  | _, _, v, .lst (a := a) (ds := ds) h1 h2 h3, r => by
    obtain rfl : v = .ref a := r
    obtain ⟨xs, o, e, rs⟩ := f.get _ h2 _ h1
    exact ⟨a, xs, rfl, .inl ⟨o, e⟩, Vws.rd f h3 rs⟩
  | _, _, v, .tup h, r => by
    obtain ⟨p, xs, rfl, sq, rs⟩ : ∃ p xs, v = V.ref p ∧ SqT K H p xs ∧ RDs K H _ xs := r
    exact ⟨p, xs, rfl, sq, Vws.rd f h rs⟩
  | _, _, v, .rol h, r => by
    obtain ⟨p, xs, rfl, sq, rs⟩ : ∃ p xs, v = V.ref p ∧ SqR K H p xs ∧ RDs K H _ xs := r
    exact ⟨p, xs, rfl, sq, Vws.rd f h rs⟩
theorem Vws.rd (f : Frzn w K S F H) : ∀ {ds es : List D} {vs : List V}, Vws S F ds es → RDs K H ds vs → RDs K H es vs
  | _, _, _, .nil, r => r
  | _, _, vs, .cons h1 h2, r => by
    obtain ⟨v, r', rfl, r1, r2⟩ := r
    exact ⟨v, r', rfl, Vw.rd f h1 r1, Vws.rd f h2 r2⟩
end
end
theorem LeH.frz {H : Hp} {a : Addr} {xs : List V} {o : Obj} (e : H a = some (.lst xs)) : LeH H (upd H a (.frz o (.lst xs))) := LeH.put e trivial
section
variable {X : Cx} {pins : List (Addr × Obj)} {σ : L2.St} {s : Shared}
theorem rep_frz {w : World} {K : PySem.W.Frag} {S : DH} {H : Hp} {a : Addr} {xs : List V} {o : Obj} (r : Rep w K S H) (e : H a = some (.lst xs)) : Rep w K (delo S a) (upd H a (.frz o (.lst xs))) := fun b ob h => by
  unfold delo at h
  split at h
  · cases h
  · rename_i hb
    exact (r b ob h).at (LeH.frz e) (upd_ne hb)
/-- all of F, one by one -/
theorem frz_all {S : DH} : ∀ (F : List Addr) {H : Hp}, Inv X pins σ H s → Rep X.w X.K S H → (∀ a ∈ F, ∃ ds, S a = some (.lst ds)) → F.Nodup →
    ∃ H', Inv X pins σ H' s ∧ LeH H H' ∧ Frzn X.w X.K S F H' ∧ Rep X.w X.K (fun b => if b ∈ F then none else S b) H'
  | [], H, I, r, _, _ => ⟨H, I, LeH.refl H, ⟨fun _ h => nomatch h⟩, by simpa using r⟩
  | a :: F, H, I, r, h, nd => by
    obtain ⟨nd1, nd2⟩ := List.nodup_cons.mp nd
    obtain ⟨ds, ea⟩ := h a (List.mem_cons_self ..)
    obtain ⟨xs, eh, rs⟩ : ∃ xs, H a = some (.lst xs) ∧ RDs X.K H ds xs := r a _ ea
    obtain ⟨o, I1⟩ := inv_frz I eh
    have r1 := rep_frz (o := o) r eh
    obtain ⟨H2, I2, le2, f2, r2⟩ := frz_all (S := delo S a) F I1 r1 (fun b hb => by
      obtain ⟨ds', e'⟩ := h b (List.mem_cons_of_mem _ hb)
      refine ⟨ds', ?_⟩
      unfold delo
      rw [if_neg (fun z : b = a => nd1 (by rw [← z]; exact hb))]
      exact e') nd2
    have le1 : LeH H (upd H a (.frz o (.lst xs))) := LeH.frz eh
    refine ⟨H2, I2, le1.trans le2, ⟨fun b hb ds' e' => ?_⟩, fun b ob hb => ?_⟩
    · rcases List.mem_cons.mp hb with rfl | hb
      · rw [ea] at e'
        cases e'
        exact ⟨xs, o, le2.fl _ _ _ upd_same, rs.le (le1.trans le2)⟩
      · refine f2.get b hb ds' ?_
        unfold delo
        rw [if_neg (fun z : b = a => nd1 (by rw [← z]; exact hb))]
        exact e'
    · refine r2 b ob ?_
      have hb : (if b ∈ a :: F then none else S b) = some ob := hb
      show (if b ∈ F then none else delo S a b) = some ob
      simp only [List.mem_cons] at hb
      by_cases z : b = a
      · rw [if_pos (.inl z)] at hb
        cases hb
      · by_cases z2 : b ∈ F
        · rw [if_pos (.inr z2)] at hb
          cases hb
        · rw [if_neg (fun y => y.elim z z2)] at hb
          rw [if_neg z2]
          unfold delo
          rw [if_neg z]
          exact hb
/-- what a def gives: lists may become values, other things may be let go -/
def Rt (Q : DK) : DK := fun d S => ∃ F d' S', Vw S F d d' ∧ (∀ a ∈ F, ∃ ds, S a = some (.lst ds)) ∧ F.Nodup ∧ Bhd S F S' ∧ Q d' S'
theorem Rt.mono {Q Q' : DK} (k : ∀ d S, Q d S → Q' d S) (d : D) (S : DH) (h : Rt Q d S) : Rt Q' d S := by
  obtain ⟨F, d', S', h1, h2, h3, h4, h5⟩ := h
  exact ⟨F, d', S', h1, h2, h3, h4, k _ _ h5⟩
theorem Rt.same {Q : DK} {d : D} {S : DH} (h : Q d S) : Rt Q d S := ⟨[], d, S, .same d, (fun _ z => nomatch z), .nil, fun b o e => ⟨e, List.not_mem_nil⟩, h⟩
theorem Rt.keep {Q : DK} {d : D} {S S' : DH} (x : Sub S S') (h : Q d S) : Rt Q d S' := ⟨[], d, S, .same d, (fun _ z => nomatch z), .nil, fun b o e => ⟨x b o e, List.not_mem_nil⟩, h⟩
/-- a list of its own is given -/
theorem Rt.rol {Q : DK} {p : Addr} {S S' : DH} {ds : List D} (e : S' p = some (.lst ds)) (n : S p = none) (x : Sub S S') (h : Q (.rol ds) S) : Rt Q (.ref p) S' :=
  ⟨[p], .rol ds, S, .lst e (List.mem_singleton.mpr rfl) (Vws.same ds), fun a ha => ⟨ds, by rw [List.mem_singleton.mp ha]; exact e⟩, List.nodup_cons.mpr ⟨List.not_mem_nil, .nil⟩,
    fun b o eb => ⟨x b o eb, fun z => by rw [List.mem_singleton.mp z, n] at eb; cases eb⟩, h⟩
theorem Rt.to {S : DH} {H : Hp} {d : D} {v : V} {u : Value} {Q : DK} {Q' : VK} (I : Inv X pins σ H s) (r : Rep X.w X.K S H) (rd : RD X.K H d v) (ru : RelV v u) (h : Rt Q d S)
    (k : ∀ d S' v H', LeH H H' → Rep X.w X.K S' H' → RD X.K H' d v → Q d S' → Q' v H') : ∃ v H', Inv X pins σ H' s ∧ RelV v u ∧ LeH H H' ∧ Q' v H' := by
  obtain ⟨F, d', S', h1, h2, h3, h4, h5⟩ := h
  obtain ⟨H', I', le, f, r'⟩ := frz_all F I r h2 h3
  refine ⟨v, H', I', ru, le, k d' S' v H' le (r'.sub fun b o e => ?_) (Vw.rd f h1 (rd.le le)) h5⟩
  obtain ⟨e1, e2⟩ := h4 b o e
  show (if b ∈ F then none else S b) = some o
  rw [if_neg e2]
  exact e1
end
/-- a def by its body -/
theorem dfn_of2 {P : Program} {w : World} {K : PySem.W.Frag} {mg : Str → Option Value} {base : Heap} {x qual : Str} {st : Stmt} {f : Addr} {fd : FuncData} {N ps : List Str} {k : Nat} {sp : DSp} {t : DTS} (F : Fun K x qual st f fd) (Sc : FnScope N ps (defScope st))
    (mono : ∀ ds S (Q Q' : DK) (E E' : DXK), (∀ d S', Q d S' → Q' d S') → (∀ C fs S', E C fs S' → E' C fs S') → sp ds S Q E → sp ds S Q' E') (len : ∀ ds S Q E, sp ds S Q E → ds.length = ps.length)
    (hbody : ∀ (cdv : Value) (A : Around) (outer : List Env) (s : Shared) (H : Hp) (E : XK), Room k (A.deeper (PyProof.Rows.envOfC qual (defScope st) s.heap.objs.size f cdv)) → (A.deeper (PyProof.Rows.envOfC qual (defScope st) s.heap.objs.size f cdv)).guards = some [] →
      DSs (cxOf (L2.CX P w) P w K mg base N qual (defScope st) f cdv A outer s H E) (defBody st) t)
    (hsp : ∀ ds S Q E, sp ds S Q E → t { nx := fun _ S' => Rt Q .non S', rt := Rt Q, xe := fun C fs _ S' => ∃ S'', Sub S'' S' ∧ E C fs S'' } (dstart N ds) S) : DFn P w K mg base (k + 1) f fd ps sp := by
  obtain ⟨oc, od, kV, doc, pm, an, cdv, ct, osl, rfl, lk, hcd⟩ := F.ex
  refine ⟨mono, len, fun A outer s H args us vs Q E hr gu e0 hb r ⟨ds, S, rep, rds, q⟩ => ?_⟩
  have hl : vs.length = ps.length := by rw [← rds.length]; exact len _ _ _ _ q
  have KX : K.In s.heap := e0.mod.kin.keeps fun b o z => (e0.bs b o z).1
  have lim : s.heap.NoLimit := e0.mod.nolimit.keeps fun b o z => (e0.bs b o z).1
  refine codeAny_call_function hr.depth (KX _ _ lk) rfl Sc.co Sc.gen rfl (PySem.W.codeRec_of KX hcd) (hb _ _ _ _ ?_)
  refine wpAny_newFunctionEnv_cells Sc.kind (fun ⟨n, v⟩ hy => ?_) fun env he s1 x => ?_
  · rcases Sc.par n (List.of_mem_zip hy).1 with z | z
    · exact .inl z
    · exact .inr ⟨z, PySem.W.cellsFrom_some _ _ _ (.inl z)⟩
  subst he
  have B := hbody cdv A outer s H E (hr.deeper _) (guards_deeper gu)
  have I : Inv (cxOf (L2.CX P w) P w K mg base N qual (defScope st) f cdv A outer s H E) [] (L2.start N vs) H s1 := inv_start Sc hr.hd e0 hl r x
  have wi : Wish (cxOf (L2.CX P w) P w K mg base N qual (defScope st) f cdv A outer s H E) (fun C fs _ S' => ∃ S'', Sub S'' S' ∧ lX w K H E C fs S'') H := by
    refine Takes.imp (takes_of (E := E) rfl rfl rfl rfl) fun cls d σ H' h => ?_
    obtain ⟨C, fs, τ, S', dd, ws, rfl, rfl, le, rl, hx, rk, hn, S'', sb, h⟩ := h
    refine h dd ws H' le (rl.rep.sub sb) hx rk ?_
    cases e : S'' dd with
    | none => rfl
    | some o => rw [sb dd o e] at hn; cases hn
  have fin : ∀ {σ' : L2.St} {H' : Hp} {v : V} {u : Value} {s' : Shared}, Inv (cxOf (L2.CX P w) P w K mg base N qual (defScope st) f cdv A outer s H E) [] σ' H' s' → RelV v u → (∃ d S', LeH H H' ∧ Rep w K S' H' ∧ RD K H' d v ∧ Rt (lQ w K H Q) d S') → CE outer P w H s Q u s' :=
    fun {σ' H' v u s'} J rv ⟨d, S', le, rp, rd, y⟩ => by
      obtain ⟨v, H', J, rv, le', y⟩ := Rt.to (X := cxOf (L2.CX P w) P w K mg base N qual (defScope st) f cdv A outer s H E) J rp rd rv y fun d S' v H2 le2 rp2 rd2 z => (z v H2 (le.trans le2) rp2 rd2 : Q v H2)
      exact ⟨v, H', J.os, J.bare, J.base, J.hok, rv, y⟩
  refine ⟨lim.keeps x.toInCall.keep, codeAny_func (PySem.wpAny_mono (B.run.run [] s1 (L2.start N vs) H { nx := fun _ H' => ∃ S', LeH H H' ∧ Rep w K S' H' ∧ Rt (lQ w K H Q) .non S', rt := fun v H' => ∃ d S', LeH H H' ∧ Rep w K S' H' ∧ RD K H' d v ∧ Rt (lQ w K H Q) d S' } I ⟨_, dstart N ds, S, wi, ⟨dstart_rel rds, rep⟩, B.mono { nx := fun _ S' => Rt (lQ w K H Q) .non S', rt := Rt (lQ w K H Q), xe := fun C fs _ S' => ∃ S'', Sub S'' S' ∧ lX w K H E C fs S'' } _ _ _ ⟨fun τ S' h σ H' le r' => ?_, fun d S' h v H' le r' rv => ?_, fun _ _ h => h.elim, fun _ _ h => h.elim, fun _ _ _ _ h => h⟩ (hsp _ _ _ _ q)⟩) (fun fl s' hs => ?_) fun e s' hs => hs)⟩
  · exact ⟨S', le, r'.rep, h⟩
  · exact ⟨d, S', le, r', rv, h⟩
  · cases fl with
    | ret u =>
      obtain ⟨v, σ', H', J, rv, y⟩ := hs
      exact fin J rv y
    | next =>
      obtain ⟨σ', H', J, S', le, rp, y⟩ := hs
      exact fin (v := V.non) (u := Value.none) J rfl ⟨.non, S', le, rp, rfl, y⟩
    | brk =>
      obtain ⟨_, _, _, y⟩ := hs
      exact y.elim
    | cont =>
      obtain ⟨_, _, _, y⟩ := hs
      exact y.elim

/-! ### expressions whose list is written no more -/
theorem DE.sub {X : Cx} {e : Expr} {t t' : DTE} (h : DE X e t) (m : ∀ (E E' : DW) τ S (Q Q' : DK), (∀ C fs τ S, E C fs τ S → E' C fs τ S) → (∀ d S', Q d S' → Q' d S') → t' E τ S Q → t' E' τ S Q') (k : ∀ E τ S Q, t' E τ S Q → t E τ S Q) : DE X e t' :=
  ⟨m, pE_imp h.run fun σ H Q ⟨E, τ, S, w, r, q⟩ => ⟨E, τ, S, w, r, k _ _ _ _ q⟩⟩
/-- a list becomes a value -/
@[simp] def fzK (Q : DK) : DK := fun d S => match d with
  | .ref a => (match S a with | some (.lst ds) => Q (.rol ds) (delo S a) | _ => False)
  | d => Q d S
theorem fzK_mono {Q Q' : DK} (k : ∀ d S', Q d S' → Q' d S') (d : D) (S : DH) (h : fzK Q d S) : fzK Q' d S := by
  cases d with
  | ref a =>
    revert h
    show (match S a with | some (.lst ds) => _ | _ => False) → (match S a with | some (.lst ds) => _ | _ => False)
    split
    · exact k _ _
    · exact fun h => h
  | _ => exact k _ _ h
theorem fzK_new {Q : DK} {S : DH} {p : Addr} {ds : List D} (hp : S p = none) (h : Q (.rol ds) S) : fzK Q (.ref p) (upo S p (.lst ds)) := by
  simp only [fzK, upo_same, delo_upo, delo_none hp]
  exact h
def fzK_to {X : Cx} {pins : List (Addr × Obj)} {σ : L2.St} {s : Shared} {S : DH} {H : Hp} {d : D} {v : V} {u : Value} {Q : DK} {Q' : VK} (I : Inv X pins σ H s) (r : Rep X.w X.K S H) (rd : RD X.K H d v) (ru : RelV v u) (h : fzK Q d S)
    (k : ∀ d S' v H', LeH H H' → Rep X.w X.K S' H' → RD X.K H' d v → Q d S' → Q' v H') : EP X pins σ Q' u s := by
  cases d with
  | ref a =>
    obtain rfl : v = .ref a := rd
    revert h
    show (match S a with | some (.lst ds) => _ | _ => False) → _
    split
    · rename_i ds ea
      intro h
      obtain ⟨xs, eh, rs⟩ : ∃ xs, H a = some (.lst xs) ∧ RDs X.K H ds xs := r a _ ea
      obtain ⟨o, I1⟩ := inv_frz I eh
      exact ⟨_, _, I1, ru, k (.rol ds) (delo S a) (.ref a) _ (LeH.frz eh) (rep_frz r eh) ⟨a, xs, rfl, .inl ⟨o, upd_same⟩, rs.le (LeH.frz eh)⟩ h⟩
    · exact fun h => h.elim
  | _ => exact ⟨v, H, I, ru, k _ _ _ _ (LeH.refl H) r rd h⟩
@[simp] def dFz (t : DTE) : DTE := fun E τ S Q => t E τ S (fzK Q)
section
variable {X : Cx} {e : Expr} {t : DTE}
theorem de_fz (h : DE X e t) : DE X e (dFz t) := by
  refine ⟨fun E E' τ S Q Q' he k q => h.mono _ _ _ _ _ _ he (fzK_mono k) q, ⟨fun pins s σ H Q I ⟨E, τ, S, w, r, q⟩ => ?_⟩⟩
  refine thn (h.run.run pins s σ H (fun v H1 => ∃ d S1, LeH H H1 ∧ Rep X.w X.K S1 H1 ∧ RD X.K H1 d v ∧ fzK (fun d S' => ∀ v H', LeH H H' → Rep X.w X.K S' H' → RD X.K H' d v → Q v H') d S1) I (h.to w r q fun d S1 v H1 le w1 r1 rd z => ⟨d, S1, le, r1.rep, rd, z⟩)) fun u s' ⟨v, H1, I1, ru, d, S1, le, rp, rd, z⟩ => ?_
  exact fzK_to I1 rp rd ru z fun d S' v H' le' rp' rd' y => y v H' (le.trans le') rp' rd'
end
@[simp] def rFz (r : R2D) : R2D := fun x y S Q => r x y S (fzK Q)
theorem od_fz {X : Cx} {f : Value → Value → Sem Value} {r : R2D} (h : OpD X f r) : OpD X f (rFz r) := by
  refine ⟨fun x y S Q Q' k q => h.mono _ _ _ _ _ (fzK_mono k) q, fun pins s σ H x y v u Q I rx ry ⟨d, e, S, rep, rd, re, q⟩ => ?_⟩
  refine thn (h.run pins s σ H x y v u (fun v H1 => ∃ d S1, LeH H H1 ∧ Rep X.w X.K S1 H1 ∧ RD X.K H1 d v ∧ fzK (fun d S' => ∀ v H', LeH H H' → Rep X.w X.K S' H' → RD X.K H' d v → Q v H') d S1) I rx ry ⟨d, e, S, rep, rd, re, h.mono _ _ _ _ _ (fun z S' y v H' le rp rz => ⟨z, S', le, rp, rz, y⟩) q⟩) fun u s' ⟨v, H1, I1, ru, d, S1, le, rp, rd, z⟩ => ?_
  exact fzK_to I1 rp rd ru z fun d S' v H' le' rp' rd' y => y v H' (le.trans le') rp' rd'
end Dt
set_option maxRecDepth 100000
set_option maxHeartbeats 4000000
/-! DatN: dicts whose keys are tuples, by the library's nested keys. -/
namespace Dt
open PySem PySem.Spec L2 PySem.W

mutual
theorem rd_nested {X : Cx} {pins : List (Addr × Obj)} {σ : L2.St} {H : Hp} {s : Shared} (I : Inv X pins σ H s) : ∀ (d : D) (nk : NestedKey) (v : V) (u : Value), nkey d = some nk → RD X.K H d v → RelV v u → NestedIs s.heap nk u
  | .non, nk, v, u, e, r, q => by
    simp only [nkey, Option.some.injEq] at e
    subst e
    cases r
    cases (show u = .none from q)
    exact .none
  | .int i, nk, v, u, e, r, q => by
    simp only [nkey, Option.some.injEq] at e
    subst e
    cases r
    obtain ⟨t, rfl⟩ := q
    exact .int i t
  | .str i, nk, v, u, e, r, q => by
    simp only [nkey, Option.some.injEq] at e
    subst e
    cases r
    obtain ⟨t, rfl⟩ := q
    exact .text i t
  | .tup ds, nk, v, u, e, r, q => by
    simp only [nkey] at e
    split at e
    · rename_i ks ek
      cases e
      obtain ⟨p, xs, rfl, sq, rs⟩ : ∃ p xs, v = V.ref p ∧ SqT X.K H p xs ∧ RDs X.K H ds xs := r
      cases (show u = .ref p from q)
      obtain ⟨its, rv, ⟨o, e1, e2, n, e3⟩, hz⟩ := I.tuple sq
      exact .tup e1 e2 e3 (by simpa using rds_nested I ds ks xs its ek rs rv)
    · cases e
  | .bl _, _, _, _, e, _, _ => by simp [nkey] at e
  | .rol _, _, _, _, e, _, _ => by simp [nkey] at e
  | .ref _, _, _, _, e, _, _ => by simp [nkey] at e
theorem rds_nested {X : Cx} {pins : List (Addr × Obj)} {σ : L2.St} {H : Hp} {s : Shared} (I : Inv X pins σ H s) : ∀ (ds : List D) (ks : List NestedKey) (vs : List V) (us : List Value), nkeys ds = some ks → RDs X.K H ds vs → Vals vs us → NestedAll s.heap ks us
  | [], ks, vs, us, e, r, q => by
    simp only [nkeys, Option.some.injEq] at e
    subst e
    cases r
    cases q
    exact .nil
  | d :: ds, ks, vs, us, e, r, q => by
    simp only [nkeys] at e
    split at e
    · rename_i k1 ks1 e1 e2
      cases e
      obtain ⟨v, r', rfl, r1, r2⟩ := r
      cases q with
      | cons q1 q2 => exact .cons (rd_nested I d _ v _ e1 r1 q1) (rds_nested I ds _ r' _ e2 r2 q2)
    · cases e
end
/-- may be a key: a tuple of ints, texts, None, tuples of such -/
def okT (d : D) : Bool := match d, nkey d with | .tup _, some k => decide (k.depth ≤ 8) | _, _ => false
theorem okT_ex {d : D} (h : okT d = true) : ∃ nk, nkey d = some nk ∧ nk.depth ≤ 8 ∧ ∃ ds, d = .tup ds := by
  unfold okT at h
  split at h
  · rename_i ds k e
    exact ⟨k, e, of_decide_eq_true h, ds, rfl⟩
  · cases h
/-- entries beside keys and values -/
def RX (K : PySem.W.Frag) (H : Hp) : List (D × D) → List (NestedKey × Addr × Value) → Prop
  | [], xs => xs = []
  | (k, d) :: r, xs => ∃ nk b u s, xs = (nk, b, u) :: s ∧ (nkey k = some nk ∧ nk.depth ≤ 8 ∧ RD K H k (.ref b) ∧ ∃ v, RelV v u ∧ RD K H d v) ∧ RX K H r s
section
variable {K : PySem.W.Frag} {H H' : Hp}
theorem RX.le (le : LeH H H') : ∀ {kvs : List (D × D)} {xs : List (NestedKey × Addr × Value)}, RX K H kvs xs → RX K H' kvs xs
  | [], _, h => h
  | (_, _) :: _, _, ⟨nk, b, u, s, e, ⟨e1, e2, r1, v, r2, r3⟩, h⟩ => ⟨nk, b, u, s, e, ⟨e1, e2, r1.le le, v, r2, r3.le le⟩, RX.le le h⟩
theorem RX.length : ∀ {kvs : List (D × D)} {xs : List (NestedKey × Addr × Value)}, RX K H kvs xs → kvs.length = xs.length
  | [], _, h => by cases h; rfl
  | (_, _) :: _, _, ⟨nk, b, u, s, e, _, h⟩ => by subst e; simp [RX.length h]
theorem RX.append : ∀ {kvs ls : List (D × D)} {xs ys : List (NestedKey × Addr × Value)}, RX K H kvs xs → RX K H ls ys → RX K H (kvs ++ ls) (xs ++ ys)
  | [], _, _, _, h, k => by cases h; exact k
  | (_, _) :: _, _, _, _, ⟨nk, b, u, s, e, e1, h⟩, k => by subst e; exact ⟨nk, b, u, s ++ _, rfl, e1, RX.append h k⟩
theorem key_iff {k k' : D} {nk nk' : NestedKey} (e : nkey k = some nk) (e' : nkey k' = some nk') : nk = nk' ↔ k = k' :=
  ⟨fun h => nkey_inj k k' nk e (by rw [h]; exact e'), fun h => by rw [h, e'] at e; exact (Option.some.inj e).symm⟩
theorem RX.lk {k : D} {nk : NestedKey} (ek : nkey k = some nk) : ∀ {kvs : List (D × D)} {xs : List (NestedKey × Addr × Value)}, RX K H kvs xs →
    match Dt.lk kvs k, atKey xs nk with | some d, some p => ∃ v, RelV v p.2 ∧ RD K H d v | none, none => True | _, _ => False
  | [], _, h => by cases h; simp [Dt.lk, atKey]
  | (j, d) :: r, _, ⟨nk', b, u, s, e, ⟨e1, e2, r1, r2⟩, h⟩ => by
    subst e
    have ih := RX.lk ek h
    by_cases z : j = k
    · have z' : nk' = nk := (key_iff e1 ek).mpr z
      simp only [Dt.lk, atKey, List.find?_cons, z, z', if_true, decide_true, Option.map_some]
      exact r2
    · have z' : ¬ nk' = nk := fun y => z ((key_iff e1 ek).mp y)
      simp only [Dt.lk, atKey, List.find?_cons, z, z', if_false, decide_false]
      exact ih
theorem RX.ss {kvs : List (D × D)} {xs : List (NestedKey × Addr × Value)} {k d : D} {nk : NestedKey} (h : RX K H kvs xs) (ek : nkey k = some nk) (e : Dt.lk kvs k = some d) : ∃ p, atKey xs nk = some p ∧ ∃ v, RelV v p.2 ∧ RD K H d v := by
  have q := h.lk ek
  rw [e] at q
  split at q
  · rename_i e1 e2
    cases e1
    exact ⟨_, e2, q⟩
  · rename_i e1 _
    cases e1
  · exact q.elim
theorem RX.isSome {kvs : List (D × D)} {xs : List (NestedKey × Addr × Value)} {k : D} {nk : NestedKey} (h : RX K H kvs xs) (ek : nkey k = some nk) : (atKey xs nk).isSome = (Dt.lk kvs k).isSome := by
  have q := h.lk ek
  split at q
  · rename_i e1 e2
    rw [e1, e2]
    rfl
  · rename_i e1 e2
    rw [e1, e2]
    rfl
  · exact q.elim
theorem RX.mapv {k d : D} {nk : NestedKey} {u : Value} {v : V} (ek : nkey k = some nk) (rv : RelV v u) (rd : RD K H d v) : ∀ {kvs : List (D × D)} {xs : List (NestedKey × Addr × Value)}, RX K H kvs xs →
    RX K H (kvs.map fun q => if q.1 = k then (q.1, d) else q) (xs.map (putAt nk u))
  | [], _, h => by cases h; rfl
  | (j, _) :: _, _, ⟨nk', b, u', s, e, ⟨e1, e2, r1, r2⟩, h⟩ => by
    subst e
    by_cases z : j = k
    · have z' : nk' = nk := (key_iff e1 ek).mpr z
      simp only [List.map_cons, putAt, z, z', if_true]
      exact ⟨nk, b, u, _, rfl, ⟨ek, z' ▸ e2, z ▸ r1, v, rv, rd⟩, RX.mapv ek rv rd h⟩
    · have z' : ¬ nk' = nk := fun y => z ((key_iff e1 ek).mp y)
      simp only [List.map_cons, putAt, z, z', if_false]
      exact ⟨nk', b, u', _, rfl, ⟨e1, e2, r1, r2⟩, RX.mapv ek rv rd h⟩
theorem RX.pt {kvs : List (D × D)} {xs : List (NestedKey × Addr × Value)} {k d : D} {nk : NestedKey} {b : Addr} {u : Value} {v : V} (h : RX K H kvs xs) (ek : nkey k = some nk) (hd : nk.depth ≤ 8) (rk : RD K H k (.ref b)) (rv : RelV v u) (rd : RD K H d v) :
    RX K H (Dt.pt kvs k d) (storedH xs nk b u) := by
  unfold Dt.pt storedH
  rw [h.isSome ek]
  split
  · exact RX.mapv ek rv rd h
  · exact h.append ⟨nk, b, u, [], rfl, ⟨ek, hd, rk, v, rv, rd⟩, rfl⟩
theorem RX.dr {k : D} {nk : NestedKey} (ek : nkey k = some nk) : ∀ {kvs : List (D × D)} {xs : List (NestedKey × Addr × Value)}, RX K H kvs xs → RX K H (Dt.dr kvs k) (withoutH xs nk)
  | [], _, h => by cases h; rfl
  | (j, _) :: _, _, ⟨nk', b, u', s, e, ⟨e1, e2, r1, r2⟩, h⟩ => by
    subst e
    have ih := RX.dr ek h
    unfold Dt.dr withoutH at ih ⊢
    by_cases z : j = k
    · have z' : nk' = nk := (key_iff e1 ek).mpr z
      simp only [List.filter_cons, z, z', ne_eq, not_true, decide_false, Bool.false_eq_true, if_false]
      exact ih
    · have z' : ¬ nk' = nk := fun y => z ((key_iff e1 ek).mp y)
      simp only [List.filter_cons, z, z', ne_eq, not_false_eq_true, decide_true, if_true]
      exact ⟨nk', b, u', _, rfl, ⟨e1, e2, r1, r2⟩, ih⟩
theorem RX.get {k d : D} {i : Nat} : ∀ {kvs : List (D × D)} {xs : List (NestedKey × Addr × Value)} {i : Nat} {x : NestedKey × Addr × Value}, RX K H kvs xs → xs[i]? = some x → ∃ k d, kvs[i]? = some (k, d) ∧ nkey k = some x.1 ∧ x.1.depth ≤ 8 ∧ RD K H k (.ref x.2.1) ∧ ∃ v, RelV v x.2.2 ∧ RD K H d v
  | [], _, _, _, h, e => by cases h; simp at e
  | (j, d) :: _, _, 0, _, ⟨nk', b, u', s, e0, ⟨e1, e2, r1, r2⟩, h⟩, e => by
    subst e0
    simp at e
    subst e
    exact ⟨j, d, rfl, e1, e2, r1, r2⟩
  | (_, _) :: _, _, i + 1, _, ⟨nk', b, u', s, e0, _, h⟩, e => by
    subst e0
    obtain ⟨k, d, q⟩ := RX.get (k := .non) (d := .non) (i := 0) h (by simpa using e)
    exact ⟨k, d, by simpa using q⟩
theorem RX.nodup : ∀ {kvs : List (D × D)} {xs : List (NestedKey × Addr × Value)}, RX K H kvs xs → (kvs.map (·.1)).Nodup → (xs.map (·.1)).Nodup
  | [], _, h, _ => by cases h; exact .nil
  | (j, d) :: r, _, ⟨nk', b, u', s, e0, ⟨e1, e2, r1, r2⟩, h⟩, nd => by
    subst e0
    obtain ⟨n1, n2⟩ := List.nodup_cons.mp nd
    refine List.nodup_cons.mpr ⟨fun z => n1 ?_, RX.nodup h n2⟩
    obtain ⟨y, hy, ey⟩ := List.mem_map.mp z
    obtain ⟨i, hi⟩ := List.getElem?_of_mem hy
    obtain ⟨k, d', q1, q2, _⟩ := RX.get (k := .non) (d := .non) (i := 0) h hi
    have : k = j := nkey_inj k j nk' (by rw [q2]; exact congrArg _ ey) e1
    exact List.mem_map.mpr ⟨(k, d'), List.mem_of_getElem? q1, this⟩
end
theorem pt_nodup {kvs : List (D × D)} (k d : D) (h : (kvs.map (·.1)).Nodup) : ((pt kvs k d).map (·.1)).Nodup := by
  unfold pt
  have lkm : ∀ l : List (D × D), (lk l k).isSome = true ∨ k ∉ l.map (·.1) := fun l => by
    induction l with
    | nil => exact .inr (by simp)
    | cons q l ih =>
      obtain ⟨j, v⟩ := q
      by_cases z : j = k
      · exact .inl (by simp [lk, z])
      · rcases ih with ih | ih
        · exact .inl (by simpa [lk, z] using ih)
        · exact .inr (by simp [fun y => z (Eq.symm y)]; exact ⟨fun y => z y.symm, by simpa using ih⟩)
  split
  · have : (kvs.map fun q => if q.1 = k then (q.1, d) else q).map (·.1) = kvs.map (·.1) := by
      rw [List.map_map]
      refine List.map_congr_left fun q _ => ?_
      show (if q.1 = k then (q.1, d) else q).1 = q.1
      split <;> rfl
    rw [this]
    exact h
  · rename_i hn
    rw [List.map_append]
    refine List.nodup_append.mpr ⟨h, by simp, fun a ha b hb => ?_⟩
    simp at hb
    subst hb
    rcases lkm kvs with z | z
    · exact absurd z hn
    · exact fun y => z (y ▸ ha)
theorem pt_len {κ α : Type} [DecidableEq κ] (kvs : List (κ × α)) (k : κ) (d : α) : (pt kvs k d).length ≤ kvs.length + 1 := by
  unfold pt
  split <;> simp
section
variable {X : Cx} {pins : List (Addr × Obj)} {σ : L2.St} {H : Hp} {s : Shared} {a : Addr} {kvs : List (D × D)}
/-- a dict is looked at -/
theorem dn_open (I : Inv X pins σ H s) (r : ROb X.w X.K H a (.dN kvs)) : ∃ xs, s.heap.DictOfH (nestedKind X.prog X.w) a xs ∧ RX X.K H kvs xs ∧ (a == sysModules) = false ∧ kvs.length ≤ sizeLine ∧ (kvs.map (·.1)).Nodup ∧ Mut (H a) := by
  obtain ⟨rows, e, hl, nd, rr⟩ := r
  have x : ObjOk X.prog X.w H s.heap a (.ext (RawRows X.w rows a)) := I.hok a _ e
  obtain ⟨⟨hs, o, es, ep, ho, hx, hd, pr⟩, _⟩ := x
  have go : ∀ {kvs : List (D × D)} {rows : List (NestedKey × Addr × V)} {es : List DictEntry}, RRows X.K H kvs rows → Paired (fun (r : NestedKey × Addr × V) (e : DictEntry) => e.hash = r.1.hash X.w ∧ e.key = .ref r.2.1 ∧ RelV r.2.2 e.val) rows es →
      ∃ xs, RX X.K H kvs xs ∧ es = xs.map (entryOfKey (nestedKind X.prog X.w)) ∧ ∀ x ∈ xs, (nestedKind X.prog X.w).is s.heap x.1 x.2.1 := by
    intro kvs
    induction kvs with
    | nil =>
      intro rows es h p
      cases h
      cases p
      exact ⟨[], rfl, rfl, fun _ z => nomatch z⟩
    | cons q kvs ih =>
      obtain ⟨k, d⟩ := q
      rintro rows es ⟨nk, b, v, s', e, e1, e2, r1, r2, h⟩ p
      subst e
      cases p with
      | @cons _ en _ es' p1 p2 =>
        obtain ⟨xs, h1, h2, h3⟩ := ih h p2
        obtain ⟨hsh, ky, vl⟩ := en
        obtain ⟨q1, q2, q3⟩ := p1
        refine ⟨(nk, b, vl) :: xs, ⟨nk, b, vl, xs, rfl, ⟨e1, e2, r1, v, q3, r2⟩, h1⟩, ?_, fun x hx => ?_⟩
        · rw [List.map_cons, ← h2]
          simp only at q1 q2
          rw [q1, q2]
          rfl
        · rcases List.mem_cons.mp hx with rfl | hx
          · exact ⟨rd_nested I k nk (.ref b) (.ref b) e1 r1 rfl, e2⟩
          · exact h3 x hx
  obtain ⟨xs, h1, h2, h3⟩ := go rr pr
  exact ⟨xs, ⟨o, es, ep, ho, hx, hd, h2, h3, h1.nodup nd⟩, h1, hs, hl, nd, by rw [e]; trivial⟩
theorem rows_of {K : PySem.W.Frag} {w : World} {P : Program} {H : Hp} : ∀ {kvs : List (D × D)} {xs : List (NestedKey × Addr × Value)}, RX K H kvs xs →
    ∃ rows, RRows K H kvs rows ∧ Paired (fun (r : NestedKey × Addr × V) (e : DictEntry) => e.hash = r.1.hash w ∧ e.key = .ref r.2.1 ∧ RelV r.2.2 e.val) rows (xs.map (entryOfKey (nestedKind P w)))
  | [], _, h => by cases h; exact ⟨[], rfl, .nil⟩
  | (k, d) :: r, _, ⟨nk, b, u, s, e, ⟨e1, e2, r1, v, r2, r3⟩, h⟩ => by
    subst e
    obtain ⟨rows, h1, h2⟩ := rows_of (P := P) h
    exact ⟨(nk, b, v) :: rows, ⟨nk, b, v, rows, rfl, e1, e2, r1, r3, h1⟩, .cons ⟨rfl, rfl, r2⟩ h2⟩
/-- a dict was written -/
theorem dn_close {h' : Heap} {t : Nat} {xs : List (NestedKey × Addr × Value)} (I : Inv X pins σ H s) (mu : Mut (H a)) (hs : (a == sysModules) = false) (r : RX X.K H kvs xs) (hl : kvs.length ≤ sizeLine) (nd : (kvs.map (·.1)).Nodup) (hd : h'.DictOfH (nestedKind X.prog X.w) a xs) (sb : Heap.SameBut a s.heap h') :
    ∃ rows, Inv X pins σ (upd H a (dnHO X.w rows a)) { s with heap := h', toks := t } ∧ LeH H (upd H a (dnHO X.w rows a)) ∧ ROb X.w X.K (upd H a (dnHO X.w rows a)) a (.dN kvs) := by
  obtain ⟨rows, r1, r2⟩ := rows_of (P := X.prog) (w := X.w) r
  obtain ⟨o, es, ep, ho, hx, hdd, he, _, _⟩ := hd
  obtain ⟨u, eu⟩ : ∃ u, H a = some u := by
    cases q : H a with
    | none => rw [q] at mu; exact mu.elim
    | some u => exact ⟨u, rfl⟩
  have le : LeH H (upd H a (dnHO X.w rows a)) := LeH.put eu (by rw [← eu]; exact mu)
  refine ⟨rows, I.write (x := a) (e := a) mu (.inl rfl) (fun b u hb q => (sb.2 b hb).trans q) ⟨o, ho⟩ ⟨⟨hs, o, es, ep, ho, hx, hdd, by rw [he]; exact r2⟩, ⟨o, ho⟩, fun h1 h2 z k => ?_⟩, le, ⟨rows, upd_same, hl, nd, r1.le le⟩⟩
  obtain ⟨z1, o', es', ep', q1, q2⟩ := z
  exact ⟨z1, o', es', ep', k _ q1, q2⟩
/-- the key of a dict -/
theorem okT_key (I : Inv X pins σ H s) {k : D} {v : V} {u : Value} (h : okT k = true) (rd : RD X.K H k v) (ru : RelV v u) : ∃ nk b, nkey k = some nk ∧ nk.depth ≤ 8 ∧ v = .ref b ∧ u = .ref b ∧ (nestedKind X.prog X.w).is s.heap nk b := by
  obtain ⟨nk, e, hd, ds, rfl⟩ := okT_ex h
  obtain ⟨p, xs, rfl, _⟩ : ∃ p xs, v = V.ref p ∧ SqT X.K H p xs ∧ RDs X.K H ds xs := id rd
  cases (show u = .ref p from ru)
  exact ⟨nk, p, e, hd, rfl, rfl, rd_nested I _ nk _ _ e rd rfl, hd⟩
end
section
variable {X : Cx} {pos : Pos}
/-- {} whose keys will be tuples -/
@[simp] def dDnN : DTE := fun _ _ S Q => newO S (.dN []) fun p S' => Q (.ref p) S'
theorem de_dnN : DE X (.Dict [] [] pos) dDnN := by
  refine ⟨fun _ _ _ _ _ _ _ k q p hp => k _ _ (q p hp), ⟨fun pins s σ H Q I ⟨E, τ, S, w, r, q⟩ => ?_⟩⟩
  have hp : H s.heap.objs.size = none := I.hok.fresh (Nat.le_refl _)
  have ok : RawRows X.w [] s.heap.objs.size (s.heap.push { cls := .type "dict", data := .dict #[] }) := by
    obtain ⟨z1, z2, _⟩ := dt_empty (P := X.prog) (w := X.w) (H := H) s.heap I.big
    exact ⟨z2, _, #[], 0, Heap.get?_push_size _ rfl, ⟨rfl, rfl, rfl⟩, rfl, .nil⟩
  refine wpAny_Dict_empty ⟨.ref s.heap.objs.size, _, I.laid (a := s.heap.objs.size) (o := dnHO X.w [] s.heap.objs.size) (t' := s.toks) (fun _ _ q => Heap.get?_push_of_some _ q) (Nat.le_refl _) ⟨ok, ⟨_, Heap.get?_push_size _ rfl⟩, fun h1 h2 z k => ?_⟩, rfl, q _ (r.rep.free hp) _ _ (LeH.new hp) (r.rep.new hp (o := .dN []) ⟨[], upd_same, Nat.zero_le _, .nil, rfl⟩) rfl⟩
  obtain ⟨z1, o', es', ep', q1, q2⟩ := z
  exact ⟨z1, o', es', ep', k _ q1, q2⟩
end
end Dt
set_option maxRecDepth 100000
set_option maxHeartbeats 4000000
/-! Dat4: operators, comparisons, repr. -/
namespace Dt
open PySem PySem.Spec L2

/-! ### the library's trees -/
mutual
inductive Pd (S : DH) : D → PyData → Prop
  | non : Pd S .non .none
  | bl (b : Bool) : Pd S (.bl b) (.bool b)
  | int (i : Int) : Pd S (.int i) (.int i)
  | str (x : Str) : Pd S (.str x) (.str x)
  | tup {ds : List D} {ps : List PyData} : PdA S ds ps → Pd S (.tup ds) (.tuple ps)
  | rol {ds : List D} {ps : List PyData} : PdA S ds ps → Pd S (.rol ds) (.list ps)
  | lst {a : Addr} {ds : List D} {ps : List PyData} : S a = some (.lst ds) → PdA S ds ps → Pd S (.ref a) (.list ps)
inductive PdA (S : DH) : List D → List PyData → Prop
  | nil : PdA S [] []
  | cons {d : D} {ds : List D} {p : PyData} {ps : List PyData} : Pd S d p → PdA S ds ps → PdA S (d :: ds) (p :: ps)
end
section
variable {w : World} {K : PySem.W.Frag} {S : DH} {H : Hp}
mutual
theorem Pd.dp (rep : Rep w K S H) : ∀ (p : PyData) (d : D) (v : V), Pd S d p → RD K H d v → Dp K H v p
  | .none, _, _, h, r => by cases h; cases r; exact .non
  | .bool b, _, _, h, r => by cases h; cases r; exact .bl b
  | .int i, _, _, h, r => by cases h; cases r; exact .int i
  | .str x, _, _, h, r => by cases h; cases r; exact .str x
  | .tuple ps, _, v, h, r => by
    cases h with
    | tup hs =>
      obtain ⟨p, xs, rfl, sq, rs⟩ : ∃ p xs, v = V.ref p ∧ SqT K H p xs ∧ RDs K H _ xs := r
      exact .tup sq (PdA.dp rep ps _ _ hs rs)
  | .list ps, _, v, h, r => by
    cases h with
    | rol hs =>
      obtain ⟨p, xs, rfl, sq, rs⟩ : ∃ p xs, v = V.ref p ∧ SqR K H p xs ∧ RDs K H _ xs := r
      exact .lst sq.l (PdA.dp rep ps _ _ hs rs)
    | lst e hs =>
      cases r
      obtain ⟨xs, q, rs⟩ := rep _ _ e
      exact .lst (.of q) (PdA.dp rep ps _ _ hs rs)
  | .dict _, _, _, h, _ => by cases h
theorem PdA.dp (rep : Rep w K S H) : ∀ (ps : List PyData) (ds : List D) (vs : List V), PdA S ds ps → RDs K H ds vs → DpAll K H vs ps
  | [], _, _, h, r => by
    cases h
    cases r
    exact .nil
  | p :: ps, _, _, h, r => by
    cases h with
    | cons h1 h2 =>
      obtain ⟨v, vs, rfl, r1, r2⟩ := r
      exact .cons (Pd.dp rep p _ v h1 r1) (PdA.dp rep ps _ vs h2 r2)
end
end
/-! without addresses -/
mutual
def toP : D → PyData
  | .non => .none
  | .bl b => .bool b
  | .int i => .int i
  | .str x => .str x
  | .tup ds => .tuple (toPs ds)
  | .rol ds => .list (toPs ds)
  | .ref _ => .none
def toPs : List D → List PyData
  | [] => []
  | d :: ds => toP d :: toPs ds
end
mutual
def imm : D → Bool
  | .tup ds => imms ds
  | .rol ds => imms ds
  | .ref _ => false
  | _ => true
def imms : List D → Bool
  | [] => true
  | d :: ds => imm d && imms ds
end
mutual
theorem imm_pd (S : DH) : ∀ d : D, imm d = true → Pd S d (toP d)
  | .non, _ => .non
  | .bl b, _ => .bl b
  | .int i, _ => .int i
  | .str x, _ => .str x
  | .tup ds, h => .tup (imms_pd S ds h)
  | .rol ds, h => .rol (imms_pd S ds h)
theorem imms_pd (S : DH) : ∀ ds : List D, imms ds = true → PdA S ds (toPs ds)
  | [], _ => .nil
  | d :: ds, h => by
    have h' : (imm d && imms ds) = true := h
    rw [Bool.and_eq_true] at h'
    exact .cons (imm_pd S d h'.1) (imms_pd S ds h'.2)
end

/-! ### + - * // % ** -/
@[simp] def dAdd : R2D := fun d e S Q => match d, e with
  | .int i, .int j => Q (.int (i + j)) S
  | .str x, .str y => x.length + y.length ≤ sizeLine ∧ Q (.str (x ++ y)) S
  | .tup xs, .tup ys => xs.length + ys.length ≤ sizeLine ∧ Q (.tup (xs ++ ys)) S
  | d, e => catD S d e fun zs => newO S (.lst zs) fun p S' => Q (.ref p) S'
/-- the same, a list is written no more -/
@[simp] def dAddF : R2D := fun d e S Q => match d, e with
  | .int i, .int j => Q (.int (i + j)) S
  | .str x, .str y => x.length + y.length ≤ sizeLine ∧ Q (.str (x ++ y)) S
  | .tup xs, .tup ys => xs.length + ys.length ≤ sizeLine ∧ Q (.tup (xs ++ ys)) S
  | d, e => catD S d e fun zs => Q (.rol zs) S
theorem OpD.sub {X : Cx} {f : Value → Value → Sem Value} {r r' : R2D} (h : OpD X f r) (m : Mono2 r') (k : ∀ x y S Q, r' x y S Q → r x y S Q) : OpD X f r' :=
  ⟨m, opR_imp h.run fun x y H Q ⟨d, e, S, rep, rd, re, q⟩ => ⟨d, e, S, rep, rd, re, k _ _ _ _ q⟩⟩
section
variable {X : Cx}
theorem rep_new {w : World} {K : PySem.W.Frag} {S : DH} {H : Hp} {Q0 : DK} {Q : VK} {ds : List D} {xs : List V} {q : Addr} (rep : Rep w K S H) (hq : H q = none) (rs : RDs K H ds xs) (h : lQ w K H Q (.ref q) (upo S q (.lst ds))) : Q (.ref q) (upd H q (.lst xs)) :=
  h (.ref q) _ (LeH.new hq) (rep.new hq (o := .lst ds) ⟨xs, upd_same, rs.le (LeH.new hq)⟩) rfl
theorem rep_tup {w : World} {K : PySem.W.Frag} {S : DH} {H : Hp} {Q : VK} {ds : List D} {xs : List V} {q : Addr} (rep : Rep w K S H) (hq : H q = none) (rs : RDs K H ds xs) (h : lQ w K H Q (.tup ds) S) : Q (.ref q) (upd H q (.tup xs)) :=
  h (.ref q) _ (LeH.new hq) (rep.garb hq) ⟨q, xs, rfl, .of upd_same, rs.le (LeH.new hq)⟩
/-- lists, one behind the other -/
def rCatX (K : PySem.W.Frag) : R2 := fun x y H Q => ∃ l b xs zs, x = .ref l ∧ y = .ref b ∧ SqX K H l xs ∧ SqX K H b zs ∧ xs.length + zs.length ≤ sizeLine ∧ ∀ p, H p = none → Q (.ref p) (upd H p (.lst (xs ++ zs)))
theorem op_catX : OpR X (binaryOp .Add) (rCatX X.K) := by
  intro pins s σ H x y v u Q I rx ry h
  obtain ⟨l, b, xs, zs, rfl, rfl, hH, hB, hz, q⟩ := h
  cases rx
  cases ry
  obtain ⟨its, n, r, z, hl, e⟩ := sqX_get I hH
  obtain ⟨its2, n2, r2, z2, hl2, e2⟩ := sqX_get I hB
  refine PySem.P.add_list e e2 ?_ (by rw [List.size_toArray, List.size_toArray]; omega)
  have ea : its.toArray ++ its2.toArray = (its ++ its2).toArray := by simp
  rw [ea]
  exact ⟨.ref _, _, I.lnew (t' := s.toks) (r.append r2) (by rw [List.length_append]; omega), rfl, q _ I.fresh⟩
theorem catD_mono {S : DH} {d e : D} {k k' : List D → Prop} (h : ∀ z, k z → k' z) (q : catD S d e k) : catD S d e k' := opt_mono (fun _ q => opt_mono (fun _ q => ⟨q.1, h _ q.2⟩) q) q
theorem od_add : OpD X (binaryOp .Add) dAdd := by
  refine ⟨fun x y S Q Q' k h => ?_, fun pins s σ H x y v u Q I rx ry ⟨d, e, S, rep, rd, re, h⟩ => ?_⟩
  · unfold dAdd at h ⊢
    split at h
    · exact k _ _ h
    · exact ⟨h.1, k _ _ h.2⟩
    · exact ⟨h.1, k _ _ h.2⟩
    · exact catD_mono (fun z q p hp => k _ _ (q p hp)) h
  · unfold dAdd at h
    split at h
    · cases rd; cases re
      exact op_add pins s σ H _ _ v u Q I rx ry ⟨_, _, rfl, rfl, h _ H (LeH.refl H) rep rfl⟩
    · cases rd; cases re
      exact op_add_str pins s σ H _ _ v u Q I rx ry ⟨_, _, rfl, rfl, h.1, h.2 _ H (LeH.refl H) rep rfl⟩
    · rename_i ds es
      obtain ⟨p, xs, rfl, sq, rs⟩ : ∃ p xs, x = V.ref p ∧ SqT X.K H p xs ∧ RDs X.K H ds xs := rd
      obtain ⟨q, ys, rfl, sq2, rs2⟩ : ∃ p xs, y = V.ref p ∧ SqT X.K H p xs ∧ RDs X.K H es xs := re
      refine op_catA pins s σ H _ _ v u Q I rx ry ⟨p, q, xs, ys, rfl, rfl, sq, sq2, by rw [← rs.length, ← rs2.length]; exact h.1, fun e => ?_, fun _ e => ?_, fun _ _ p2 hp => rep_tup rep hp (rs.append rs2) h.2⟩
      · subst e
        have := rs.length
        have e2 : ds = [] := List.length_eq_zero_iff.mp (by simpa using this)
        subst e2
        exact h.2 _ H (LeH.refl H) rep ⟨q, ys, rfl, sq2, rs2⟩
      · subst e
        have := rs2.length
        have e2 : es = [] := List.length_eq_zero_iff.mp (by simpa using this)
        subst e2
        exact h.2 _ H (LeH.refl H) rep ⟨p, xs, rfl, sq, by rw [List.append_nil]; exact rs⟩
    · obtain ⟨xs, ea, h⟩ := opt_ex h
      obtain ⟨ys, eb, hz, h⟩ := opt_ex h
      obtain ⟨a, us, rfl, sa, r1⟩ := seqD_rd rep rd ea
      obtain ⟨b, ws, rfl, sb, r2⟩ := seqD_rd rep re eb
      exact op_catX pins s σ H _ _ v u Q I rx ry ⟨a, b, us, ws, rfl, rfl, sa, sb, by rw [← r1.length, ← r2.length]; exact hz, fun p hp => rep_new (Q0 := fun _ _ => True) rep hp (r1.append r2) (h p (rep.free hp))⟩
theorem od_addF : OpD X (binaryOp .Add) dAddF := (od_fz od_add).sub (fun x y S Q Q' k h => by
    unfold dAddF at h ⊢
    split at h
    · exact k _ _ h
    · exact ⟨h.1, k _ _ h.2⟩
    · exact ⟨h.1, k _ _ h.2⟩
    · exact catD_mono (fun z q => k _ _ q) h) fun x y S Q h => by
    unfold dAddF at h
    unfold rFz dAdd
    split at h
    · exact h
    · exact h
    · exact h
    · exact catD_mono (fun z q p hp => fzK_new hp q) h
/-- two ints -/
@[simp] def dII (C : Int → Int → Prop) (g : Int → Int → D) : R2D := fun d e S Q => match d, e with | .int i, .int j => C i j ∧ Q (g i j) S | _, _ => False
theorem dII_mono {C : Int → Int → Prop} {g : Int → Int → D} : Mono2 (dII C g) := fun x y S Q Q' k h => by
  cases x <;> cases y <;> first | exact h.elim | exact ⟨h.1, k _ _ h.2⟩
theorem od_II {f : Value → Value → Sem Value} {C : Int → Int → Prop} {g : Int → Int → D} {g' : Int → Int → V} (h : OpR X f (rI C g')) (hg : ∀ H i j, RD X.K H (g i j) (g' i j)) : OpD X f (dII C g) := by
  refine ⟨dII_mono, fun pins s σ H x y v u Q I rx ry ⟨d, e, S, rep, rd, re, q⟩ => ?_⟩
  cases d <;> cases e <;> first | exact q.elim | skip
  cases rd; cases re
  exact h pins s σ H _ _ v u Q I rx ry ⟨_, _, rfl, rfl, q.1, q.2 _ H (LeH.refl H) rep (hg _ _ _)⟩
theorem od_II0 {f : Value → Value → Sem Value} {g : Int → Int → D} {g' : Int → Int → V} (h : OpR X f (rI0 g')) (hg : ∀ H i j, RD X.K H (g i j) (g' i j)) : OpD X f (dII (fun _ _ => True) g) := by
  refine ⟨dII_mono, fun pins s σ H x y v u Q I rx ry ⟨d, e, S, rep, rd, re, q⟩ => ?_⟩
  cases d <;> cases e <;> first | exact q.elim | skip
  cases rd; cases re
  exact h pins s σ H _ _ v u Q I rx ry ⟨_, _, rfl, rfl, q.2 _ H (LeH.refl H) rep (hg _ _ _)⟩
theorem od_sub : OpD X (binaryOp .Sub) (dII (fun _ _ => True) fun i j => .int (i - j)) := od_II0 op_sub fun _ _ _ => rfl
theorem od_mod : OpD X (binaryOp .Mod) (dII (fun _ j => 0 < j) fun i j => .int (i % j)) := od_II op_mod fun _ _ _ => rfl
theorem od_fdiv : OpD X (binaryOp .FloorDiv) (dII CDivW fun i j => .int (i / j)) := od_II op_fdivW fun _ _ _ => rfl
theorem od_pow : OpD X (binaryOp .Pow) (dII CPow fun i j => .int (i ^ j.toNat)) := od_II op_pow fun _ _ _ => rfl
theorem od_lt : OpD X (compareOp .Lt) (dII (fun _ _ => True) fun i j => .bl (decide (i < j))) := od_II0 op_lt fun _ _ _ => rfl
theorem od_ge : OpD X (compareOp .GtE) (dII (fun _ _ => True) fun i j => .bl (decide (j ≤ i))) := od_II0 op_ge fun _ _ _ => rfl

/-! ### == -/
def dEqG (neg : Bool) : R2D := fun d e S Q => ∃ p q, Pd S d p ∧ Pd S e q ∧ SeqAt.shaped p = true ∧ SeqAt.shaped q = true ∧ Q (.bl (if neg then !PyData.eqv p q else PyData.eqv p q)) S
def dEq (neg : Bool) : R2D := fun d e S Q => match d, e with
  | .int i, .int j => Q (.bl (if neg then !(i == j) else i == j)) S
  | .str i, .str j => Q (.bl (if neg then !(i == j) else i == j)) S
  | .bl i, .bl j => Q (.bl (if neg then !(i == j) else i == j)) S
  | .non, .str j => Q (.bl neg) S
  | .str j, .non => Q (.bl neg) S
  | .int _, .str j => Q (.bl neg) S
  | .str j, .int _ => Q (.bl neg) S
  | d, e => dEqG neg d e S Q
theorem dEq_mono (neg : Bool) : Mono2 (dEq neg) := fun x y S Q Q' k h => by
  unfold dEq at h ⊢
  split at h <;> first | exact k _ _ h | exact (fun ⟨p, q, h1, h2, h3, h4, h⟩ => ⟨p, q, h1, h2, h3, h4, k _ _ h⟩ : dEqG neg _ _ S Q → dEqG neg _ _ S Q') h
theorem od_eq (hu : X.A.units + 64 < cLine) : OpD X (compareOp .Eq) (dEq false) := by
  refine ⟨dEq_mono false, fun pins s σ H x y v u Q I rx ry ⟨d, e, S, rep, rd, re, h⟩ => ?_⟩
  unfold dEq at h
  split at h
  · cases rd; cases re
    exact op_eq pins s σ H _ _ v u Q I rx ry ⟨rfl, by rw [dec_int]; exact h _ H (LeH.refl H) rep rfl⟩
  · cases rd; cases re
    exact op_eq pins s σ H _ _ v u Q I rx ry ⟨rfl, by rw [dec_str]; exact h _ H (LeH.refl H) rep rfl⟩
  · cases rd; cases re
    exact op_eq pins s σ H _ _ v u Q I rx ry ⟨rfl, by rw [dec_bl]; exact h _ H (LeH.refl H) rep rfl⟩
  · cases rd; cases re
    exact op_eq pins s σ H _ _ v u Q I rx ry ⟨rfl, h _ H (LeH.refl H) rep rfl⟩
  · cases rd; cases re
    exact op_eq pins s σ H _ _ v u Q I rx ry ⟨rfl, h _ H (LeH.refl H) rep rfl⟩
  · cases rd; cases re
    exact op_eq pins s σ H _ _ v u Q I rx ry ⟨rfl, h _ H (LeH.refl H) rep rfl⟩
  · cases rd; cases re
    exact op_eq pins s σ H _ _ v u Q I rx ry ⟨rfl, h _ H (LeH.refl H) rep rfl⟩
  · obtain ⟨p, q, h1, h2, h3, h4, h⟩ := h
    exact op_eqD hu pins s σ H _ _ v u Q I rx ry ⟨p, q, h1.dp rep p _ x rd, h2.dp rep q _ y re, h3, h4, h _ H (LeH.refl H) rep rfl⟩
theorem od_ne (hu : X.A.units + 64 < cLine) : OpD X (compareOp .NotEq) (dEq true) := by
  refine ⟨dEq_mono true, fun pins s σ H x y v u Q I rx ry ⟨d, e, S, rep, rd, re, h⟩ => ?_⟩
  unfold dEq at h
  split at h
  · cases rd; cases re
    exact op_ne pins s σ H _ _ v u Q I rx ry ⟨rfl, by rw [dec_int]; exact h _ H (LeH.refl H) rep rfl⟩
  · cases rd; cases re
    exact op_ne pins s σ H _ _ v u Q I rx ry ⟨rfl, by rw [dec_str]; exact h _ H (LeH.refl H) rep rfl⟩
  · cases rd; cases re
    exact op_ne pins s σ H _ _ v u Q I rx ry ⟨rfl, by rw [dec_bl]; exact h _ H (LeH.refl H) rep rfl⟩
  · cases rd; cases re
    exact op_ne pins s σ H _ _ v u Q I rx ry ⟨rfl, h _ H (LeH.refl H) rep rfl⟩
  · cases rd; cases re
    exact op_ne pins s σ H _ _ v u Q I rx ry ⟨rfl, h _ H (LeH.refl H) rep rfl⟩
  · cases rd; cases re
    exact op_ne pins s σ H _ _ v u Q I rx ry ⟨rfl, h _ H (LeH.refl H) rep rfl⟩
  · cases rd; cases re
    exact op_ne pins s σ H _ _ v u Q I rx ry ⟨rfl, h _ H (LeH.refl H) rep rfl⟩
  · obtain ⟨p, q, h1, h2, h3, h4, h⟩ := h
    exact op_neD hu pins s σ H _ _ v u Q I rx ry ⟨p, q, h1.dp rep p _ x rd, h2.dp rep q _ y re, h3, h4, h _ H (LeH.refl H) rep rfl⟩
/-- is None, is not None -/
@[simp] def isNon : D → Bool
  | .non => true
  | _ => false
@[simp] def dIsN (neg : Bool) : R2D := fun d e S Q => match e with | .non => Q (.bl (if neg then !isNon d else isNon d)) S | _ => False
/-- in, not in: signs in a text; data in a list or tuple of data -/
def inP (p : PyData) (ps : List PyData) : Bool := ps.any fun z => PyData.eqv z p
@[simp] def dInS (neg : Bool) : R2D := fun d e S Q => match d, e with | .str x, .str y => Q (.bl (if neg then !(!(Builtin.Str.occurrences y x 0 y.length 1).isEmpty) else !(Builtin.Str.occurrences y x 0 y.length 1).isEmpty)) S | _, _ => False
def dInL (neg : Bool) : R2D := fun d e S Q => ∃ p ps, Pd S d p ∧ Pd S e (.list ps) ∧ SeqAt.shaped p = true ∧ SeqAt.shaped (.list ps) = true ∧ Q (.bl (if neg then !inP p ps else inP p ps)) S
theorem od_inL (hu : X.A.units + 65 < cLine) : OpD X (compareOp .In) (dInL false) := by
  refine ⟨fun x y S Q Q' k ⟨p, q, h1, h2, h3, h4, h⟩ => ⟨p, q, h1, h2, h3, h4, k _ _ h⟩, fun pins s σ H x y v u Q I rx ry ⟨d, e, S, rep, rd, re, p, q, h1, h2, h3, h4, h⟩ => ?_⟩
  exact op_inD hu pins s σ H _ _ v u Q I rx ry ⟨p, q, h1.dp rep p d x rd, h2.dp rep _ e y re, h3, h4, h _ H (LeH.refl H) rep rfl⟩
theorem od_ninL (hu : X.A.units + 65 < cLine) : OpD X (compareOp .NotIn) (dInL true) := by
  refine ⟨fun x y S Q Q' k ⟨p, q, h1, h2, h3, h4, h⟩ => ⟨p, q, h1, h2, h3, h4, k _ _ h⟩, fun pins s σ H x y v u Q I rx ry ⟨d, e, S, rep, rd, re, p, q, h1, h2, h3, h4, h⟩ => ?_⟩
  exact op_notInD hu pins s σ H _ _ v u Q I rx ry ⟨p, q, h1.dp rep p d x rd, h2.dp rep _ e y re, h3, h4, h _ H (LeH.refl H) rep rfl⟩

/-! ### calls of built-ins -/
abbrev RCD := List D → DH → DK → Prop
def MonoC (r : RCD) : Prop := ∀ ds S (Q Q' : DK), (∀ d S', Q d S' → Q' d S') → r ds S Q → r ds S Q'
def upC (w : World) (K : PySem.W.Frag) (r : RCD) : List V → Hp → VK → Prop := fun vs H Q => ∃ ds S, Rep w K S H ∧ RDs K H ds vs ∧ r ds S (lQ w K H Q)
structure CallD (X : Cx) (f : Value) (r : RCD) : Prop where
  mono : MonoC r
  run : CallR X f (upC X.w X.K r)
@[simp] def dCB (r : RCD) (t : DTA) : DTE := fun E τ S Q => t E τ S fun ds S1 => r ds S1 Q
variable {x : Str} {p pos : Pos} {e : Expr} {es : List Expr} {t : DTA} {id T : String} {r : RCD}
theorem dCB_up (hr : MonoC r) (ha : DA X es t) {σ : L2.St} {H : Hp} {Q : VK} (h : upE X (dCB r t) σ H Q) : tCB (upC X.w X.K r) (upA X t) σ H Q := by
  obtain ⟨E, τ, S, w, rl, q⟩ := h
  exact ha.to w rl q fun ds S1 vs H1 le w1 r1 rd h => ⟨ds, S1, r1.rep, rd, hr _ _ _ _ (fun d S' z v H' le2 rp rv => z v H' (le.trans le2) rp rv) h⟩
theorem de_callB (hc : CallD X (.builtin id) r) (hg : Gl X x) (hm : X.mg x = none) (hv : bootBuiltins x = some (.builtin id)) (ha : DA X (e :: es) t) (hn : x ≠ "__name__" := by decide) (hdb : (x == ("__debug__" : Str)) = false := by decide)
    (he : starEach (e :: es) X.env = (false, eval e X.env) :: starEach es X.env := by rfl) (hpl : (backTo pos (starEach es X.env)).any (·.1) = false := by rfl) : DE X (.Call (.Name x p) (e :: es) [] pos) (dCB r t) :=
  ⟨fun _ _ _ _ _ _ hE k q => ha.mono _ _ _ _ _ _ hE (fun _ _ z => hc.mono _ _ _ _ k z) q, pE_imp (pe_callB hc.run hg hm hv ha.run hn hdb he hpl) fun _ _ _ h => dCB_up hc.mono ha h⟩
theorem de_callTy (hc : CallD X (.type T) r) (hg : Gl X x) (hm : X.mg x = none) (hv : bootBuiltins x = some (.type T)) (ha : DA X (e :: es) t) (hn : x ≠ "__name__" := by decide) (hdb : (x == ("__debug__" : Str)) = false := by decide)
    (he : starEach (e :: es) X.env = (false, eval e X.env) :: starEach es X.env := by rfl) (hpl : (backTo pos (starEach es X.env)).any (·.1) = false := by rfl) : DE X (.Call (.Name x p) (e :: es) [] pos) (dCB r t) :=
  ⟨fun _ _ _ _ _ _ hE k q => ha.mono _ _ _ _ _ _ hE (fun _ _ z => hc.mono _ _ _ _ k z) q, pE_imp (pe_callTy hc.run hg hm hv ha.run hn hdb he hpl) fun _ _ _ h => dCB_up hc.mono ha h⟩
theorem rds1 {K : PySem.W.Frag} {H : Hp} {d : D} {vs : List V} (r : RDs K H [d] vs) : ∃ v, vs = [v] ∧ RD K H d v := by
  obtain ⟨v, _, rfl, h, rfl⟩ := r
  exact ⟨v, rfl, h⟩
theorem rds2 {K : PySem.W.Frag} {H : Hp} {d e : D} {vs : List V} (r : RDs K H [d, e] vs) : ∃ v u, vs = [v, u] ∧ RD K H d v ∧ RD K H e u := by
  obtain ⟨v, _, rfl, h, u, _, rfl, h2, rfl⟩ := r
  exact ⟨v, u, rfl, h, h2⟩
/-- repr -/
def cRepr : RCD := fun ds S Q => match ds with | [d] => ∃ p, Pd S d p ∧ p.showable = true ∧ p.depth ≤ 100 ∧ p.shown.length ≤ sizeLine ∧ Q (.str p.shown) S | _ => False
end
end Dt
set_option maxRecDepth 100000
set_option maxHeartbeats 4000000
/-! Dat5: subscripts, slices, dicts, built-ins, methods, what is walked. -/
namespace Dt
open PySem PySem.Spec L2

/-! ### keys -/
@[simp] def dkey : D → Option Key
  | .int i => some (.inl i)
  | .str x => some (.inr x)
  | _ => none
def dkeys : List D → Option (List Key)
  | [] => some []
  | d :: ds => match dkey d, dkeys ds with | some k, some ks => some (k :: ks) | _, _ => none
def tkey : D → Option (List Key)
  | .tup ds => dkeys ds
  | _ => none
section
variable {w : World} {K : PySem.W.Frag} {S : DH} {H : Hp}
theorem dkey_rd {d : D} {k : Key} {v : V} (e : dkey d = some k) (r : RD K H d v) : v = kV k := by
  cases d <;> cases e <;> exact r
/-- a key tuple of the heap: not one of the written part -/
def TrkT (K : PySem.W.Frag) (H : Hp) (d : D) (v : V) : Prop := ∃ p ks, v = .ref p ∧ tkey d = some ks ∧ H p = some (.tup (ks.map kV))
end
/-! ### o[i] -/
@[simp] def dIxS : R2D := fun d e S Q => match d, e with
  | .tup ds, .int i => opt (atI ds i) fun x => Q x S
  | .rol ds, .int i => opt (atI ds i) fun x => Q x S
  | .str z, .int i => z.length ≤ sizeLine ∧ opt (atI z.cps.toList i) fun c => Q (.str ⟨#[c]⟩) S
  | .ref a, e => (match S a with
    | some (.lst ds) => (match e with | .int i => opt (atI ds i) fun x => Q x S | _ => False)
    | some (.dK kvs) => opt (dkey e) fun k => opt (lk kvs k) fun x => Q x S
    | some (.dN kvs) => okT e = true ∧ opt (lk kvs e) fun x => Q x S
    | _ => False)
  | _, _ => False
def IxD (X : Cx) (r : R2D) : Prop := Mono2 r ∧ IxR X (upO X.w X.K r)
theorem atI_of {K : PySem.W.Frag} {H : Hp} {ds : List D} {xs : List V} {i : Int} {d : D} (r : RDs K H ds xs) (e : atI ds i = some d) : ∃ v, atI xs i = some v ∧ RD K H d v := by
  unfold atI at e ⊢
  rw [← r.length]
  cases q : ixN ds.length i with
  | none => rw [q] at e; cases e
  | some j =>
    rw [q] at e
    exact r.get e
section
variable {X : Cx} {a b : Expr} {ta tb : DTE} {pos : Pos}
theorem ixD_any (hu : X.A.units + 120 < cLine) : IxD X dIxS := by
  refine ⟨fun x y S Q Q' k h => ?_, fun value slice pins s σ H x y v u Q I rx ry ⟨d, e, S, rep, rd, re, h⟩ hs => ?_⟩
  · cases x with
    | tup ds => cases y <;> first | exact h.elim | exact opt_mono (fun _ z => k _ _ z) h
    | rol ds => cases y <;> first | exact h.elim | exact opt_mono (fun _ z => k _ _ z) h
    | str z => cases y <;> first | exact h.elim | exact ⟨h.1, opt_mono (fun _ z => k _ _ z) h.2⟩
    | ref a =>
      revert h
      show (match S a with | some (.lst ds) => _ | some (.dK kvs) => _ | some (.dN kvs) => _ | _ => False) → (match S a with | some (.lst ds) => _ | some (.dK kvs) => _ | some (.dN kvs) => _ | _ => False)
      split
      · intro h
        cases y <;> first | exact h.elim | exact opt_mono (fun _ z => k _ _ z) h
      · exact fun h => opt_mono (fun _ z => opt_mono (fun _ z => k _ _ z) z) h
      · exact fun h => ⟨h.1, opt_mono (fun _ z => k _ _ z) h.2⟩
      · exact fun h => h
    | _ => exact h.elim
  · cases d with
    | tup ds =>
      cases e <;> first | exact h.elim | skip
      rename_i i
      cases re
      obtain ⟨p, xs, rfl, sq, rs⟩ : ∃ p xs, x = V.ref p ∧ SqT X.K H p xs ∧ RDs X.K H ds xs := rd
      obtain ⟨z, e1, q⟩ := opt_ex h
      obtain ⟨w, e2, rw2⟩ := atI_of rs e1
      exact ix_tup value slice pins s σ H _ _ v u Q I rx ry ⟨p, xs, i, w, rfl, rfl, sq, e2, q w H (LeH.refl H) rep rw2⟩ hs
    | rol ds =>
      cases e <;> first | exact h.elim | skip
      rename_i i
      cases re
      obtain ⟨p, xs, rfl, sq, rs⟩ : ∃ p xs, x = V.ref p ∧ SqR X.K H p xs ∧ RDs X.K H ds xs := rd
      obtain ⟨z, e1, q⟩ := opt_ex h
      obtain ⟨w, e2, rw2⟩ := atI_of rs e1
      exact ix_list value slice pins s σ H _ _ v u Q I rx ry ⟨p, xs, i, w, rfl, rfl, sq.l, e2, q w H (LeH.refl H) rep rw2⟩ hs
    | str z =>
      cases e <;> first | exact h.elim | skip
      rename_i i
      cases re
      cases rd
      obtain ⟨c, e1, q⟩ := opt_ex h.2
      exact ix_str value slice pins s σ H _ _ v u Q I rx ry ⟨z, i, c, rfl, rfl, h.1, e1, q _ H (LeH.refl H) rep rfl⟩ hs
    | ref a =>
      cases rd
      revert h
      show (match S a with | some (.lst ds) => _ | some (.dK kvs) => _ | some (.dN kvs) => _ | _ => False) → _
      split
      · rename_i ds ea
        intro h
        cases e <;> first | exact h.elim | skip
        rename_i i
        cases re
        obtain ⟨xs, e0, rs⟩ : ∃ xs, H a = some (.lst xs) ∧ RDs X.K H ds xs := rep a _ ea
        obtain ⟨z, e1, q⟩ := opt_ex h
        obtain ⟨w, e2, rw2⟩ := atI_of rs e1
        exact ix_list value slice pins s σ H _ _ v u Q I rx ry ⟨a, xs, i, w, rfl, rfl, .of e0, e2, q w H (LeH.refl H) rep rw2⟩ hs
      · rename_i kvs ea
        intro h
        obtain ⟨ws, e0, rk⟩ : ∃ ws, H a = some (.dK ws) ∧ RKs X.K H kvs ws := rep a _ ea
        obtain ⟨k, ek, h⟩ := opt_ex h
        obtain ⟨z, el, q⟩ := opt_ex h
        obtain ⟨w, ew, rw2⟩ := rk.ss el
        have ey := dkey_rd ek re
        subst ey
        cases rx
        have g : DGet H a (kV k) (some w) := ew ▸ DGet.k e0
        exact PyProof.Rows.tail_any (dict_typeIs I g) PySem.F.slot_dict_getitem.lookup (d_getItem (by omega) I g ry fun w' s3 I3 r3 => ⟨w, H, I3, r3, q w H (LeH.refl H) rep rw2⟩) hs
      · rename_i kvs ea
        rintro ⟨hk, h⟩
        obtain ⟨z, el, q⟩ := opt_ex h
        obtain ⟨xs, dd, rx', hsys, hl, nd, mu⟩ := dn_open I (rep a _ ea)
        obtain ⟨nk, b, ek, _, rfl, rfl, his⟩ := okT_key I hk re ry
        obtain ⟨p, hp, w, rw1, rw2⟩ := rx'.ss ek el
        cases rx
        exact PyProof.Rows.tail_any dd.typeIs PySem.F.slot_dict_getitem.lookup (wpAny_getItem_heap (show X.A.units + 1 + 8 < cLine by omega) his dd hp ⟨w, H, I.tok _, rw1, q w H (LeH.refl H) rep rw2⟩) hs
      · exact fun h => h.elim
    | _ => exact h.elim
theorem de_ix {r : R2D} (hr : IxD X r) (ha : DE X a ta) (hb : DE X b tb) (hs : PlainIx b := by exact fun _ _ => rfl) : DE X (.Subscript a b pos) (dOp r ta tb) :=
  ⟨fun _ _ _ _ _ _ he k q => dOp_mono ha hb hr.1 he k q, pE_imp (pe_ix hr.2 ha.run hb.run hs) fun _ _ _ h => dOp_up ha hb hr.1 h⟩
end

/-! ### o[i:j] -/
abbrev DTO := DW → DSt → DH → (Option Int → DH → Prop) → Prop
def upP (X : Cx) (t : DTO) : TO := fun σ H Q => ∃ E τ S, Wish X E H ∧ Rel X.w X.K τ S σ H ∧ t E τ S fun o S' => ∀ H', LeH H H' → Rep X.w X.K S' H' → Q o H'
structure DO (X : Cx) (e : Option Expr) (t : DTO) : Prop where
  mono : ∀ (E E' : DW) τ S (Q Q' : Option Int → DH → Prop), (∀ C fs τ S, E C fs τ S → E' C fs τ S) → (∀ d S', Q d S' → Q' d S') → t E τ S Q → t E' τ S Q'
  run : PO X e (upP X t)
@[simp] def dNoP : DTO := fun _ _ S Q => Q none S
@[simp] def dSoP (te : DTE) : DTO := fun E τ S Q => te E τ S fun d S' => match d with | .int i => Q (some i) S' | _ => False
section
variable {X : Cx} {e o : Expr} {lo hi : Option Expr} {te to : DTE} {tl th : DTO} {pos p2 : Pos}
theorem pP_imp {e : Option Expr} {t t' : TO} (h : PO X e t) (k : ∀ σ H Q, t' σ H Q → t σ H Q) : PO X e t' := ⟨fun pins s σ H Q I q => h.run pins s σ H Q I (k σ H Q q)⟩
theorem do_none : DO X none dNoP := ⟨fun _ _ _ _ _ _ _ k q => k _ _ q, pP_imp po_none fun σ H Q ⟨E, τ, S, w, r, q⟩ => q H (LeH.refl H) r.rep⟩
theorem do_some (h : DE X e te) : DO X (some e) (dSoP te) := by
  refine ⟨fun E E' τ S Q Q' he k q => h.mono _ _ _ _ _ _ he (fun d S' z => ?_) q, pP_imp (po_some h.run) fun σ H Q ⟨E, τ, S, w, r, q⟩ => ?_⟩
  · cases d <;> first | exact z.elim | exact k _ _ z
  · refine h.to w r q fun d S' v H' le w' r' rd z => ?_
    cases d <;> first | exact z.elim | skip
    exact ⟨_, rd, z H' le r'.rep⟩
theorem DO.lead {t : DTO} (h : DO X lo t) {E : DW} {τ : DSt} {S : DH} {σ : L2.St} {H : Hp} {Q0 : Option Int → DH → Prop} {Q : Option Int → Hp → Prop} (w : Wish X E H) (r : Rel X.w X.K τ S σ H) (q : t E τ S Q0)
    (k : ∀ b S' H', LeH H H' → Wish X E H' → Rel X.w X.K τ S' σ H' → Q0 b S' → Q b H') : upP X t σ H Q :=
  ⟨E, τ, S, w, r, h.mono _ _ _ _ _ _ (fun _ _ _ _ z => z) (fun d S' z H' le rp => k d S' H' le (w.le le) (r.le le rp) z) q⟩
def cutD (ds : List D) (lo hi : Option Int) : List D := (ds.drop (HT.sIx ds.length 0 lo)).take (HT.sIx ds.length ds.length hi - HT.sIx ds.length 0 lo)
theorem cut_rd {K : PySem.W.Frag} {H : Hp} {ds : List D} {xs : List V} (r : RDs K H ds xs) (lo hi : Option Int) : RDs K H (cutD ds lo hi) (cutV xs lo hi) := by
  unfold cutD cutV
  rw [r.length]
  exact (r.drop _).take _
@[simp] def dSl (to : DTE) (tl th : DTO) : DTE := fun E τ S Q => to E τ S fun d S1 => tl E τ S1 fun l S2 => th E τ S2 fun h S3 => match d with
  | .str z => z.length ≤ sizeLine ∧ Q (.str (cutS z l h)) S3
  | .tup ds => Q (.tup (cutD ds l h)) S3
  | .ref a => (match S3 a with | some (.lst ds) => newO S3 (.lst (cutD ds l h)) fun p S' => Q (.ref p) S' | _ => False)
  | .rol ds => newO S3 (.lst (cutD ds l h)) fun p S' => Q (.ref p) S'
  | _ => False
theorem de_sl (ho : DE X o to) (hl : DO X lo tl) (hh : DO X hi th) : DE X (.Subscript o (.Slice lo hi none p2) pos) (dSl to tl th) := by
  refine ⟨fun E E' τ S Q Q' he k q => ho.mono _ _ _ _ _ _ he (fun d S1 z => hl.mono _ _ _ _ _ _ he (fun l S2 z => hh.mono _ _ _ _ _ _ he (fun h S3 z => ?_) z) z) q,
    pE_imp (pe_slice (sl_list.or (sl_tupA.or sl_str)) ho.run hl.run hh.run) fun σ H Q ⟨E, τ, S, w, r, q⟩ => ?_⟩
  · cases d with
    | str x => exact ⟨z.1, k _ _ z.2⟩
    | tup ds => exact k _ _ z
    | rol ds => exact fun p hp => k _ _ (z p hp)
    | ref a =>
      revert z
      show (match S3 a with | some (.lst ds) => _ | _ => False) → (match S3 a with | some (.lst ds) => _ | _ => False)
      split
      · exact fun z p hp => k _ _ (z p hp)
      · exact fun z => z
    | _ => exact z
  · refine ho.to w r q fun d S1 x H1 le1 w1 r1 rd z => hl.lead w1 r1 z fun l S2 H2 le2 w2 r2 z => hh.lead w2 r2 z fun h S3 H3 le3 w3 r3 z => ?_
    have rd3 := rd.le (le2.trans le3)
    have le := le1.trans (le2.trans le3)
    cases d with
    | str x =>
      cases rd
      exact .inr (.inr ⟨_, rfl, z.1, z.2 _ H3 le r3.rep rfl⟩)
    | tup ds =>
      obtain ⟨p, xs, rfl, sq, rs⟩ : ∃ p xs, x = V.ref p ∧ SqT X.K H3 p xs ∧ RDs X.K H3 ds xs := rd3
      refine .inr (.inl ⟨p, xs, rfl, sq, fun ⟨h1, h2⟩ => z _ H3 le r3.rep ⟨p, xs, rfl, sq, ?_⟩, fun _ q hq => ?_⟩)
      · have : cutD ds l h = ds := by
          unfold cutD
          rw [rs.length, h1, h2, List.drop_zero, Nat.sub_zero, ← rs.length, List.take_length]
        rw [this]
        exact rs
      · exact z _ _ (le.trans (LeH.new hq)) (r3.rep.garb hq) ⟨q, _, rfl, .of upd_same, (cut_rd rs l h).le (LeH.new hq)⟩
    | rol ds =>
      obtain ⟨p, xs, rfl, sq, rs⟩ : ∃ p xs, x = V.ref p ∧ SqR X.K H3 p xs ∧ RDs X.K H3 ds xs := rd3
      refine .inl ⟨p, xs, rfl, sq.l, fun q hq => ?_⟩
      exact z q (r3.rep.free hq) _ _ (le.trans (LeH.new hq)) (r3.rep.new hq (o := .lst (cutD ds l h)) ⟨_, upd_same, (cut_rd rs l h).le (LeH.new hq)⟩) rfl
    | ref a =>
      cases rd
      revert z
      show (match S3 a with | some (.lst ds) => _ | _ => False) → _
      split
      · rename_i ds ea
        intro z
        obtain ⟨xs, e0, rs⟩ : ∃ xs, H3 a = some (.lst xs) ∧ RDs X.K H3 ds xs := r3.rep a _ ea
        refine .inl ⟨a, xs, rfl, .of e0, fun q hq => ?_⟩
        exact z q (r3.rep.free hq) _ _ (le.trans (LeH.new hq)) (r3.rep.new hq (o := .lst (cutD ds l h)) ⟨_, upd_same, (cut_rd rs l h).le (LeH.new hq)⟩) rfl
      · exact fun z => z.elim
    | _ => exact z.elim
@[simp] def dSlF (to : DTE) (tl th : DTO) : DTE := fun E τ S Q => to E τ S fun d S1 => tl E τ S1 fun l S2 => th E τ S2 fun h S3 => match d with
  | .str z => z.length ≤ sizeLine ∧ Q (.str (cutS z l h)) S3
  | .tup ds => Q (.tup (cutD ds l h)) S3
  | d => opt (seqD S3 d) fun ds => Q (.rol (cutD ds l h)) S3
theorem de_slF (ho : DE X o to) (hl : DO X lo tl) (hh : DO X hi th) : DE X (.Subscript o (.Slice lo hi none p2) pos) (dSlF to tl th) :=
  (de_fz (de_sl ho hl hh)).sub (fun E E' τ S Q Q' he k q => ho.mono _ _ _ _ _ _ he (fun d S1 z => hl.mono _ _ _ _ _ _ he (fun l S2 z => hh.mono _ _ _ _ _ _ he (fun h S3 z => by
      cases d with
      | str x => exact ⟨z.1, k _ _ z.2⟩
      | tup ds => exact k _ _ z
      | _ => exact opt_mono (fun _ q => k _ _ q) z) z) z) q)
    fun E τ S Q q => ho.mono _ _ _ _ _ _ (fun _ _ _ _ z => z) (fun d S1 z => hl.mono _ _ _ _ _ _ (fun _ _ _ _ z => z) (fun l S2 z => hh.mono _ _ _ _ _ _ (fun _ _ _ _ z => z) (fun h S3 z => by
      cases d with
      | str x => exact ⟨z.1, z.2⟩
      | tup ds => exact z
      | rol ds => exact fun p hp => fzK_new hp z
      | ref a =>
        obtain ⟨ds, e, z⟩ := opt_ex z
        simp only [seqD_ref] at e
        split at e
        · rename_i xs ea
          cases e
          simp only [ea]
          exact fun p hp => fzK_new hp z
        · cases e
      | _ => cases z) z) z) q
end

/-! ### displays -/
section
variable {X : Cx} {es : List Expr} {t : DTA} {pos : Pos}
@[simp] def dTup (t : DTA) : DTE := fun E τ S Q => t E τ S fun ds S1 => ds.length ≤ sizeLine ∧ Q (.tup ds) S1
@[simp] def dLst (t : DTA) : DTE := fun E τ S Q => t E τ S fun ds S1 => ds.length ≤ sizeLine ∧ newO S1 (.lst ds) fun p S' => Q (.ref p) S'
theorem de_tup {x1} (h : DA X es t) : DE X (.Tuple es x1 pos) (dTup t) := by
  refine ⟨fun E E' τ S Q Q' he k q => h.mono _ _ _ _ _ _ he (fun ds S1 z => ⟨z.1, k _ _ z.2⟩) q, pE_imp (pe_tup h.run) fun σ H Q ⟨E, τ, S, w, r, q⟩ => ?_⟩
  refine h.to w r q fun ds S1 vs H1 le w1 r1 rd z => ⟨by rw [← rd.length]; exact z.1, fun p hp => ?_⟩
  exact z.2 _ _ (le.trans (LeH.new hp)) (r1.rep.garb hp) ⟨p, vs, rfl, .of upd_same, rd.le (LeH.new hp)⟩
theorem de_lst (h : DA X es t) : DE X (.List es pos) (dLst t) := by
  refine ⟨fun E E' τ S Q Q' he k q => h.mono _ _ _ _ _ _ he (fun ds S1 z => ⟨z.1, fun p hp => k _ _ (z.2 p hp)⟩) q, pE_imp (pe_lst h.run) fun σ H Q ⟨E, τ, S, w, r, q⟩ => ?_⟩
  refine h.to w r q fun ds S1 vs H1 le w1 r1 rd z => ⟨by rw [← rd.length]; exact z.1, fun p hp => ?_⟩
  exact z.2 p (r1.rep.free hp) _ _ (le.trans (LeH.new hp)) (r1.rep.new hp (o := .lst ds) ⟨vs, upd_same, rd.le (LeH.new hp)⟩) rfl
@[simp] def dLstF (t : DTA) : DTE := fun E τ S Q => t E τ S fun ds S1 => ds.length ≤ sizeLine ∧ Q (.rol ds) S1
theorem de_lstF (h : DA X es t) : DE X (.List es pos) (dLstF t) := (de_fz (de_lst h)).sub (fun E E' τ S Q Q' he k q => h.mono _ _ _ _ _ _ he (fun ds S1 z => ⟨z.1, k _ _ z.2⟩) q) fun E τ S Q q => h.mono _ _ _ _ _ _ (fun _ _ _ _ z => z) (fun ds S1 z => ⟨z.1, fun p hp => fzK_new hp z.2⟩) q
/-- {} with int and text keys; with keys that are tuples of such -/
@[simp] def dDnK : DTE := fun _ _ S Q => newO S (.dK []) fun p S' => Q (.ref p) S'
/-- {k: v, ..}, the keys written texts -/
@[simp] def dPairs : List (Str × DTE) → DW → DSt → DH → (List (Key × D) → DH → Prop) → Prop
  | [], _, _, S, Q => Q [] S
  | (k, tv) :: r, E, τ, S, Q => tv E τ S fun d S1 => dPairs r E τ S1 fun kvs S2 => Q ((Sum.inr k, d) :: kvs) S2
def mergeD (kvs more : List (Key × D)) : List (Key × D) := more.foldl (fun acc kv => pt acc kv.1 kv.2) kvs
@[simp] def dDisp (prs : List (Str × DTE)) : DTE := fun E τ S Q => newO S (.dK []) fun p S1 => dPairs prs E τ S1 fun kvs S2 => S2 p = some (.dK []) ∧ Q (.ref p) (upo S2 p (.dK (mergeD [] kvs)))
inductive DPs (X : Cx) (pos : Pos) : List (Option Expr) → List Expr → List (Str × DTE) → Prop where
  | nil : DPs X pos [] [] []
  | cons {k : Str} {j : Nat} {kp : Pos} {v : Expr} {ks : List (Option Expr)} {vs : List Expr} {tv : DTE} {prs : List (Str × DTE)} : DE X v tv → DPs X pos ks vs prs → DPs X pos (some (.Constant (.str k) j kp) :: ks) (v :: vs) ((k, tv) :: prs)
def trsOf (X : Cx) (prs : List (Str × DTE)) : List (TE × TE) := prs.map fun q => (tC (.str q.1), upE X q.2)
theorem DPs.mono {ks : List (Option Expr)} {vs : List Expr} {prs : List (Str × DTE)} (h : DPs X pos ks vs prs) : ∀ (E E' : DW) τ S (Q Q' : List (Key × D) → DH → Prop), (∀ C fs τ S, E C fs τ S → E' C fs τ S) → (∀ d S', Q d S' → Q' d S') → dPairs prs E τ S Q → dPairs prs E' τ S Q' := by
  induction h with
  | nil => exact fun _ _ _ _ _ _ _ k q => k _ _ q
  | cons hv _ ih => exact fun _ _ _ _ _ _ he k q => hv.mono _ _ _ _ _ _ he (fun d S1 z => ih _ _ _ _ _ _ he (fun _ _ z => k _ _ z) z) q
theorem DPs.to {ks : List (Option Expr)} {vs : List Expr} {prs : List (Str × DTE)} (h : DPs X pos ks vs prs) : ∀ {E : DW} {τ : DSt} {S : DH} {σ : L2.St} {H : Hp} {Q0 : List (Key × D) → DH → Prop} {Q : List (V × V) → Hp → Prop}, Wish X E H → Rel X.w X.K τ S σ H → dPairs prs E τ S Q0 →
    (∀ kvs S' (ws : List (Key × V)) H', LeH H H' → Wish X E H' → Rel X.w X.K τ S' σ H' → RKs X.K H' kvs ws → kvs.length = prs.length → Q0 kvs S' → Q (ws.map fun kv => (kV kv.1, kv.2)) H') → tPairs (trsOf X prs) σ H Q := by
  induction h with
  | nil => exact fun w r q k => k [] _ [] _ (LeH.refl _) w r rfl rfl q
  | @cons kk j kp v ks vs tv prs hv _ ih =>
    intro E τ S σ H Q0 Q w r q k
    refine hv.to w r q fun d S1 x H1 le1 w1 r1 rd z => ih w1 r1 z fun kvs S2 ws H2 le2 w2 r2 rk hl z => ?_
    exact k ((Sum.inr kk, d) :: kvs) S2 ((Sum.inr kk, x) :: ws) H2 (le1.trans le2) w2 r2 ⟨x, ws, rfl, rd.le le2, rk⟩ (by simp [hl]) z
end

/-! ### o[i] = e -/
section
variable {X : Cx} {o i value : Expr} {to ti tv : DTE} {pos pos' : Pos}
/-- what the place's object becomes -/
@[simp] def putO (ob : Ob) (k v : D) : Option Ob := match ob, k with
  | .lst ds, .int i => (ixN ds.length i).map fun j => .lst (ds.set j v)
  | .dK kvs, k => (dkey k).bind fun kk => if kvs.length < sizeLine then some (.dK (pt kvs kk v)) else none
  | .dN kvs, k => if okT k = true ∧ kvs.length < sizeLine then some (.dN (pt kvs k v)) else none
  | _, _ => none
@[simp] def dPut (to ti tv : DTE) : DTS := fun A τ S => tv A.xe τ S fun v S1 => to A.xe τ S1 fun d S2 => ti A.xe τ S2 fun k S3 => match d with
  | .ref a => opt (S3 a) fun ob => opt (putO ob k v) fun ob' => A.nx τ (upo S3 a ob')
  | _ => False
/-- what a store asks, told of data -/
def rPutD (K : PySem.W.Frag) (w : World) : TSet := fun o i v H Q => rSetL o i v H Q ∨ (∃ a H4, o = .ref a ∧ DPut H a i v H4 ∧ Q H4) ∨
  ∃ a kvs k d, o = .ref a ∧ ROb w K H a (.dN kvs) ∧ okT k = true ∧ RD K H k i ∧ RD K H d v ∧ kvs.length < sizeLine ∧ ∀ rows, LeH H (upd H a (dnHO w rows a)) → ROb w K (upd H a (dnHO w rows a)) a (.dN (pt kvs k d)) → Q (upd H a (dnHO w rows a))
theorem set_both (hu : X.A.units + 120 < cLine) : PSet X (rPutD X.K X.w) := by
  intro pins s σ H o i v ov iv u Q I ro ri rv h
  rcases h with h | ⟨a, H4, rfl, g, q⟩ | ⟨a, kvs, k, d, rfl, rb, hk, rk, rd, hl, q⟩
  · exact set_list pins s σ H o i v ov iv u Q I ro ri rv h
  · cases ro
    exact d_setItem (by omega) I g ri rv fun s4 I4 => ⟨H4, I4, q⟩
  · cases ro
    obtain ⟨xs, dd, rx', hsys, _, nd, mu⟩ := dn_open I rb
    obtain ⟨nk, b, ek, hd8, rfl, rfl, his⟩ := okT_key I hk rk ri
    refine wpAny_setItem_heap (show X.A.units + 1 + 8 < cLine by omega) his dd (fun h' dd' sb => ?_) (by rw [← rx'.length]; omega)
    obtain ⟨rows, I2, le, rb2⟩ := dn_close (t := s.toks + (nestedKind X.prog X.w).draws nk) I mu hsys (rx'.pt ek hd8 rk rv rd) (by have := pt_len kvs k d; omega) (pt_nodup k d nd) dd' sb
    exact ⟨_, I2, q rows le rb2⟩
theorem ds_put (hu : X.A.units + 120 < cLine) (ho : DE X o to) (hi : DE X i ti) (hv : DE X value tv) (hs : swapsWithSole [.Subscript o i pos'] value pos.line X.env = pure false := by rfl) (hw : swappedStores [.Subscript o i pos'] value X.env = pure none := by rfl)
    (h1 : (assignEach [.Subscript o i pos'] X.env).map (·.2) = [assign (.Subscript o i pos') X.env] := by rfl)
    (ha : ∀ v, assign (.Subscript o i pos') X.env v = (do let ov ← holding [v] (eval o X.env); let iv ← holding [v, ov] (eval i X.env); standAt pos'; holding [v, ov, iv] (setItem ov iv v); release [v, ov, iv] []) := by intro _; rfl) :
    DS X (.Assign [.Subscript o i pos'] value pos) (dPut to ti tv) := by
  refine ⟨fun A B τ S le q => hv.mono _ _ _ _ _ _ le.xe (fun v S1 z => ho.mono _ _ _ _ _ _ le.xe (fun d S2 z => hi.mono _ _ _ _ _ _ le.xe (fun k S3 z => ?_) z) z) q,
    pS_imp (ps_asg hv.run (pg_sub ho.run hi.run (set_both hu) ha) hs hw h1) fun D σ H ⟨E, τ, S, w, r, q⟩ => ?_⟩
  · cases d <;> first | exact z | exact opt_mono (fun _ z => opt_mono (fun _ z => le.nx _ _ z) z) z
  · refine hv.to w r q fun v S1 x H1 le1 w1 r1 rv z => ho.to w1 r1 z fun d S2 y H2 le2 w2 r2 rd z => hi.to w2 r2 z fun k S3 u H3 le3 w3 r3 rk z => ?_
    cases d with
    | ref a =>
      cases rd
      obtain ⟨ob, ea, z⟩ := opt_ex z
      obtain ⟨ob', eo, z⟩ := opt_ex z
      have rv3 := rv.le (le2.trans le3)
      have le := le1.trans (le2.trans le3)
      cases ob with
      | lst ds =>
        cases k with
        | int n =>
          cases rk
          obtain ⟨xs, e0, rs⟩ : ∃ xs, H3 a = some (.lst xs) ∧ RDs X.K H3 ds xs := r3.rep a _ ea
          have eo' : (ixN ds.length n).map (fun j => Ob.lst (ds.set j v)) = some ob' := eo
          cases ej : ixN ds.length n with
          | none =>
            rw [ej] at eo'
            cases eo'
          | some j =>
            rw [ej] at eo'
            cases eo'
            have le4 : LeH H3 (upd H3 a (.lst (xs.set j x))) := LeH.put e0 trivial
            exact .inl ⟨a, xs, n, j, rfl, rfl, e0, by rw [← rs.length]; exact ej, z _ _ (le.trans le4) (r3.le le4 (r3.rep.put e0 trivial (o := .lst (ds.set j v)) ⟨_, upd_same, (rs.set j rv3).le le4⟩))⟩
        | _ => cases eo
      | dK kvs =>
        obtain ⟨ws, e0, rk0⟩ : ∃ ws, H3 a = some (.dK ws) ∧ RKs X.K H3 kvs ws := r3.rep a _ ea
        have eo' : ((dkey k).bind fun kk => if kvs.length < sizeLine then some (Ob.dK (pt kvs kk v)) else none) = some ob' := by
          cases k <;> exact eo
        cases ek : dkey k with
        | none =>
          rw [ek] at eo'
          cases eo'
        | some kk =>
          rw [ek, Option.bind_some] at eo'
          split at eo'
          · rename_i hl
            cases eo'
            have eu := dkey_rd ek rk
            subst eu
            have le4 : LeH H3 (upd H3 a (.dK (putK ws kk x))) := LeH.put e0 trivial
            exact .inr (.inl ⟨a, _, rfl, DPut.k e0 (by rw [← rk0.length]; exact hl), z _ _ (le.trans le4) (r3.le le4 (r3.rep.put e0 trivial (o := .dK (pt kvs kk v)) ⟨_, upd_same, (rk0.pt rv3).le le4⟩))⟩)
          · cases eo'
      | dN kvs =>
        have eo' : (if okT k = true ∧ kvs.length < sizeLine then some (Ob.dN (pt kvs k v)) else none) = some ob' := by
          cases k <;> exact eo
        split at eo'
        · rename_i hk
          cases eo'
          have rb := r3.rep a _ ea
          refine .inr (.inr ⟨a, kvs, k, v, rfl, rb, hk.1, rk, rv3, hk.2, fun rows le4 rb2 => z _ _ (le.trans le4) (r3.le le4 ?_)⟩)
          obtain ⟨rows0, e0, _⟩ := rb
          exact r3.rep.put e0 trivial rb2
        · cases eo'
      | ins C fs => cases k <;> cases eo
      | exc _ _ => cases k <;> cases eo
      | xd _ => cases k <;> cases eo
      | ex0 _ => cases k <;> cases eo
      | ex1 _ _ => cases k <;> cases eo
      | xm _ => cases k <;> cases eo
      | fK _ => cases k <;> cases eo
      | fN _ => cases k <;> cases eo
    | _ => exact z.elim
end
end Dt
set_option maxRecDepth 100000
set_option maxHeartbeats 4000000
/-! Dat6: built-ins by name, methods, what is walked, isinstance, names of the module. -/
namespace Dt
open PySem PySem.Spec L2

section
variable {X : Cx}
/-! ### calls -/
@[simp] def cLen : RCD := fun ds S Q => match ds with
  | [.str z] => z.length ≤ sizeLine ∧ Q (.int z.length) S
  | [.tup xs] => Q (.int xs.length) S
  | [.rol xs] => Q (.int xs.length) S
  | [.ref a] => (match S a with | some (.lst xs) => Q (.int xs.length) S | some (.dK kvs) => Q (.int kvs.length) S | some (.dN kvs) => Q (.int kvs.length) S | _ => False)
  | _ => False
theorem cd_len : CallD X (.builtin "len") cLen := by
  refine ⟨fun ds S Q Q' k h => ?_, fun pins s σ H vs us Q I rv ⟨ds, S, rep, rd, h⟩ => ?_⟩
  · match ds, h with
    | [.str z], h => exact ⟨h.1, k _ _ h.2⟩
    | [.tup xs], h => exact k _ _ h
    | [.rol xs], h => exact k _ _ h
    | [.ref a], h =>
      revert h
      show (match S a with | some (.lst xs) => _ | some (.dK kvs) => _ | some (.dN kvs) => _ | _ => False) → (match S a with | some (.lst xs) => _ | some (.dK kvs) => _ | some (.dN kvs) => _ | _ => False)
      split
      · exact k _ _
      · exact k _ _
      · exact k _ _
      · exact fun h => h
  · match ds, h with
    | [.str z], h =>
      obtain ⟨v, rfl, r⟩ := rds1 rd
      cases r
      exact call_len_str pins s σ H _ us Q I rv ⟨z, rfl, h.1, h.2 _ H (LeH.refl H) rep rfl⟩
    | [.tup xs], h =>
      obtain ⟨v, rfl, r⟩ := rds1 rd
      obtain ⟨p, ys, rfl, sq, rs⟩ : ∃ p ys, v = V.ref p ∧ SqT X.K H p ys ∧ RDs X.K H xs ys := r
      exact call_len_seq pins s σ H _ us Q I rv ⟨p, ys, rfl, .inr sq, by rw [← rs.length]; exact h _ H (LeH.refl H) rep rfl⟩
    | [.rol xs], h =>
      obtain ⟨v, rfl, r⟩ := rds1 rd
      obtain ⟨p, ys, rfl, sq, rs⟩ : ∃ p ys, v = V.ref p ∧ SqR X.K H p ys ∧ RDs X.K H xs ys := r
      exact call_len_seq pins s σ H _ us Q I rv ⟨p, ys, rfl, .inl sq.l, by rw [← rs.length]; exact h _ H (LeH.refl H) rep rfl⟩
    | [.ref a], h =>
      obtain ⟨v, rfl, r⟩ := rds1 rd
      cases r
      revert h
      show (match S a with | some (.lst xs) => _ | some (.dK kvs) => _ | some (.dN kvs) => _ | _ => False) → _
      split
      · rename_i xs ea
        intro h
        obtain ⟨ys, e0, rs⟩ : ∃ ys, H a = some (.lst ys) ∧ RDs X.K H xs ys := rep a _ ea
        exact call_len_seq pins s σ H _ us Q I rv ⟨a, ys, rfl, .inl (.of e0), by rw [← rs.length]; exact h _ H (LeH.refl H) rep rfl⟩
      · rename_i kvs ea
        intro h
        obtain ⟨ws, e0, rk⟩ : ∃ ws, H a = some (.dK ws) ∧ RKs X.K H kvs ws := rep a _ ea
        exact call_lenD pins s σ H _ us Q I rv ⟨a, ws, rfl, e0, by rw [← rk.length]; exact h _ H (LeH.refl H) rep rfl⟩
      · rename_i kvs ea
        intro h
        obtain ⟨xs, dd, rx', hsys, hl, nd, mu⟩ := dn_open I (rep a _ ea)
        rw [Vals.ref1 rv]
        refine call_len_dictH hsys dd (by rw [← rx'.length]; rw [sizeLine_eq] at hl; omega) ?_
        rw [← rx'.length]
        exact ⟨.int ((kvs.length : Nat) : Int), H, I.tok _, ⟨_, rfl⟩, h _ H (LeH.refl H) rep rfl⟩
      · exact fun h => h.elim
@[simp] def cMax2 : RCD := fun ds S Q => match ds with | [.int i, .int j] => Q (.int (if j > i then j else i)) S | _ => False
@[simp] def cMin2 : RCD := fun ds S Q => match ds with | [.int i, .int j] => Q (.int (if j < i then j else i)) S | _ => False
theorem cd_min2 (hc : X.calm = true) : CallD X (.builtin "min") cMin2 := by
  refine ⟨fun ds S Q Q' k h => ?_, fun pins s σ H vs us Q I rv ⟨ds, S, rep, rd, h⟩ => ?_⟩
  · match ds, h with | [.int i, .int j], h => exact k _ _ h
  · match ds, h with
    | [.int i, .int j], h =>
      obtain ⟨v, u, rfl, r1, r2⟩ := rds2 rd
      cases r1; cases r2
      exact call_min2 hc pins s σ H _ us Q I rv ⟨i, j, rfl, h _ H (LeH.refl H) rep rfl⟩
def cMinL : RCD := fun ds S Q => ∃ (d : D) (ns : List Int), ds = [d] ∧ seqD S d = some (ns.map D.int) ∧ 0 < ns.length ∧ ∀ m, m ∈ ns → (∀ y, y ∈ ns → m ≤ y) → Q (.int m) S
def cMaxL : RCD := fun ds S Q => ∃ (d : D) (ns : List Int), ds = [d] ∧ seqD S d = some (ns.map D.int) ∧ 0 < ns.length ∧ ∀ m, m ∈ ns → (∀ y, y ∈ ns → y ≤ m) → Q (.int m) S
def cAll : RCD := fun ds S Q => ∃ (d : D) (bs : List Bool), ds = [d] ∧ seqD S d = some (bs.map D.bl) ∧ Q (.bl (bs.all id)) S
def cAny : RCD := fun ds S Q => ∃ (d : D) (bs : List Bool), ds = [d] ∧ seqD S d = some (bs.map D.bl) ∧ Q (.bl (bs.any id)) S
@[simp] def cList : RCD := fun ds S Q => match ds with
  | [.tup xs] => newO S (.lst xs) fun p S' => Q (.ref p) S'
  | [.rol xs] => newO S (.lst xs) fun p S' => Q (.ref p) S'
  | [.ref a] => (match S a with | some (.lst xs) => newO S (.lst xs) fun p S' => Q (.ref p) S' | _ => False)
  | _ => False
theorem cd_list : CallD X (.type "list") cList := by
  refine ⟨fun ds S Q Q' k h => ?_, fun pins s σ H vs us Q I rv ⟨ds, S, rep, rd, h⟩ => ?_⟩
  · match ds, h with
    | [.tup xs], h => exact fun p hp => k _ _ (h p hp)
    | [.rol xs], h => exact fun p hp => k _ _ (h p hp)
    | [.ref a], h =>
      revert h
      show (match S a with | some (.lst xs) => _ | _ => False) → (match S a with | some (.lst xs) => _ | _ => False)
      split
      · exact fun h p hp => k _ _ (h p hp)
      · exact fun h => h
  · match ds, h with
    | [.tup xs], h =>
      obtain ⟨v, rfl, r⟩ := rds1 rd
      obtain ⟨p, ys, rfl, sq, rs⟩ : ∃ p ys, v = V.ref p ∧ SqT X.K H p ys ∧ RDs X.K H xs ys := r
      exact call_list_of pins s σ H _ us Q I rv ⟨p, ys, rfl, .inr sq, fun l hl => rep_new (Q0 := fun _ _ => True) rep hl rs (h l (rep.free hl))⟩
    | [.rol xs], h =>
      obtain ⟨v, rfl, r⟩ := rds1 rd
      obtain ⟨p, ys, rfl, sq, rs⟩ : ∃ p ys, v = V.ref p ∧ SqR X.K H p ys ∧ RDs X.K H xs ys := r
      exact call_list_of pins s σ H _ us Q I rv ⟨p, ys, rfl, .inl sq.l, fun l hl => rep_new (Q0 := fun _ _ => True) rep hl rs (h l (rep.free hl))⟩
    | [.ref a], h =>
      obtain ⟨v, rfl, r⟩ := rds1 rd
      cases r
      revert h
      show (match S a with | some (.lst xs) => _ | _ => False) → _
      split
      · rename_i xs ea
        intro h
        obtain ⟨ys, e0, rs⟩ : ∃ ys, H a = some (.lst ys) ∧ RDs X.K H xs ys := rep a _ ea
        exact call_list_of pins s σ H _ us Q I rv ⟨a, ys, rfl, .inl (.of e0), fun l hl => rep_new (Q0 := fun _ _ => True) rep hl rs (h l (rep.free hl))⟩
      · exact fun h => h.elim
theorem CallD.sub {f : Value} {r r' : RCD} (h : CallD X f r) (m : MonoC r') (k : ∀ ds S Q, r' ds S Q → r ds S Q) : CallD X f r' :=
  ⟨m, fun pins s σ H vs us Q I rv ⟨ds, S, rep, rd, q⟩ => h.run pins s σ H vs us Q I rv ⟨ds, S, rep, rd, k _ _ _ q⟩⟩
@[simp] def cFz (r : RCD) : RCD := fun ds S Q => r ds S (fzK Q)
theorem cd_fz {f : Value} {r : RCD} (h : CallD X f r) : CallD X f (cFz r) := by
  refine ⟨fun ds S Q Q' k q => h.mono _ _ _ _ (fzK_mono k) q, fun pins s σ H vs us Q I rv ⟨ds, S, rep, rd, q⟩ => ?_⟩
  refine thn (h.run pins s σ H vs us (fun v H1 => ∃ d S1, LeH H H1 ∧ Rep X.w X.K S1 H1 ∧ RD X.K H1 d v ∧ fzK (fun d S' => ∀ v H', LeH H H' → Rep X.w X.K S' H' → RD X.K H' d v → Q v H') d S1) I rv ⟨ds, S, rep, rd, h.mono _ _ _ _ (fun z S' y v H' le rp rz => ⟨z, S', le, rp, rz, y⟩) q⟩) fun u s' ⟨v, H1, I1, ru, d, S1, le, rp, rd, z⟩ => ?_
  exact fzK_to I1 rp rd ru z fun d S' v H' le' rp' rd' y => y v H' (le.trans le') rp' rd'
@[simp] def cListF : RCD := fun ds S Q => match ds with
  | [.tup xs] => Q (.rol xs) S
  | [d] => opt (seqD S d) fun xs => Q (.rol xs) S
  | _ => False
theorem cd_listF : CallD X (.type "list") cListF := (cd_fz cd_list).sub (fun ds S Q Q' k h => by
    unfold cListF at h ⊢
    split at h
    · exact k _ _ h
    · exact opt_mono (fun _ q => k _ _ q) h
    · exact h) fun ds S Q h => by
    unfold cListF at h
    unfold cFz cList
    split at h
    · exact fun p hp => fzK_new hp h
    · rename_i d _
      obtain ⟨xs, e, q⟩ := opt_ex h
      clear h
      cases d with
      | rol ys => cases e; exact fun p hp => fzK_new hp q
      | ref a =>
        simp only [seqD_ref] at e
        split at e
        · rename_i ys ea
          cases e
          simp only [ea]
          exact fun p hp => fzK_new hp q
        · cases e
      | _ => simp at e
    · exact h.elim
@[simp] def cTuple : RCD := fun ds S Q => match ds with
  | [.tup xs] => Q (.tup xs) S
  | [.rol xs] => Q (.tup xs) S
  | [.ref a] => (match S a with | some (.lst xs) => Q (.tup xs) S | _ => False)
  | _ => False
theorem cd_tuple : CallD X (.type "tuple") cTuple := by
  refine ⟨fun ds S Q Q' k h => ?_, fun pins s σ H vs us Q I rv ⟨ds, S, rep, rd, h⟩ => ?_⟩
  · match ds, h with
    | [.tup xs], h => exact k _ _ h
    | [.rol xs], h => exact k _ _ h
    | [.ref a], h =>
      revert h
      show (match S a with | some (.lst xs) => _ | _ => False) → (match S a with | some (.lst xs) => _ | _ => False)
      split
      · exact k _ _
      · exact fun h => h
  · match ds, h with
    | [.tup xs], h =>
      obtain ⟨v, rfl, r⟩ := rds1 rd
      obtain ⟨p, ys, rfl, sq, rs⟩ : ∃ p ys, v = V.ref p ∧ SqT X.K H p ys ∧ RDs X.K H xs ys := r
      exact call_tuple_of pins s σ H _ us Q I rv ⟨p, ys, rfl, .inr ⟨sq, h _ H (LeH.refl H) rep ⟨p, ys, rfl, sq, rs⟩⟩⟩
    | [.rol xs], h =>
      obtain ⟨v, rfl, r⟩ := rds1 rd
      obtain ⟨p, ys, rfl, sq, rs⟩ : ∃ p ys, v = V.ref p ∧ SqR X.K H p ys ∧ RDs X.K H xs ys := r
      exact call_tuple_of pins s σ H _ us Q I rv ⟨p, ys, rfl, .inl ⟨sq.l, fun l hl => rep_tup rep hl rs h⟩⟩
    | [.ref a], h =>
      obtain ⟨v, rfl, r⟩ := rds1 rd
      cases r
      revert h
      show (match S a with | some (.lst xs) => _ | _ => False) → _
      split
      · rename_i xs ea
        intro h
        obtain ⟨ys, e0, rs⟩ : ∃ ys, H a = some (.lst ys) ∧ RDs X.K H xs ys := rep a _ ea
        exact call_tuple_of pins s σ H _ us Q I rv ⟨a, ys, rfl, .inl ⟨.of e0, fun l hl => rep_tup rep hl rs h⟩⟩
      · exact fun h => h.elim
@[simp] def cInt : RCD := fun ds S Q => match ds with | [.int i] => Q (.int i) S | [.bl b] => Q (.int (if b then 1 else 0)) S | _ => False
/-! ### methods -/
abbrev RMD := D → List D → DH → DK → Prop
def MonoM (r : RMD) : Prop := ∀ d ds S (Q Q' : DK), (∀ d S', Q d S' → Q' d S') → r d ds S Q → r d ds S Q'
def upM (w : World) (K : PySem.W.Frag) (r : RMD) : V → List V → Hp → VK → Prop := fun x vs H Q => ∃ d ds S, Rep w K S H ∧ RD K H d x ∧ RDs K H ds vs ∧ r d ds S (lQ w K H Q)
structure MtD (X : Cx) (id : String) (r : RMD) : Prop where
  mono : MonoM r
  run : MtR X id (upM X.w X.K r)
@[simp] def tyD (T : String) (d : D) (S : DH) : Prop := match d with
  | .str _ => T = "str"
  | .rol _ => T = "list"
  | .ref a => (match S a with | some (.lst _) => T = "list" | some (.dK _) => T = "dict" | some (.dN _) => T = "dict" | _ => False)
  | _ => False
theorem tyD_is {pins : List (Addr × Obj)} {σ : L2.St} {s : Shared} {T : String} {d : D} {S : DH} {x : V} {v : Value} {H : Hp} (I : Inv X pins σ H s) (rep : Rep X.w X.K S H) (r : RD X.K H d x) (rv : RelV x v) (h : tyD T d S) :
    s.TypeIs v T ∧ ∀ a, v = .ref a → ∃ ob, s.heap.get? a = some ob ∧ ob.dict = none := by
  have via : tyV X.K T x H → s.TypeIs v T ∧ ∀ a, v = .ref a → ∃ ob, s.heap.get? a = some ob ∧ ob.dict = none := tyV_is I rv
  cases d with
  | str z => cases r; exact via h
  | rol ds =>
    obtain ⟨p, ys, rfl, sq, rs⟩ : ∃ p ys, x = V.ref p ∧ SqR X.K H p ys ∧ RDs X.K H ds ys := r
    exact via (.inl ⟨h, ys, sq.l⟩)
  | ref a =>
    cases r
    revert h
    show (match S a with | some (.lst _) => T = "list" | some (.dK _) => T = "dict" | some (.dN _) => T = "dict" | _ => False) → _
    split
    · rename_i xs ea
      obtain ⟨ys, e0, _⟩ : ∃ ys, H a = some (.lst ys) ∧ RDs X.K H xs ys := rep a _ ea
      exact fun h => via (.inl ⟨h, ys, .of e0⟩)
    · rename_i xs ea
      obtain ⟨ys, e0, _⟩ : ∃ ys, H a = some (.dK ys) ∧ RKs X.K H xs ys := rep a _ ea
      exact fun h => via (.inr (.inr (.inl ⟨h, .inl ⟨ys, e0⟩⟩)))
    · rename_i xs ea
      rintro rfl
      obtain ⟨xs, dd, _⟩ := dn_open I (rep a _ ea)
      cases (show v = .ref a from rv)
      refine ⟨dd.typeIs, fun b e => ?_⟩
      cases e
      obtain ⟨o, es, ep, ho, hx, _⟩ := dd
      exact ⟨o, ho, hx.2.1⟩
    · exact fun h => h.elim
  | _ => exact h.elim
@[simp] def dBM (T : String) (r : RMD) (to : DTE) (t : DTA) : DTE := fun E τ S Q => to E τ S fun d S1 => tyD T d S1 ∧ t E τ S1 fun ds S2 => r d ds S2 Q
variable {o e : Expr} {es : List Expr} {to te : DTE} {t : DTA} {name : Str} {apos cpos pos p : Pos} {T id : String} {r : RMD}
theorem de_bm0 (pa : PlainAttrs T) (slot : Slot T name id) (hty : typeOf (.builtin id) = pure (.type "method_descriptor")) (hm : MtD X id r) (ho : DE X o to)
    (hbase : attributeBase o name X.env (eval o X.env) = eval o X.env := by rfl) (hline : (apos.endLine == cpos.line) = true := by rfl) : DE X (.Call (.Attribute o name apos) [] [] cpos) (dBM T r to dNil) := by
  refine ⟨fun E E' τ S Q Q' he k q => ho.mono _ _ _ _ _ _ he (fun d S1 z => ⟨z.1, hm.mono _ _ _ _ _ k z.2⟩) q, ⟨fun pins s σ H Q I ⟨E, τ, S, w, rl, q⟩ => ?_⟩⟩
  refine wpAny_Call_method_late hbase (by rfl) hline rfl (thn (ho.run.run pins s σ H _ I (ho.to w rl q fun d S1 x H1 le1 w1 r1 rd z => (⟨d, S1, le1, r1, rd, z⟩ : ∃ d S1, LeH H H1 ∧ Rel X.w X.K τ S1 σ H1 ∧ RD X.K H1 d x ∧ tyD T d S1 ∧
    r d [] S1 fun d S' => ∀ v H', LeH H H' → Rep X.w X.K S' H' → RD X.K H' d v → Q v H'))) fun v s1 ⟨x, H1, I1, rx, d, S1, le1, r1, rd, ht, z⟩ => ?_)
  obtain ⟨h1, h2⟩ := tyD_is I1 r1.rep rd rx ht
  exact ⟨T, id, pa, slot, hty, h1, h2, Calls.callWith_builtin rfl (PySem.evalArgs_none (hm.run pins s1 σ H1 x [] v [] Q I1 rx .nil ⟨d, [], S1, r1.rep, rd, .nil, hm.mono _ _ _ _ _ (fun z S' y v H' le rp rz => y v H' (le1.trans le) rp rz) z⟩))⟩
theorem de_bm (pa : PlainAttrs T) (slot : Slot T name id) (hty : typeOf (.builtin id) = pure (.type "method_descriptor")) (hm : MtD X id r) (ho : DE X o to) (ha : DA X (e :: es) t)
    (hbase : attributeBase o name X.env (eval o X.env) = eval o X.env := by rfl)
    (hfew : ((backTo cpos (starEach (e :: es) X.env)).all (fun x => !x.1) && (backToKw cpos (keywordEach [] X.env)).all (fun x => x.1.isSome) && decide ((e :: es).length + ([] : List Keyword).length + (if ([] : List Keyword).isEmpty then 0 else 1) < 30)) = true := by rfl)
    (hline : (apos.endLine == cpos.line) = true := by rfl) (hs : starEach (e :: es) X.env = (false, eval e X.env) :: starEach es X.env := by rfl) (hplain : (backTo cpos (starEach es X.env)).any (·.1) = false := by rfl) :
    DE X (.Call (.Attribute o name apos) (e :: es) [] cpos) (dBM T r to t) := by
  refine ⟨fun E E' τ S Q Q' he k q => ho.mono _ _ _ _ _ _ he (fun d S1 z => ⟨z.1, ha.mono _ _ _ _ _ _ he (fun ds S2 z => hm.mono _ _ _ _ _ k z) z.2⟩) q, ⟨fun pins s σ H Q I ⟨E, τ, S, w, rl, q⟩ => ?_⟩⟩
  refine wpAny_Call_method_late hbase hfew hline rfl (thn (ho.run.run pins s σ H _ I (ho.to w rl q fun d S1 x H1 le1 w1 r1 rd z => (⟨d, S1, le1, w1, r1, rd, z⟩ : ∃ d S1, LeH H H1 ∧ Wish X E H1 ∧ Rel X.w X.K τ S1 σ H1 ∧ RD X.K H1 d x ∧ tyD T d S1 ∧
    t E τ S1 fun ds S2 => r d ds S2 fun d S' => ∀ v H', LeH H H' → Rep X.w X.K S' H' → RD X.K H' d v → Q v H'))) fun v s1 ⟨x, H1, I1, rx, d, S1, le1, w1, r1, rd, ht, z⟩ => ?_)
  obtain ⟨h1, h2⟩ := tyD_is I1 r1.rep rd rx ht
  refine ⟨T, id, pa, slot, hty, h1, h2, ?_⟩
  have hA := ha.run.run cpos pins s1 σ H1 _ I1 (ha.to w1 r1 z fun ds S2 vs H2 le2 w2 r2 rds z => (⟨ds, S2, le2, r2, rds, z⟩ : ∃ ds S2, LeH H1 H2 ∧ Rel X.w X.K τ S2 σ H2 ∧ RDs X.K H2 ds vs ∧
    r d ds S2 fun d S' => ∀ v H', LeH H H' → Rep X.w X.K S' H' → RD X.K H' d v → Q v H'))
  rw [hs] at hA ⊢
  refine Calls.callWith_builtin (by show (false || (backTo cpos (starEach es X.env)).any (·.1)) = false; rw [hplain] <;> rfl) (Calls.evalArgs_plain ?_)
  exact thn hA fun us s2 ⟨vs, H2, I2, rv2, ds, S2, le2, r2, rds, z⟩ => hm.run pins s2 σ H2 x vs v us Q I2 rx rv2 ⟨d, ds, S2, r2.rep, rd.le le2, rds, hm.mono _ _ _ _ _ (fun z S' y v H' le rp rz => y v H' (le1.trans (le2.trans le)) rp rz) z⟩
/-- a method that changes the list at a -/
@[simp] def mLst (ds : List D) (d : D) (S : DH) (Q : List D → (List D → DH) → Prop) : Prop := match d with | .ref a => (match S a with | some (.lst xs) => Q xs fun ys => upo S a (.lst ys) | _ => False) | _ => False
@[simp] def mAppend : RMD := fun d ds S Q => mLst ds d S fun xs up => match ds with | [y] => xs.length < sizeLine ∧ Q .non (up (xs ++ [y])) | _ => False
theorem mLst_mono {ds : List D} {d : D} {S : DH} {Q Q' : List D → (List D → DH) → Prop} (k : ∀ a xs, d = .ref a → S a = some (.lst xs) → Q xs (fun ys => upo S a (.lst ys)) → Q' xs (fun ys => upo S a (.lst ys))) (h : mLst ds d S Q) : mLst ds d S Q' := by
  cases d with
  | ref a =>
    revert h
    show (match S a with | some (.lst xs) => _ | _ => False) → (match S a with | some (.lst xs) => _ | _ => False)
    split
    · rename_i xs ea
      exact k a xs rfl ea
    · exact fun h => h
  | _ => exact h
theorem mLst_ex {ds : List D} {d : D} {S : DH} {Q : List D → (List D → DH) → Prop} (h : mLst ds d S Q) : ∃ a xs, d = .ref a ∧ S a = some (.lst xs) ∧ Q xs fun ys => upo S a (.lst ys) := by
  cases d with
  | ref a =>
    revert h
    show (match S a with | some (.lst xs) => _ | _ => False) → _
    split
    · rename_i xs ea
      exact fun h => ⟨a, xs, rfl, ea, h⟩
    · exact fun h => h.elim
  | _ => exact h.elim
theorem md_append : MtD X "list.append" mAppend := by
  refine ⟨fun d ds S Q Q' k h => mLst_mono (fun a xs e1 e2 z => ?_) h, fun pins s σ H x vs v us Q I rx rv ⟨d, ds, S, rep, rd, rds, h⟩ => ?_⟩
  · match ds, z with | [y], z => exact ⟨z.1, k _ _ z.2⟩
  · obtain ⟨a, xs, rfl, ea, z⟩ := mLst_ex h
    match ds, z with
    | [y], z =>
      cases rd
      obtain ⟨u, rfl, ru⟩ := rds1 rds
      obtain ⟨ys, e0, rs⟩ : ∃ ys, H a = some (.lst ys) ∧ RDs X.K H xs ys := rep a _ ea
      have le : LeH H (upd H a (.lst (ys ++ [u]))) := LeH.put e0 trivial
      exact mt_append pins s σ H _ _ v us Q I rx rv ⟨a, ys, u, rfl, rfl, e0, by rw [← rs.length]; exact z.1, z.2 _ _ le (rep.put e0 trivial (o := .lst (xs ++ [y])) ⟨_, upd_same, (rs.snoc ru).le le⟩) rfl⟩
@[simp] def mExtend : RMD := fun d ds S Q => mLst ds d S fun xs up => match ds with | [e] => opt (seqD S e) fun zs => xs.length + zs.length ≤ sizeLine ∧ Q .non (up (xs ++ zs)) | _ => False
def rExtendX (K : PySem.W.Frag) : V → List V → Hp → VK → Prop := fun x vs H Q => ∃ l b xs zs, x = .ref l ∧ vs = [.ref b] ∧ H l = some (.lst xs) ∧ SqX K H b zs ∧ xs.length + zs.length ≤ sizeLine ∧ Q .non (upd H l (.lst (xs ++ zs)))
@[simp] def mPop : RMD := fun d ds S Q => mLst ds d S fun xs up => match ds with | [] => opt xs[xs.length - 1]? fun y => Q y (up xs.dropLast) | _ => False
theorem md_pop : MtD X "list.pop" mPop := by
  refine ⟨fun d ds S Q Q' k h => mLst_mono (fun a xs e1 e2 z => ?_) h, fun pins s σ H x vs v us Q I rx rv ⟨d, ds, S, rep, rd, rds, h⟩ => ?_⟩
  · match ds, z with | [], z => exact opt_mono (fun _ z => k _ _ z) z
  · obtain ⟨a, xs, rfl, ea, z⟩ := mLst_ex h
    match ds, z with
    | [], z =>
      cases rd
      cases rds
      obtain ⟨y, ey, z⟩ := opt_ex z
      obtain ⟨ys, e0, rs⟩ : ∃ ys, H a = some (.lst ys) ∧ RDs X.K H xs ys := rep a _ ea
      obtain ⟨u, eu, ru⟩ := rs.get ey
      have le : LeH H (upd H a (.lst ys.dropLast)) := LeH.put e0 trivial
      exact mt_pop pins s σ H _ _ v us Q I rx rv ⟨a, ys, u, rfl, rfl, e0, by rw [← rs.length]; exact eu, z _ _ le (rep.put e0 trivial (o := .lst xs.dropLast) ⟨_, upd_same, rs.dropLast.le le⟩) (ru.le le)⟩
@[simp] def mReverse : RMD := fun d ds S Q => mLst ds d S fun xs up => match ds with | [] => Q .non (up xs.reverse) | _ => False
def mJoin : RMD := fun d ds S Q => ∃ (a : Str) (e : D) (ys : List Str), d = .str a ∧ ds = [e] ∧ (seqD S e = some (ys.map D.str) ∨ e = .tup (ys.map D.str)) ∧ (ys.map (·.length)).sum + ys.length * a.length ≤ 16777216 ∧ Q (.str (Txt.join a ys)) S
@[simp] def mFind : RMD := fun d ds S Q => match d, ds with | .str a, [.str b] => Q (.int (Txt.find a b)) S | _, _ => False
end

/-! ### what is walked -/
section
variable {X : Cx} {tg l : Expr} {tl : DTE} {ta : DTA} {p pos : Pos}
def iAny (K : PySem.W.Frag) (tl : TE) : TI := fun σ H R => tl σ H fun x H1 => (∃ a, x = .ref a ∧ (∃ xs, SqL K H1 a xs) ∧ R (Itl K a) H1) ∨ (∃ a, x = .ref a ∧ (∃ xs, SqT K H1 a xs) ∧ R (Itt K a) H1) ∨ ∃ z, x = .str z ∧ R (Its z) H1
theorem pi_any {tl : TE} (hl : PE X l tl) : PI X tg l (iAny X.K tl) := by
  refine ⟨fun pins s σ H R I h => thn (hl.run pins s σ H _ I h) fun v s1 ⟨x, H1, I1, r1, q1⟩ => ?_⟩
  rcases q1 with ⟨a, rfl, ⟨xs, hq⟩, q⟩ | ⟨a, rfl, ⟨xs, hq⟩, q⟩ | ⟨z, rfl, q⟩
  · cases r1
    obtain ⟨its, rv, pl, hz⟩ := I1.list hq
    exact PySem.wpAny_pyIter_list pl.isList (pi_one (tk := s1.toks) I1 _ (turn_list a _) ⟨_, Heap.get?_push_size _ rfl, rfl, rfl⟩ q)
  · cases r1
    obtain ⟨its, rv, pl, hz⟩ := I1.tuple hq
    exact PySem.wpAny_pyIter_tuple (show s1.heap.IsTuple a its.toArray from pl) (pi_one (tk := s1.toks) I1 _ (turn_tuple a _) ⟨_, Heap.get?_push_size _ rfl, rfl, rfl⟩ q)
  · obtain ⟨t, rfl⟩ := r1
    cases ha : z.cps.all (· < 128)
    · exact PySem.wpAny_pyIter_wide ha (pi_one (tk := s1.toks) I1 _ (turn_str _ z t "str_iterator" (.inr rfl)) ⟨_, Heap.get?_push_size _ rfl, rfl, rfl⟩ q)
    · exact PySem.wpAny_pyIter_ascii ha (pi_one (tk := s1.toks) I1 _ (turn_str _ z t "str_ascii_iterator" (.inl rfl)) ⟨_, Heap.get?_push_size _ rfl, rfl, rfl⟩ q)
def signD (c : Nat) : D := .str ⟨#[c]⟩
@[simp] def dSeqI (tl : DTE) : DTI := fun E τ S R => tl E τ S fun d S1 => match d with
  | .tup ds => R (fun _ => True) ds S1
  | .rol ds => R (fun _ => True) ds S1
  | .str z => R (fun _ => True) (z.cps.toList.map signD) S1
  | .ref a => (match S1 a with | some (.lst ds) => R (fun S => S a = some (.lst ds)) ds S1 | _ => False)
  | _ => False
theorem feeds_seqL {w : World} {K : PySem.W.Frag} {H0 : Hp} {a : Addr} {ds : List D} {G : DH → Prop} (h : ∀ S H, LeH H0 H → Rep w K S H → G S → ∃ xs, SqL K H a xs ∧ RDs K H ds xs) : Feeds w K H0 (Itl K a) G ds where
  go := fun i S H le rp g hi => by
    obtain ⟨xs, sq, rs⟩ := h S H le rp g
    exact ⟨xs, xs[i]'(by rw [← rs.length]; exact hi), sq, by simp⟩
  yld := fun i S H x H' le rp g hi ⟨e, y⟩ => by
    subst e
    obtain ⟨xs, sq, rs⟩ := h S _ le rp g
    obtain ⟨d, e, r⟩ := rs.got (y xs sq)
    exact ⟨LeH.refl _, rp, d, e, r⟩
  stop := fun S H le rp g => by
    obtain ⟨xs, sq, rs⟩ := h S H le rp g
    exact ⟨xs, sq, by rw [rs.length]; exact Nat.le_refl _⟩
theorem feeds_seqT {w : World} {K : PySem.W.Frag} {H0 : Hp} {a : Addr} {ds : List D} {G : DH → Prop} (h : ∀ S H, LeH H0 H → Rep w K S H → G S → ∃ xs, SqT K H a xs ∧ RDs K H ds xs) : Feeds w K H0 (Itt K a) G ds where
  go := fun i S H le rp g hi => by
    obtain ⟨xs, sq, rs⟩ := h S H le rp g
    exact ⟨xs, xs[i]'(by rw [← rs.length]; exact hi), sq, by simp⟩
  yld := fun i S H x H' le rp g hi ⟨e, y⟩ => by
    subst e
    obtain ⟨xs, sq, rs⟩ := h S _ le rp g
    obtain ⟨d, e, r⟩ := rs.got (y xs sq)
    exact ⟨LeH.refl _, rp, d, e, r⟩
  stop := fun S H le rp g => by
    obtain ⟨xs, sq, rs⟩ := h S H le rp g
    exact ⟨xs, sq, by rw [rs.length]; exact Nat.le_refl _⟩
theorem feeds_str {w : World} {K : PySem.W.Frag} {H0 : Hp} {z : Str} {G : DH → Prop} : Feeds w K H0 (Its z) G (z.cps.toList.map signD) where
  go := fun i S H le rp g hi => by
    show i < z.cps.size
    simpa using hi
  yld := fun i S H x H' le rp g hi ⟨e, c, ec, ex⟩ => by
    subst e ex
    refine ⟨LeH.refl _, rp, signD c, ?_, rfl⟩
    rw [List.getElem?_map, Array.getElem?_toList, ec]
    rfl
  stop := fun S H le rp g => by
    show z.cps.size ≤ (z.cps.toList.map signD).length
    simp
theorem di_seq (hl : DE X l tl) : DI X tg l (dSeqI tl) := by
  refine ⟨fun E E' τ S Q Q' he k q => hl.mono _ _ _ _ _ _ he (fun d S1 z => ?_) q, pI_imp (pi_any hl.run) fun σ H R ⟨E, τ, S, w, r, q⟩ => ?_⟩
  · cases d with
    | tup ds => exact k _ _ _ z
    | rol ds => exact k _ _ _ z
    | str ds => exact k _ _ _ z
    | ref a =>
      revert z
      show (match S1 a with | some (.lst ds) => _ | _ => False) → (match S1 a with | some (.lst ds) => _ | _ => False)
      split
      · exact k _ _ _
      · exact fun z => z
    | _ => exact z
  · refine hl.to w r q fun d S1 x H1 le w1 r1 rd z => ?_
    cases d with
    | tup ds =>
      obtain ⟨p, ys, rfl, sq, rs⟩ : ∃ p ys, x = V.ref p ∧ SqT X.K H1 p ys ∧ RDs X.K H1 ds ys := rd
      exact .inr (.inl ⟨p, rfl, ⟨ys, sq⟩, z _ H1 le r1.rep (feeds_seqT fun S H le rp g => ⟨ys, sqT_le le sq, rs.le le⟩)⟩)
    | rol ds =>
      obtain ⟨p, ys, rfl, sq, rs⟩ : ∃ p ys, x = V.ref p ∧ SqR X.K H1 p ys ∧ RDs X.K H1 ds ys := rd
      exact .inl ⟨p, rfl, ⟨ys, sq.l⟩, z _ H1 le r1.rep (feeds_seqL fun S H le rp g => ⟨ys, (sq.le le).l, rs.le le⟩)⟩
    | str y =>
      cases rd
      exact .inr (.inr ⟨y, rfl, z _ H1 le r1.rep feeds_str⟩)
    | ref a =>
      cases rd
      revert z
      show (match S1 a with | some (.lst ds) => _ | _ => False) → _
      split
      · rename_i ds ea
        intro z
        obtain ⟨ys, e0, rs⟩ : ∃ ys, H1 a = some (.lst ys) ∧ RDs X.K H1 ds ys := r1.rep a _ ea
        exact .inl ⟨a, rfl, ⟨ys, .of e0⟩, z _ H1 le r1.rep (feeds_seqL fun S H le rp g => by
          obtain ⟨zs, e1, rz⟩ : ∃ ys, H a = some (.lst ys) ∧ RDs X.K H ds ys := rp a _ g
          exact ⟨zs, .of e1, rz⟩)⟩
      · exact fun z => z.elim
    | _ => exact z.elim
theorem feeds_rng {w : World} {K : PySem.W.Frag} {H0 : Hp} {lo : Int} {n : Nat} {G : DH → Prop} : Feeds w K H0 (Itr lo n) G ((List.range n).map fun i : Nat => D.int (lo + (i : Nat))) where
  go := fun i S H le rp g hi => by
    show i < n
    simpa using hi
  yld := fun i S H x H' le rp g hi ⟨e, ex⟩ => by
    subst e ex
    refine ⟨LeH.refl _, rp, .int (lo + (i : Nat)), ?_, rfl⟩
    have hi' : i < n := by simpa using hi
    rw [List.getElem?_map, List.getElem?_range hi']
    rfl
  stop := fun S H le rp g => by
    show n ≤ ((List.range n).map fun i : Nat => D.int (lo + (i : Nat))).length
    simp
def rngD (lo : Int) (n : Nat) : List D := (List.range n).map fun i : Nat => D.int (lo + (i : Nat))
@[simp] def dRng1 (ta : DTA) : DTI := fun E τ S R => ta E τ S fun ds S1 => match ds with | [.int j] => (-(2 ^ 62) ≤ j ∧ j < 2 ^ 62) ∧ R (fun _ => True) (rngD 0 j.toNat) S1 | _ => False
@[simp] def dRng2 (ta : DTA) : DTI := fun E τ S R => ta E τ S fun ds S1 => match ds with | [.int i, .int j] => (-(2 ^ 62) ≤ i ∧ i < 2 ^ 62 ∧ -(2 ^ 62) ≤ j ∧ j < 2 ^ 62) ∧ R (fun _ => True) (rngD i (j - i).toNat) S1 | _ => False
theorem di_rng1 {a : Expr} (hg : Gl X "range") (hm : X.mg "range" = none) (ha : DA X [a] ta) (hs : starEach [a] X.env = [(false, eval a X.env)] := by rfl) : DI X tg (.Call (.Name "range" p) [a] [] pos) (dRng1 ta) := by
  refine ⟨fun E E' τ S Q Q' he k q => ha.mono _ _ _ _ _ _ he (fun ds S1 z => ?_) q, pI_imp (pi_range1 hg hm ha.run hs) fun σ H R ⟨E, τ, S, w, r, q⟩ => ?_⟩
  · match ds, z with | [.int j], z => exact ⟨z.1, k _ _ _ z.2⟩
  · refine ha.to w r q fun ds S1 vs H1 le w1 r1 rd z => ?_
    match ds, z with
    | [.int j], z =>
      obtain ⟨v, rfl, rv⟩ := rds1 rd
      cases rv
      exact ⟨j, rfl, z.1.1, z.1.2, z.2 _ H1 le r1.rep feeds_rng⟩
end

/-! ### isinstance by a built-in class; names of the module; chains; * -/
section
variable {X : Cx} {e : Expr} {te : DTE} {p p2 pos : Pos} {T : String}
def tyName (d : D) (S : DH) : Option String := match d with
  | .non => some "NoneType" | .bl _ => some "bool" | .int _ => some "int" | .str _ => some "str" | .tup _ => some "tuple" | .rol _ => some "list"
  | .ref a => (match S a with | some (.lst _) => some "list" | some (.dK _) => some "dict" | _ => none)
section
variable (S : DH)
@[simp] theorem tyName_non : tyName .non S = some "NoneType" := rfl
@[simp] theorem tyName_bl (b : Bool) : tyName (.bl b) S = some "bool" := rfl
@[simp] theorem tyName_int (b : Int) : tyName (.int b) S = some "int" := rfl
@[simp] theorem tyName_str (b : Str) : tyName (.str b) S = some "str" := rfl
@[simp] theorem tyName_tup (b : List D) : tyName (.tup b) S = some "tuple" := rfl
@[simp] theorem tyName_rol (b : List D) : tyName (.rol b) S = some "list" := rfl
theorem tyName_ref (a : Addr) : tyName (.ref a) S = (match S a with | some (.lst _) => some "list" | some (.dK _) => some "dict" | _ => none) := rfl
theorem tyName_lst {a : Addr} {xs : List D} (h : S a = some (.lst xs)) : tyName (.ref a) S = some "list" := by rw [tyName_ref, h]
end
@[simp] def isiB (a b : String) : Bool := a == b || (a == "bool" && b == "int")
@[simp] def dIsi (T : String) (te : DTE) : DTE := fun E τ S Q => te E τ S fun d S1 => opt (tyName d S1) fun n => Q (.bl (isiB n T)) S1
/-- a < b < c -/
@[simp] def dChain (r r' : R2D) (ta tb tc : DTE) : DTE := fun E τ S Q => ta E τ S fun x S1 => tb E τ S1 fun y S2 => r x y S2 fun z S3 => match z with
  | .bl k => if k = true then tc E τ S3 fun u S4 => r' y u S4 Q else Q (.bl false) S3
  | _ => False
end
end Dt
set_option maxRecDepth 100000
set_option maxHeartbeats 4000000
/-! Dat7: *, chains. -/
namespace Dt
open PySem PySem.Spec L2

@[simp] def dMul : R2D := fun d e S Q => match d, e with
  | .int i, .int j => CMulW i j ∧ Q (.int (i * j)) S
  | .str x, .int n => MulOk x n ∧ Q (.str (Txt.mul x n)) S
  | .ref a, .int n => (match S a with | some (.lst xs) => (-(2 ^ 63) ≤ n ∧ n < 2 ^ 63 ∧ xs.length * n.toNat ≤ sizeLine) ∧ newO S (.lst (List.replicate n.toNat xs).flatten) fun p S' => Q (.ref p) S' | _ => False)
  | _, _ => False
theorem RDs.rep {K : PySem.W.Frag} {H : Hp} {ds : List D} {vs : List V} (r : RDs K H ds vs) : ∀ n : Nat, RDs K H (List.replicate n ds).flatten (List.replicate n vs).flatten
  | 0 => by simp [RDs]
  | n + 1 => by
    rw [List.replicate_succ, List.replicate_succ, List.flatten_cons, List.flatten_cons]
    exact r.append (RDs.rep r n)
section
variable {X : Cx}
theorem od_mul : OpD X (binaryOp .Mult) dMul := by
  refine ⟨fun x y S Q Q' k h => ?_, fun pins s σ H x y v u Q I rx ry ⟨d, e, S, rep, rd, re, h⟩ => ?_⟩
  · cases x <;> cases y <;> first | exact h.elim | exact ⟨h.1, k _ _ h.2⟩ | skip
    rename_i a n
    revert h
    show (match S a with | some (.lst xs) => _ | _ => False) → (match S a with | some (.lst xs) => _ | _ => False)
    split
    · exact fun h => ⟨h.1, fun p hp => k _ _ (h.2 p hp)⟩
    · exact fun h => h
  · cases d <;> cases e <;> first | exact h.elim | skip
    · cases rd; cases re
      exact op_mulW pins s σ H _ _ v u Q I rx ry ⟨_, _, rfl, rfl, h.1, h.2 _ H (LeH.refl H) rep rfl⟩
    · cases rd; cases re
      obtain ⟨t, rfl⟩ := rx
      obtain ⟨t2, rfl⟩ := ry
      exact PySem.SB.mul h.1 fun t' k => ⟨.str _, H, I.tok _, ⟨_, rfl⟩, h.2 _ H (LeH.refl H) rep rfl⟩
    · rename_i a n
      cases rd; cases re
      revert h
      show (match S a with | some (.lst xs) => _ | _ => False) → _
      split
      · rename_i xs ea
        intro h
        obtain ⟨ys, e0, rs⟩ : ∃ ys, H a = some (.lst ys) ∧ RDs X.K H xs ys := rep a _ ea
        exact op_rep pins s σ H _ _ v u Q I rx ry ⟨a, n, ys, rfl, rfl, e0, h.1.1, h.1.2.1, by rw [← rs.length]; exact h.1.2.2, fun p hp => rep_new (Q0 := fun _ _ => True) rep hp (rs.rep _) (h.2 p (rep.free hp))⟩
      · exact fun h => h.elim
variable {a b c : Expr} {ta tb tc : DTE} {r r' : R2D} {pos : Pos}
end
abbrev rSub : R2D := dII (fun _ _ => True) fun i j => .int (i - j)
abbrev rMod : R2D := dII (fun _ j => 0 < j) fun i j => .int (i % j)
abbrev rFdiv : R2D := dII CDivW fun i j => .int (i / j)
abbrev rPow : R2D := dII CPow fun i j => .int (i ^ j.toNat)
abbrev rLt : R2D := dII (fun _ _ => True) fun i j => .bl (decide (i < j))
abbrev rLe : R2D := dII (fun _ _ => True) fun i j => .bl (decide (i ≤ j))
abbrev rGt : R2D := dII (fun _ _ => True) fun i j => .bl (decide (j < i))
abbrev rGe : R2D := dII (fun _ _ => True) fun i j => .bl (decide (j ≤ i))
theorem hu_big {A : Around} {k : Nat} (hr : Room k A) : A.units + 120 < cLine := by
  have := hr.un
  omega
def SpMono (sp : DSp) : Prop := ∀ ds S (Q Q' : DK) (E E' : DXK), (∀ d S', Q d S' → Q' d S') → (∀ C fs S', E C fs S' → E' C fs S') → sp ds S Q E → sp ds S Q' E'
@[simp] def dNeg (te : DTE) : DTE := fun E τ S Q => te E τ S fun d S' => match d with | .int i => Q (.int (-i)) S' | _ => False
end Dt
set_option maxRecDepth 100000
set_option maxHeartbeats 4000000
/-! Feed: the draws that each law has. -/
namespace Dt
open PySem PySem.Spec L2
theorem char_inj : ∀ (a b : List Char), a.map Char.toNat = b.map Char.toNat → a = b
  | [], [], _ => rfl
  | [], _ :: _, h => by simp at h
  | _ :: _, [], h => by simp at h
  | x :: a, y :: b, h => by
    simp only [List.map_cons, List.cons.injEq] at h
    rw [char_inj a b h.2]
    have : x = y := Char.ext (UInt32.toNat_inj.mp h.1)
    rw [this]
@[simp] theorem ofs_inj (a b : String) : (PySem.Str.ofString a = PySem.Str.ofString b) = (a = b) := by
  refine propext ⟨fun h => ?_, fun h => by rw [h]⟩
  rw [PySem.Str.ofString_eq_toList, PySem.Str.ofString_eq_toList] at h
  have h1 := congrArg (fun z : Str => z.cps.toList) h
  simp only at h1
  exact String.toList_inj.mp (char_inj _ _ (by simpa using h1))
@[simp] theorem line_le (n : Nat) : (n ≤ sizeLine) = (n ≤ 16777216) := by rw [sizeLine_eq]
@[simp] theorem line_lt (n : Nat) : (n < sizeLine) = (n < 16777216) := by rw [sizeLine_eq]
def Bd (a : Nat) (i : Int) : Prop := i.natAbs < 2 ^ a
theorem Bd.mono {a b : Nat} {i : Int} (h : Bd a i) (l : a ≤ b) : Bd b i := Nat.lt_of_lt_of_le h (Nat.pow_le_pow_right (by decide) l)
theorem Bd.add {a : Nat} {i j : Int} (h : Bd a i) (k : Bd a j) : Bd (a + 1) (i + j) := by
  unfold Bd at *
  have := Int.natAbs_add_le i j
  rw [Nat.pow_succ]
  omega
theorem Bd.mul {a b : Nat} {i j : Int} (h : Bd a i) (k : Bd b j) : Bd (a + b) (i * j) := wide_lt h k
theorem Bd.mod {a : Nat} {i j : Int} (hj : 0 < j) (k : Bd a j) : Bd a (i % j) := by
  unfold Bd at *
  have h1 := Int.emod_nonneg i (show j ≠ 0 by omega)
  have h2 := Int.emod_lt_of_pos i hj
  omega
theorem Bd.cm {a b : Nat} {i j : Int} (h : Bd a i) (k : Bd b j) (ha : 0 < a := by decide) (hb : 0 < b := by decide) (l : a + b ≤ 1000000 := by decide) : CMulW i j := wide_mul h k ha hb l
def Ext (S S' : DH) : Prop := ∀ b o, S b = some o → S' b = some o
theorem Ext.refl (S : DH) : Ext S S := fun _ _ h => h
theorem Ext.trans {S S1 S2 : DH} (a : Ext S S1) (b : Ext S1 S2) : Ext S S2 := fun x o h => b x o (a x o h)
theorem Ext.new {S : DH} {p : Addr} {o : Ob} (h : S p = none) : Ext S (upo S p o) := fun b u e => by
  rw [upo_ne (fun z => by subst z; rw [h] at e; cases e)]
  exact e
theorem Ext.put {S S1 : DH} {p : Addr} {o : Ob} (e : Ext S S1) (h : S p = none) : Ext S (upo S1 p o) := fun b u z => by
  rw [upo_ne (fun y => by subst y; rw [h] at z; cases z)]
  exact e b u z
theorem Ext.free {S S' : DH} (e : Ext S S') {p : Addr} (h : S' p = none) : S p = none := by
  cases q : S p with
  | none => rfl
  | some o => rw [e p o q] at h; cases h
/-- a feed after at most n draws -/
def FeedOb (n : Nat) (o : Ob) : Prop := ∃ l s d : Int, o = .dK [(.inr "left", .int l), (.inr "seed", .int s), (.inr "drawn", .int d)] ∧ 0 ≤ l ∧ 0 ≤ s ∧ s < 1000003 ∧ 0 ≤ d ∧ d ≤ n
theorem FeedOb.more {n m : Nat} {o : Ob} (h : FeedOb n o) (l : n ≤ m) : FeedOb m o := by
  obtain ⟨a, s, d, e, h1, h2, h3, h4, h5⟩ := h
  exact ⟨a, s, d, e, h1, h2, h3, h4, by omega⟩
def sp_l_next : DSp := fun ds S Q _ => ∃ (p : Addr) (m : Int) (n : Nat) (o : Ob), ds = [.ref p, .int m] ∧ 0 < m ∧ m < 2 ^ 100 ∧ S p = some o ∧ FeedOb n o ∧ n < 2 ^ 100 ∧
  ∀ v o', 0 ≤ v → v < m → FeedOb (n + 1) o' → Q (.int v) (upo S p o')
def cellZ (ns : List Int) (k : Nat) : Int := if k < ns.length then ns.getD k 0 else (if 0 < ns.length then ns.getD (k % ns.length) 0 else 0) % 1000003 * 48271 + 7919 * k + 1
def sp_l_cell_at : DSp := fun ds S Q _ => ∃ (ns : List Int) (k : Nat), ds = [.rol (ns.map D.int), .int k] ∧ k < 2 ^ 100 ∧ Q (.int (cellZ ns k)) S
theorem sp_l_cell_at_mono : SpMono sp_l_cell_at := fun ds S Q Q' E E' k _ ⟨ns, j, h1, h2, h⟩ => ⟨ns, j, h1, h2, k _ _ h⟩
def sp_l_feed : DSp := fun ds S Q _ => ∃ c : Int, ds = [.int c] ∧ ∀ p o, S p = none → FeedOb 0 o → Q (.ref p) (upo S p o)
end Dt
set_option maxRecDepth 100000
set_option maxHeartbeats 4000000
/-! Dat8: loops by invariants. -/
namespace Dt
open PySem PySem.Spec L2
theorem loop_go {g : DTG} {tb : DTS} {A : DEnds} {G : DH → Prop} (ds : List D) (I : Nat → DSt → DH → Prop) (hG : ∀ i τ S, i ≤ ds.length → I i τ S → G S)
    (hs : ∀ i d τ S (N : DSt → DH → Prop), ds[i]? = some d → I i τ S → (∀ τ' S', I (i + 1) τ' S' → N τ' S') → g d τ S fun τ1 S1 => tb { A with nx := N, ct := N, bk := A.nx } τ1 S1)
    (hd : ∀ τ S, I ds.length τ S → A.nx τ S) : ∀ (m i : Nat) (τ : DSt) (S : DH), i + m = ds.length → I i τ S → dLoop g tb A G (ds.drop i) τ S
  | 0, i, τ, S, e, h => by
    have e' : i = ds.length := by omega
    subst e'
    rw [List.drop_length]
    exact ⟨hG _ _ _ (Nat.le_refl _) h, hd _ _ h⟩
  | m + 1, i, τ, S, e, h => by
    have hi : i < ds.length := by omega
    have ed : ds[i]? = some ds[i] := List.getElem?_eq_getElem hi
    rw [drop_at ed]
    exact ⟨hG _ _ _ (by omega) h, hs i _ τ S _ ed h fun τ' S' h' => loop_go ds I hG hs hd m (i + 1) τ' S' (by omega) h'⟩
theorem loop_inv {g : DTG} {tb : DTS} {A : DEnds} {G : DH → Prop} {ds : List D} {τ : DSt} {S : DH} (I : Nat → DSt → DH → Prop) (h0 : I 0 τ S) (hG : ∀ i τ S, i ≤ ds.length → I i τ S → G S)
    (hs : ∀ i d τ S (N : DSt → DH → Prop), ds[i]? = some d → I i τ S → (∀ τ' S', I (i + 1) τ' S' → N τ' S') → g d τ S fun τ1 S1 => tb { A with nx := N, ct := N, bk := A.nx } τ1 S1)
    (hd : ∀ τ S, I ds.length τ S → A.nx τ S) : dLoop g tb A G ds τ S := by
  have := loop_go ds I hG hs hd ds.length 0 τ S (by omega) h0
  rwa [List.drop_zero] at this
theorem opt_at {α : Type} {xs : List α} {i : Int} {k : α → Prop} (h0 : 0 ≤ i) (h1 : i < xs.length) (h : ∀ d ∈ xs, k d) : opt (atI xs i) k := by
  obtain ⟨j, rfl⟩ := Int.eq_ofNat_of_zero_le h0
  have hj : j < xs.length := by omega
  rw [atI_nat (List.getElem?_eq_getElem hj)]
  exact h _ (List.getElem_mem hj)
theorem wh_go {c : DTT} {tb : DTS} {A : DEnds} (I : DSt → DH → Prop) (μ : DSt → DH → Nat)
    (hs : ∀ τ S (N : DSt → DH → Prop), I τ S → (∀ τ' S', I τ' S' → μ τ' S' < μ τ S → N τ' S') → c A.xe τ S fun b S' => if b = true then tb { A with nx := N, ct := N, bk := A.nx } τ S' else A.nx τ S') :
    ∀ (n : Nat) (τ : DSt) (S : DH), μ τ S < n → I τ S → dWh c tb A n τ S
  | 0, τ, S, h, _ => absurd h (Nat.not_lt_zero _)
  | n + 1, τ, S, h, hi => hs τ S _ hi fun τ' S' h' hl => wh_go I μ hs n τ' S' (by omega) h'
theorem while_inv {c : DTT} {tb : DTS} {A : DEnds} {τ : DSt} {S : DH} (I : DSt → DH → Prop) (μ : DSt → DH → Nat) (h0 : I τ S)
    (hs : ∀ τ S (N : DSt → DH → Prop), I τ S → (∀ τ' S', I τ' S' → μ τ' S' < μ τ S → N τ' S') → c A.xe τ S fun b S' => if b = true then tb { A with nx := N, ct := N, bk := A.nx } τ S' else A.nx τ S') : dWhile c tb A τ S :=
  ⟨_, wh_go I μ hs (μ τ S + 1) τ S (Nat.lt_succ_self _) h0⟩
/-! == of scalars -/
section
variable {S : DH} {Q : DK}
@[simp] theorem dEq_bl (n a b : Bool) : dEq n (.bl a) (.bl b) S Q = Q (.bl (if n then !(a == b) else a == b)) S := rfl
@[simp] theorem dEq_int (n : Bool) (a b : Int) : dEq n (.int a) (.int b) S Q = Q (.bl (if n then !(a == b) else a == b)) S := rfl
@[simp] theorem dEq_str (n : Bool) (a b : Str) : dEq n (.str a) (.str b) S Q = Q (.bl (if n then !(a == b) else a == b)) S := rfl
end
mutual
theorem Pd.ext {S S' : DH} (e : Ext S S') : ∀ (p : PyData) (d : D), Pd S d p → Pd S' d p
  | .none, _, h => by cases h; exact .non
  | .bool b, _, h => by cases h; exact .bl b
  | .int i, _, h => by cases h; exact .int i
  | .str x, _, h => by cases h; exact .str x
  | .tuple ps, _, h => by cases h with | tup hs => exact .tup (PdA.ext e ps _ hs)
  | .list ps, _, h => by
    cases h with
    | rol hs => exact .rol (PdA.ext e ps _ hs)
    | lst ea hs => exact .lst (e _ _ ea) (PdA.ext e ps _ hs)
  | .dict _, _, h => by cases h
theorem PdA.ext {S S' : DH} (e : Ext S S') : ∀ (ps : List PyData) (ds : List D), PdA S ds ps → PdA S' ds ps
  | [], _, h => by cases h; exact .nil
  | p :: ps, _, h => by cases h with | cons h1 h2 => exact .cons (Pd.ext e p _ h1) (PdA.ext e ps _ h2)
end
/-- what repr takes -/
def Shows (S : DH) (d : D) (p : PyData) : Prop := Pd S d p ∧ p.showable = true ∧ p.depth ≤ 100 ∧ p.shown.length ≤ sizeLine
theorem Shows.ext {S S' : DH} {d : D} {p : PyData} (e : Ext S S') (h : Shows S d p) : Shows S' d p := ⟨h.1.ext e p d, h.2⟩
end Dt
set_option maxRecDepth 100000
set_option maxHeartbeats 4000000
/-! Dat9: the law's own head, from a def's promise over data. -/
namespace Dt
open PySem PySem.Spec L2 PySem.W PyProof.Rows
theorem rds_ints {K : PySem.W.Frag} {H : Hp} : ∀ ns : List Int, RDs K H (ns.map D.int) (ns.map V.int)
  | [] => .nil
  | i :: r => .cons rfl (rds_ints r)
section
variable {P : Program} {w : World} {K : PySem.W.Frag} {mg mb : Str → Option Value} {k : Nat} {fa a : Addr} {fd : FuncData} {x : Str} {sp : DSp} {s : Shared} {ns : List Int}
/-- what the ground of the law's call holds -/
structure Grd (K : PySem.W.Frag) (mg mb : Str → Option Value) (s : Shared) : Prop where
  kin : K.In s.heap
  glob : s.heap.Ns mainGlobals mg
  blt : s.heap.Ns builtinsNs mb
  bbs : ∀ x : Str, x ≠ "__name__" → mb x = bootBuiltins x
  lim : s.heap.NoLimit
  gens : s.gens = #[]
theorem head_run (G : Grd K mg mb s) (hr : Room k callerA) (F : ∀ base : Heap, K.In base → base.Ns mainGlobals mg → DFn P w K mg base k fa fd [x] sp) (hb : ∀ (s : Shared) (u : Value), BindsTo s fd ⟨[u], []⟩ [(x, u)])
    (hsp : ∀ S, sp [.rol (ns.map D.int)] S (fun d _ => d = .bl true) fun _ _ _ => False) {H : Hp} (hH : ∀ b u, H b = some u → K.lookup b = none ∧ (∃ o, u = .frz o (.lst (ns.map V.int))) ∧ ∃ o its n, s.heap.get? b = some o ∧ o.data = .seq its n) (hok : HOk P w H s.heap) (hS : SqR K H a (ns.map V.int)) :
    codeAny (model P w) callerA (.call (.ref fa) ⟨[.ref a], []⟩) (fun r s' => r = .ok (.ret (.bool true)) ∧ OldK s.heap s'.heap ∧ s'.os = s.os ∧ AllBare s'.gens) s := by
  have up : ∀ {b : Addr} {o : Obj}, s.heap.get? b = some o → (∀ its n, o.data ≠ .seq its n) → (hidT s.heap H).get? b = some o := fun {b o} e nd => hidT_get e (by
    cases q : H b with
    | none => rfl
    | some u =>
      obtain ⟨_, _, o', its, n, e', d'⟩ := hH b u q
      cases e.symm.trans e'
      exact absurd d' (nd its n))
  have upNs : ∀ {b : Addr} {m : Str → Option Value}, s.heap.Ns b m → (hidT s.heap H).Ns b m := fun {b m} ⟨o, es, ep, e, d, r⟩ => ⟨o, es, ep, up e (fun its n z => by cases d.symm.trans z), d, r⟩
  have kin : K.In (hidT s.heap H) := fun b o e => hidT_get (G.kin b o e) (by
    cases q : H b with
    | none => rfl
    | some u => cases (hH b u q).1.symm.trans e)
  obtain ⟨mc, c1, c2⟩ := G.lim
  have env : Env0 P w K mg (hidT s.heap H) callerA [] s H :=
    ⟨rfl, ⟨kin, upNs G.glob, ⟨mb, upNs G.blt, G.bbs⟩, ⟨mc, upNs c1, c2⟩⟩, fun _ _ e => of_hidT e, by rw [hidT_size]; exact Nat.le_refl _, trivial, fun _ z => (nomatch z), hok, .of_eq G.gens⟩
  refine codeAny_mono ((F _ kin (upNs G.glob)).run callerA [] s H ⟨[.ref a], []⟩ [.ref a] [.ref a] (fun v _ => v = .bl true) (fun _ _ _ => False) hr rfl env (hb s (.ref a)) (.cons rfl .nil)
    ⟨[.rol (ns.map D.int)], fun _ => none, (fun _ _ z => nomatch z), RDs.cons ⟨a, _, rfl, hS, rds_ints ns⟩ .nil, (F _ kin (upNs G.glob)).mono _ _ _ _ _ _ (fun d S' e v H' _ _ r => ?_) (fun _ _ _ z => z.elim) (hsp _)⟩) fun r s' h => ?_
  · subst e
    exact r
  · match r, h with
    | .error e, ⟨_, _, _, _, _, _, _, _, _, _, _, _, z⟩ => exact z.elim
    | .ok (.ret u), ⟨v, H', os, bare, un, hok', rv, e⟩ =>
      cases e
      cases (show u = Value.bool true from rv)
      refine ⟨rfl, OldK.of_keep fun b o e => ?_, os, bare⟩
      cases q : H b with
      | none => exact un.keep b o e q (fun z => nomatch z) (fun z => nomatch z)
      | some u =>
        obtain ⟨_, ⟨ob, rfl⟩, _⟩ := hH b u q
        have e1 := (hok b _ q).1
        have e2 := (hok' b _ (un.frzs b ob _ q)).1
        cases e.symm.trans e1
        exact e2
/-- the same for the script as it is handed in -/
theorem head_call {vs : List Value} (G : Grd K mg mb s) (hr : Room k callerA) (F : ∀ base : Heap, K.In base → base.Ns mainGlobals mg → DFn P w K mg base k fa fd [x] sp) (hb : ∀ (s : Shared) (u : Value), BindsTo s fd ⟨[u], []⟩ [(x, u)])
    (hsp : ∀ S, sp [.rol (ns.map D.int)] S (fun d _ => d = .bl true) fun _ _ _ => False) (ha : s.heap.get? a = some { cls := .type "list", data := .seq vs.toArray }) (hi : IntsAre vs ns) (hl : ns.length ≤ sizeLine) :
    codeAny (model P w) callerA (.call (.ref fa) ⟨[.ref a], []⟩) (fun r s' => r = .ok (.ret (.bool true)) ∧ OldK s.heap s'.heap ∧ s'.os = s.os ∧ AllBare s'.gens) s := by
  have rv := vals_ints hi
  cases hk : K.lookup a with
  | some o =>
    have e := G.kin a o hk
    cases ha.symm.trans e
    refine head_run (H := fun _ => none) G hr F hb hsp (fun _ _ z => nomatch z) (fun _ _ z => nomatch z) (.inr ⟨vs.toArray, _, hk, ?_, rv⟩)
    rw [List.size_toArray, hi.length]
    exact hl
  | none =>
    refine head_run (H := upd (fun _ => none) a (.frz { cls := .type "list", data := .seq vs.toArray } (.lst (ns.map V.int)))) G hr F hb hsp (fun b u z => ?_) (fun b u z => ?_) (.inl ⟨_, upd_same⟩)
    all_goals
      by_cases hba : b = a
      · subst hba
        rw [upd_same] at z
        cases z
        first
          | exact ⟨hk, ⟨_, rfl⟩, _, vs.toArray, _, ha, rfl⟩
          | exact ⟨ha, by rw [List.length_map]; exact hl, vs, _, rv, ha⟩
      · rw [upd_ne hba] at z
        cases z
end
/-- the goal that k_head leaves, from the promise of the law's def -/
theorem dwalk {l : OpenLaw} {n k : Nat} {q : Program} {loose : List Str} {XP : (Str → Option Value) → Heap → Prop} {YP : World → Heap → Prop} {d : DefRec} {K : Params → PySem.W.Frag} {sp : DSp} {x : Str} (hn : l.most = some n) (hn2 : n ≤ sizeLine) (hdf : d.params.defaults = []) (hr : Room k callerA) (hY : ∀ (w : World) (h : Heap), YP w h → (K w.params).In h)
    (F : ∀ (w : World) (mg : Str → Option Value) (fa : Addr) (h : Heap), (K w.params).In h → h.Ns mainGlobals mg → mg d.name = some (.ref fa) →
      ∃ fd : FuncData, (∀ (s : Shared) (u : Value), BindsTo s fd ⟨[u], []⟩ [(x, u)]) ∧ ∀ base : Heap, (K w.params).In base → base.Ns mainGlobals mg → DFn l.prog w (K w.params) mg base k fa fd [x] sp)
    (hsp : ∀ (ns : List Int) S, ns.length ≤ n → sp [.rol (ns.map D.int)] S (fun d _ => d = .bl true) fun _ _ _ => False) : WalkO q loose XP YP l.row.toRowW d [] (fun f vs => PySem.call f vs) := by
  refine Att.attach_call hn hdf fun w _ s₁ mg mb fa _ _ _ _ a vs ns G Y _ _ _ hmg hobj hints hlen hg => ?_
  have KX := hY w _ Y
  obtain ⟨fd, hb, hF⟩ := F w mg fa _ KX G.T.g hmg
  exact head_call (ns := ns) ⟨KX, G.T.g, G.T.b, G.T.builtins, G.T.nolimit, hg⟩ hr hF hb (fun S => hsp ns S hlen) hobj hints (Nat.le_trans hlen hn2)
end Dt
set_option maxRecDepth 100000
set_option maxHeartbeats 4000000
/-! DatS: set(list) of ints and texts. -/
namespace Dt
open PySem PySem.Spec PySem.W L2 PyProof.Rows
/-- a set's row stands for a key -/
def RowK (w : World) (e : Int × Value) (k : Key) : Prop := keyIs k e.2 = true ∧ e.1 = keyH w k
theorem key_scans {k : Key} {v : Value} (h : keyIs k v = true) : v.scannable = true := by
  rcases keyIs_shape h with ⟨i, t, rfl, rfl⟩ | ⟨x, t, rfl, rfl⟩ <;> rfl
/-- the set at a: its keys, each once, in some order of the table's rows; the table may be walked -/
def SetKs (w : World) (h : Heap) (a : Addr) (ks : List Key) : Prop :=
  ∃ (o : Obj) (es : Array (Int × Value)) (ep : Nat) (t : SetTable) (l : List (Int × Value)), h.get? a = some o ∧ o.ExactSet ∧ o.data = .set es ep t ∧ es.toList.Perm l ∧ EachIs (RowK w) l ks ∧ ks.Nodup ∧
    es.size < scanBound ∧ t.fits es.size = true ∧ Ris t.place.toList ∧ (w.params.followText "set-order" = true ∨ t.led = true)
section
variable {P : Program} {w : World} {A : Around} {E : Value → Shared → Prop} {s : Shared} {a : Addr} {ks : List Key}
theorem each_right {α β : Type} {R : α → β → Prop} : ∀ {l : List α} {ks : List β}, EachIs R l ks → ∀ e ∈ l, ∃ k ∈ ks, R e k
  | _, _, .nil, _, h => nomatch h
  | _, _, .cons x t, e, h => by
    rcases List.mem_cons.mp h with rfl | z
    · exact ⟨_, List.mem_cons_self .., x⟩
    · obtain ⟨k, hk, r⟩ := each_right t e z
      exact ⟨k, List.mem_cons_of_mem _ hk, r⟩
theorem each_left {α β : Type} {R : α → β → Prop} : ∀ {l : List α} {ks : List β}, EachIs R l ks → ∀ k ∈ ks, ∃ e ∈ l, R e k
  | _, _, .nil, _, h => nomatch h
  | _, _, .cons x t, k, h => by
    rcases List.mem_cons.mp h with rfl | z
    · exact ⟨_, List.mem_cons_self .., x⟩
    · obtain ⟨e, he, r⟩ := each_left t k z
      exact ⟨e, List.mem_cons_of_mem _ he, r⟩
theorem each_get {α β : Type} {R : α → β → Prop} : ∀ {l : List α} {ks : List β} {i : Nat} {v : α}, EachIs R l ks → l[i]? = some v → ∃ k, ks[i]? = some k ∧ R v k
  | _, _, _, _, .nil, h => by cases h
  | _, _, 0, _, .cons x _, h => by cases h; exact ⟨_, rfl, x⟩
  | _, _, i + 1, _, .cons _ t, h => each_get (i := i) t h
theorem each_snoc {α β : Type} {R : α → β → Prop} {x : α} {y : β} (h : R x y) : ∀ {l : List α} {ks : List β}, EachIs R l ks → EachIs R (l ++ [x]) (ks ++ [y])
  | _, _, .nil => .cons h .nil
  | _, _, .cons a t => .cons a (each_snoc h t)
theorem rows_elems {es : Array (Int × Value)} {l : List (Int × Value)} (p : es.toList.Perm l) (r : EachIs (RowK w) l ks) : ElemsOf (mixKind P w) es.toList := fun e he => by
  obtain ⟨k, _, h1, h2⟩ := each_right r e (p.mem_iff.mp he)
  exact ⟨⟨k, h1, h2⟩, key_scans h1⟩
theorem SetKs.len {h : Heap} (R : SetKs w h a ks) : ks.length < scanBound := by
  obtain ⟨o, es, ep, t, l, _, _, _, p, r, _, hb, _⟩ := R
  rw [← r.length, ← p.length_eq, Array.length_toList]
  exact hb
theorem SetKs.at {h h' : Heap} (R : SetKs w h a ks) (k : ∀ o, h.get? a = some o → h'.get? a = some o) : SetKs w h' a ks := by
  obtain ⟨o, es, ep, t, l, ho, r⟩ := R
  exact ⟨o, es, ep, t, l, k o ho, r⟩
/-- the rows laid down, and the table laid anew where it is too full -/
theorem ks_lay {g : Bool → Sem Unit} (hg : ∀ (b : Bool) (s₁ : Shared) (Q' : Unit → Shared → Prop), Q' () s₁ → wpAny (model P w) A (g b) Q' E s₁) {o : Obj} {es es1 : Array (Int × Value)} {ep : Nat} {t t2 : SetTable} {l : List (Int × Value)} {wasDummy : Bool} {R : Option Bool → Shared → Prop}
    (ho : s.heap.get? a = some o) (hex : o.ExactSet) (hd : o.data = .set es ep t) (p : es1.toList.Perm l) (r : EachIs (RowK w) l ks) (nd : ks.Nodup) (hb : es1.size < scanBound) (hf : t2.fits es1.size = true) (hr : Ris t2.place.toList) (hl : w.params.followText "set-order" = true ∨ t2.led = true)
    (hR : ∀ h', Heap.SameBut a s.heap h' → SetKs w h' a ks → R (some true) { s with heap := h' }) :
    wpAny (model P w) A (do
        storeSet a es1 t2
        if (!wasDummy && t2.tooFull) = true then do
            g (relayAll t2 es1 (SetTable.grown es1.size)).2.2
            storeSet a (relayAll t2 es1 (SetTable.grown es1.size)).1 (relayAll t2 es1 (SetTable.grown es1.size)).2.1
            pure (some true)
          else pure (some true)) R E s := by
  refine wpAny_bind (wpAny_storeSet_of ho hd ?_ (fits_of_scanBound hb))
  have ho1 := store_at (es' := es1) (t' := t2) ho hd
  have sb := Heap.SameBut.update s.heap a (Obj.putSet es1 t2)
  split
  · have q1 := relayAll_perm t2 es1 (SetTable.grown es1.size)
    have q2 := relayAll_fits t2 es1 (SetTable.grown es1.size)
    have q3 := relayAll_ris t2 es1 (SetTable.grown es1.size)
    have q4 := relayAll_led t2 es1 (SetTable.grown es1.size)
    generalize relayAll t2 es1 (SetTable.grown es1.size) = Z at q1 q2 q3 q4 ⊢
    obtain ⟨es2, t3, gave⟩ := Z
    dsimp only at q1 q2 q3 q4 ⊢
    have hb2 : es2.size < scanBound := by
      rw [← Array.length_toList, q1.length_eq, Array.length_toList]
      exact hb
    refine wpAny_bind (hg _ _ _ ?_)
    refine wpAny_bind (wpAny_storeSet_of ho1 rfl ?_ (fits_of_scanBound hb2))
    refine wpAny_pure (hR _ (sb.trans (Heap.SameBut.update _ a _)) ⟨_, es2, _, t3, l, store_at (es' := es2) (t' := t3) ho1 rfl, hex, rfl, q1.trans p, r, nd, hb2, q2, q3, ?_⟩)
    rcases hl with z | z
    · exact .inl z
    · exact .inr (q4.trans z)
  · exact wpAny_pure (hR _ sb ⟨_, es1, _, t2, l, ho1, hex, rfl, p, r, nd, hb, hf, hr, hl⟩)
/-- a key more, where it is not there -/
def addK (ks : List Key) (k : Key) : List Key := if (ks.any fun j => decide (j = k)) = true then ks else ks ++ [k]
theorem any_key {ks : List Key} {k : Key} : (ks.any fun j => decide (j = k)) = true ↔ k ∈ ks := by
  rw [List.any_eq_true]
  exact ⟨fun ⟨j, hj, e⟩ => of_decide_eq_true e ▸ hj, fun h => ⟨k, h, decide_eq_true rfl⟩⟩
theorem ks_add {k : Key} {v : Value} {Q : Bool → Shared → Prop} (hv : keyIs k v = true) (R : SetKs w s.heap a ks) (room : ks.length + 1 < scanBound) (hQ : ∀ b h', Heap.SameBut a s.heap h' → SetKs w h' a (addK ks k) → Q b { s with heap := h' }) :
    wpAny (model P w) A (setAddHashed a v (keyH w k)) Q E s := by
  obtain ⟨o, es, ep, t, l, ho, hex, hd, p, r, nd, hb, hf, hr, hl⟩ := R
  have hsc := key_scans hv
  have hel : ElemsOf (mixKind P w) es.toList := rows_elems p r
  unfold setAddHashed setAddHashedIn
  refine wpAny_holding (wpAny_bind (wpAny_setState_of ho hd hf ?_))
  dsimp only
  rw [byScan_of hsc hb hel]
  simp only [↓reduceIte]
  unfold setAddByScan
  refine wpAny_bind (wpAny_bind (wpAny_rule (wpAny_bind (wpAny_setScan_of (knd := mixKind P w) (k := k) hv ho hd hf hel ?_))))
  cases hfi : List.findIdx? (fun e => (mixKind P w).is k e.2) es.toList with
  | some j =>
    dsimp only
    obtain ⟨hj, pj, _⟩ := List.findIdx?_eq_some_iff_getElem.mp hfi
    obtain ⟨k2, hk2, r1, _⟩ := each_right r _ (p.mem_iff.mp (List.getElem_mem hj))
    have ek : k = k2 := (mixKind P w).inj _ _ _ pj r1
    have e : addK ks k = ks := if_pos (any_key.mpr (ek ▸ hk2))
    exact wpAny_pure (wpAny_pure (hQ false s.heap (Heap.SameBut.refl a s.heap) (by rw [e]; exact ⟨o, es, ep, t, l, ho, hex, hd, p, r, nd, hb, hf, hr, hl⟩)))
  | none =>
    dsimp only
    have hnk : k ∉ ks := fun z => by
      obtain ⟨e, he, q, _⟩ := each_left r k z
      have c := List.findIdx?_eq_none_iff.mp hfi e (p.mem_iff.mpr he)
      have q' : (mixKind P w).is k e.2 = true := q
      rw [q'] at c
      cases c
    have e : addK ks k = ks ++ [k] := if_neg fun z => hnk (any_key.mp z)
    rw [e] at hQ
    have hgw : ∀ (b : Bool) {s₁ : Shared} {Q' : Unit → Shared → Prop}, Q' () s₁ → wpAny (model P w) A (match b with | true => rule "set.scan.the-table-gave-way" | false => pure ()) Q' E s₁ := fun b s₁ Q' q => by
      cases b
      · exact wpAny_pure q
      · exact wpAny_rule q
    have q1 := layNew_perm t es (keyH w k) v
    have q2 := layNew_fits t es (keyH w k) v
    have q3 := layNew_ris t es (keyH w k) v hr
    have q4 := layNew_led t es (keyH w k) v
    generalize layNew t es (keyH w k) v = Z at q1 q2 q3 q4 ⊢
    obtain ⟨es1, t1, wasDummy, gave⟩ := Z
    dsimp only at q1 q2 q3 q4 ⊢
    rw [Array.toList_push] at q1
    have p1 : es1.toList.Perm (l ++ [(keyH w k, v)]) := q1.trans (p.append_right _)
    have r1 : EachIs (RowK w) (l ++ [(keyH w k, v)]) (ks ++ [k]) := each_snoc ⟨hv, rfl⟩ r
    have nd1 : (ks ++ [k]).Nodup := List.nodup_append.mpr ⟨nd, List.nodup_cons.mpr ⟨List.not_mem_nil, List.nodup_nil⟩, fun x hx y hy z => hnk (by rw [← List.mem_singleton.mp hy, ← z]; exact hx)⟩
    have hb1 : es1.size < scanBound := by
      rw [← Array.length_toList, p1.length_eq, r1.length, List.length_append]
      exact room
    have hled : w.params.followText "set-order" = true ∨ t1.led = true := hl.imp id fun z => q4.trans z
    refine wpAny_bind (hgw _ ?_)
    split
    · refine wpAny_bind ?_
      rw [hashByValue_scannable 8 hsc]
      refine wpAny_pure (ks_lay ?_ ho hex hd p1 r1 nd1 hb1 ?_ ?_ ?_ fun h' sb z => wpAny_pure (hQ true h' sb z))
      · exact fun b s₁ Q' q => hgw b q
      · first | exact q2 | (split <;> first | exact q2 | exact SetTable.fits_plain_off q2)
      · first | exact q3 | (split <;> exact q3)
      · first | exact hled | (split <;> exact hled)
    · refine wpAny_bind (wpAny_pure ?_)
      simp only [↓reduceIte]
      exact ks_lay (fun b s₁ Q' q => hgw b q) ho hex hd p1 r1 nd1 hb1 q2 q3 hled fun h' sb z => wpAny_pure (hQ true h' sb z)
/-- the keys, each at its first place -/
def firstK (ks : List Key) : List Key := ks.foldl addK []
theorem firstK_snoc (ks : List Key) (k : Key) : firstK (ks ++ [k]) = addK (firstK ks) k := by
  unfold firstK
  rw [List.foldl_append]
  rfl
theorem firstK_take {ks : List Key} {i : Nat} {k : Key} (h : ks[i]? = some k) : firstK (ks.take (i + 1)) = addK (firstK (ks.take i)) k := by
  rw [List.take_succ, h, ← firstK_snoc]
  rfl
theorem addK_len (ks : List Key) (k : Key) : (addK ks k).length ≤ ks.length + 1 := by
  unfold addK
  split
  · omega
  · simp
theorem foldK_len : ∀ (ks acc : List Key), (ks.foldl addK acc).length ≤ acc.length + ks.length
  | [], _ => Nat.le_refl _
  | k :: ks, acc => by
    have h1 := foldK_len ks (addK acc k)
    have h2 := addK_len acc k
    simp only [List.foldl_cons, List.length_cons]
    omega
theorem firstK_len (ks : List Key) : (firstK ks).length ≤ ks.length := by
  have := foldK_len ks []
  unfold firstK
  simpa using this
/-- the loop that fills a set -/
theorem ks_loop {I : Addr} {fp wr : List Addr} {G : Array GenState → Array GenState → Prop} {n : Nat} {Pv : Nat → Value → Prop} {St : Nat → Shared → Prop} {R : Result → Shared → Prop} {B : Addr} {all : List Key}
    (W : WalksS P w A.in1 I fp wr G n Pv St) (hB : B ∉ fp) (hn : n = all.length) (hv : ∀ i v, Pv i v → ∃ k, all[i]? = some k ∧ keyIs k v = true) (hb : n + 1 < scanBound)
    (hR : ∀ s' s0, Moved (B :: wr) G s0 s' → SetKs w s'.heap B (firstK all) → s0 = s → R (.ok (.ret .none)) s') :
    ∀ (m i : Nat) (s1 : Shared), n - i = m → i ≤ n → St i s1 → SetKs w s1.heap B (firstK (all.take i)) → (∀ s', Moved (B :: wr) G s1 s' → Moved (B :: wr) G s s') → codeAny (model P w) A (.builtin "set.update.loop" ⟨[.ref B, .ref I], []⟩) R s1 := by
  have hBw : B ∉ wr := fun h => hB (W.sub _ h)
  have more : ∀ b ∈ wr, b ∈ B :: wr := fun b hb => List.mem_cons_of_mem _ hb
  intro m
  induction m with
  | zero =>
    intro i s1 hm hi hst hS mv
    have hin : i = n := by omega
    subst hin
    (refine codeAny_builtin F.entry_set_update_loop ?_; rw [Around.under_plainId F.plain_set_update_loop _])
    refine (show wpAny _ A.in1 (pyNext (.ref I) >>= _) _ _ s1 from wpAny_bind (W.done s1 _ _ hst fun s' hm => wpAny_pure (hR s' s (mv s' (hm.mono more)) ?_ rfl)))
    rw [show all.take i = all from List.take_of_length_le (by omega)] at hS
    exact hS.at fun o e => hm.heap B o hBw e
  | succ m ih =>
    intro i s1 hm hi hst hS mv
    have hlt : i < n := by omega
    (refine codeAny_builtin F.entry_set_update_loop ?_; rw [Around.under_plainId F.plain_set_update_loop _])
    refine (show wpAny _ A.in1 (pyNext (.ref I) >>= _) _ _ s1 from wpAny_bind (W.item i s1 _ _ hlt hst fun v s' hP hst' hm => ?_))
    obtain ⟨k, hk, hkv⟩ := hv i v hP
    have hS' : SetKs w s'.heap B (firstK (all.take i)) := hS.at fun o e => hm.heap B o hBw e
    refine (show wpAny _ A.in1 (holding [v] (setAdd B v) >>= _) _ _ s' from wpAny_bind (wpAny_holding ?_))
    unfold setAdd
    refine wpAny_holding (wpAny_bind ((mixKind P w).pyHash (k := k) hkv ?_))
    have room : (firstK (all.take i)).length + 1 < scanBound := by
      have := firstK_len (all.take i)
      rw [List.length_take] at this
      omega
    refine ks_add (s := { s' with toks := s'.toks + 1 }) hkv hS' room fun b h' sb hS2 => ?_
    rw [← firstK_take hk] at hS2
    refine wpAny_pure ⟨plainId_quiet F.plain_set_update_loop _, ih (i + 1) _ (by omega) hlt (W.frame _ s' _ _ hst' (Nat.le_succ _) fun c hc o e => ?_) hS2 fun s'' hm'' => mv s'' (Moved.trans W.gtrans ((hm.mono more).then_heap (Nat.le_succ _) fun c o hc e => ?_) hm'')⟩
    · exact (sb.2 c (fun z : c = B => hB (by rw [← z]; exact hc))).trans e
    · exact (sb.2 c (fun z : c = B => hc (by rw [z]; exact List.mem_cons_self))).trans e
theorem ks_none {h : Heap} {a : Addr} (ho : h.get? a = some { cls := .type "set", dict := none, data := .set #[] 0 (.fresh 0 0 (!w.params.followText "set-order")) }) : SetKs w h a [] := by
  refine ⟨_, #[], 0, _, [], ho, ⟨rfl, rfl, rfl⟩, rfl, List.Perm.nil, .nil, List.nodup_nil, by decide, rfl, List.Pairwise.nil, ?_⟩
  cases e : w.params.followText "set-order"
  · exact .inr rfl
  · exact .inl rfl
abbrev newSet (w : World) : Obj := { cls := .type "set", dict := none, data := .set #[] 0 (.fresh 0 0 (!w.params.followText "set-order")) }
set_option maxHeartbeats 8000000 in
/-- set(xs): ints and texts -/
theorem call_ks {l : Addr} {items : Array Value} {all : List Key} {Q : Value → Shared → Prop} (hh : A.handled = none) (hl : s.heap.IsList l items) (hit : EachIs (fun v k => keyIs k v = true) items.toList all) (hb : all.length + 1 < scanBound)
    (h : ∀ (h' : Heap) (tk : Nat), SetKs w h' s.heap.objs.size (firstK all) → (∀ b o, b < s.heap.objs.size → s.heap.get? b = some o → h'.get? b = some o) → Q (.ref s.heap.objs.size) { s with heap := h', toks := tk }) :
    wpAny (model P w) A (call (.type "set") [.ref l]) Q E s := by
  have hn : items.size = all.length := by rw [← Array.length_toList, hit.length]
  obtain ⟨c, tl, hmro⟩ := F.called_set.mro
  have hmade := F.called_set.made; have hsub := F.called_set.sub
  refine wpAny_call (codeAny_of_tree (show wpAny _ _ (callAny (.type "set") _) _ _ _ from wpAny_pure ⟨Code.quiet_builtin _ (by decide +kernel), codeAny_builtin F.entry_type_call ?_⟩))
  rw [Around.under_plain (weight_type_call_type "set" [.ref l] []) rfl]
  have h1 := F.called_set.notType; have h2 := F.called_set.canCreate; have hct := F.typeCall_set_1 (.ref l)
  repeat (any_goals (first | assumption | wp_step))
  refine codeAny_mono (code_set_led1 (.ref l) (E := E) (Q₁ := fun obj s₁ => obj = .ref s.heap.objs.size ∧ s₁ = { s with heap := s.heap.push (newSet w) }) ⟨rfl, rfl⟩) fun r s₁ hr => ?_
  match r, hr with
  | .error e, hr => exact hr
  | .ok .next, hr => exact hr.elim
  | .ok .brk, hr => exact hr.elim
  | .ok .cont, hr => exact hr.elim
  | .ok (.ret obj), ⟨e1, e2⟩ =>
    subst e1; subst e2
    have hS : (s.heap.push (newSet w)).get? s.heap.objs.size = some (newSet w) := Heap.get?_push_size _ rfl
    have hT : Shared.TypeIs { s with heap := s.heap.push (newSet w) } (.ref s.heap.objs.size) "set" := ⟨_, hS, rfl⟩
    have hli := F.called_set.init.lookup; have hbi := F.called_set.init.bind (.ref s.heap.objs.size)
    repeat (any_goals (first | assumption | wp_step))
    refine codeAny_mono (codeAny_call_builtin (R := wants (fun r s₂ => r = .none ∧ ∃ h' tk, s₂ = { s with heap := h', toks := tk } ∧ SetKs w h' s.heap.objs.size (firstK all) ∧ ∀ b o, b < s.heap.objs.size → s.heap.get? b = some o → h'.get? b = some o) E) F.called_set.init.plain F.entry_set_init (check_set_init_1 hT ?_)) fun r₂ s₂ hr₂ => ?_
    · obtain ⟨⟨ocls, odict, odata, oslots⟩, hol, hcl, nl, hdl⟩ := hl
      simp only at hcl hdl
      subst hcl; subst hdl
      have hol' : (s.heap.push (newSet w)).get? l = some { cls := .type "list", dict := odict, data := .seq items nl, slots := oslots } := Heap.get?_push_of_some _ hol
      have hsls := F.sub_list_set; have hslf := F.sub_list_frozenset; have hne : (Value.type "list" == Value.type "dict") = false := by decide
      have hl1 : (s.heap.push (newSet w)).IsList l items := ⟨_, hol', rfl, nl, rfl⟩
      unfold Builtin.«set.__init__» noKeywords Builtin.Frozenset.updateFrom
      (generalize hPI : pyIter = PI; wp_walk; subst hPI)
      refine wpAny_pyIter_list hl1 (wpAny_bind (wpAny_runValue ?_))
      have hlS : l < s.heap.objs.size := Heap.lt_size hol
      have hh3 : A.in1.in1.in1.handled = none := by simp [hh]
      have hz : (s.heap.push (newSet w)).objs.size = s.heap.objs.size + 1 := Heap.size_push ..
      have hneI : l ≠ (s.heap.push (newSet w)).objs.size := fun z => absurd hlS (by rw [z, Heap.size_push]; exact Nat.not_lt_of_le (Nat.le_succ _))
      have hSf : s.heap.objs.size ∉ [(s.heap.push (newSet w)).objs.size, l] := by
        rw [Heap.size_push]
        simp only [List.mem_cons, List.not_mem_nil, or_false, not_or]
        exact ⟨fun z => absurd z (Nat.ne_of_lt (Nat.lt_succ_self _)), fun z => absurd hlS (by rw [← z]; exact Nat.lt_irrefl _)⟩
      have hval : ∀ (i : Nat) (v : Value), items[i]? = some v → ∃ k, all[i]? = some k ∧ keyIs k v = true := fun i v hv => by
        rw [← Array.getElem?_toList] at hv
        exact each_get hit hv
      refine ks_loop (B := s.heap.objs.size) (all := all) ((Walks.list hh3 _ l hneI items).toS) hSf hn hval (by omega) (fun s' s0 hm hS' e0 => ?_) (items.size - 0) 0 _ (by omega) (Nat.zero_le _) ⟨⟨_, Heap.get?_push_size _ rfl, rfl, rfl⟩, (hl1.push _)⟩ (ks_none (Heap.get?_push_of_some _ hS)) (fun _ z => z)
      subst e0
      obtain ⟨h', g', d', tk', os'⟩ := s'
      have eg : g' = s.gens := hm.gens
      have ed : d' = s.drawn := hm.drawn
      have eo : os' = s.os := hm.os
      subst eg; subst ed; subst eo
      refine (show wpAny _ _ _ _ _ _ from wpAny_pure (show wpAny _ _ (ret Value.none) _ _ _ from wpAny_pure ⟨rfl, h', tk', rfl, hS', fun b o hb e => ?_⟩))
      exact hm.heap b o (by rw [Heap.size_push]; simp only [List.mem_cons, List.not_mem_nil, or_false, not_or]; exact ⟨Nat.ne_of_lt hb, Nat.ne_of_lt (Nat.lt_succ_of_lt hb)⟩) (Heap.get?_push_of_some _ (Heap.get?_push_of_some _ e))
    · match r₂, hr₂ with
      | .error e, hr₂ => exact hr₂
      | .ok .next, hr₂ => exact hr₂.elim
      | .ok .brk, hr₂ => exact hr₂.elim
      | .ok .cont, hr₂ => exact hr₂.elim
      | .ok (.ret r), ⟨e1, h', tk, e2, hS', hk'⟩ =>
        subst e1; subst e2
        repeat (any_goals (first | assumption | wp_step))
        exact h _ _ hS' hk'
end
end Dt
set_option maxRecDepth 100000
set_option maxHeartbeats 4000000
/-! DatA: in, tuple * int, a tuple of the module. -/
namespace Dt
open PySem PySem.Spec L2
@[simp] def flD : D → Bool
  | .non => true
  | .bl _ => true
  | .int _ => true
  | .str _ => true
  | _ => false
@[simp] def eqF : D → D → Bool
  | .non, .non => true
  | .bl a, .bl b => a == b
  | .bl a, .int b => (if a then 1 else 0) == b
  | .int a, .bl b => a == (if b then 1 else 0)
  | .int a, .int b => a == b
  | .str a, .str b => a == b
  | _, _ => false
def inF (x : D) (ds : List D) : Bool := ds.any fun y => eqF y x
section
variable {w : World} {K : PySem.W.Frag} {H : Hp}
theorem flD_V {d : D} {v : V} (r : RD K H d v) (f : flD d = true) : flatV v = true := by
  cases d <;> first | (cases r; rfl) | cases f
theorem eqF_V {d e : D} {v u : V} (r : RD K H d v) (s : RD K H e u) (f : flD d = true) (g : flD e = true) : eqV v u = eqF d e := by
  cases d <;> first | (simp at f; done) | skip
  all_goals (cases e <;> first | (simp at g; done) | skip)
  all_goals (cases r; cases s; rfl)
theorem flDs_V : ∀ {ds : List D} {vs : List V}, RDs K H ds vs → ds.all flD = true → vs.all flatV = true
  | [], _, r, _ => by cases r; rfl
  | d :: ds, _, r, h => by
    obtain ⟨v, vs, rfl, r1, r2⟩ := r
    rw [List.all_cons, Bool.and_eq_true] at h
    rw [List.all_cons, flD_V r1 h.1, flDs_V r2 h.2]
    rfl
theorem inF_V {x : D} {v : V} (rx : RD K H x v) (fx : flD x = true) : ∀ {ds : List D} {vs : List V}, RDs K H ds vs → ds.all flD = true → inV v vs = inF x ds
  | [], _, r, _ => by cases r; rfl
  | d :: ds, _, r, h => by
    obtain ⟨w, vs, rfl, r1, r2⟩ := r
    rw [List.all_cons, Bool.and_eq_true] at h
    have e := inF_V rx fx r2 h.2
    unfold inV inF at e ⊢
    rw [List.any_cons, List.any_cons, eqF_V r1 rx h.1 fx, e]
end
@[simp] def dInF (neg : Bool) (d : D) (ds : List D) (S : DH) (Q : DK) : Prop := flD d = true ∧ ds.all flD = true ∧ Q (.bl (if neg then !inF d ds else inF d ds)) S
section
variable {X : Cx}
/-- tuple * int -/
@[simp] def dMulT : R2D := fun d e S Q => match d, e with
  | .tup xs, .int n => xs ≠ [] ∧ 2 ≤ n ∧ n ≤ 1000 ∧ xs.length ≤ 1000 ∧ Q (.tup (List.replicate n.toNat xs).flatten) S
  | _, _ => False
/-- a tuple of the module's own -/
theorem de_gtup {x : Str} {a : Addr} {pos : Pos} {ds : List D} {its : Array Value} {n : Nat} {od : Option Addr} {sl : Array (Option Value)} (hg : Gl X x) (hm : X.mg x = some (.ref a)) (hk : X.K.lookup a = some ⟨.type "tuple", od, .seq its n, sl⟩) (hz : its.size ≤ sizeLine) (hd : ∃ vs : List V, Vals vs its.toList ∧ ∀ H, RDs X.K H ds vs)
    (hdb : (x == ("__debug__" : Str)) = false := by decide) : DE X (.Name x pos) (dC (.tup ds)) := by
  obtain ⟨vs, h1, h2⟩ := hd
  exact de_c (pe_glob (v := .ref a) hg hm rfl hdb) fun H => ⟨a, vs, rfl, .inr ⟨_, its, n, hk, rfl, rfl, hz, h1⟩, h2 H⟩
end
/-- a promise that nobody asks -/
abbrev spNo : DSp := fun _ _ _ _ => False
theorem DFn.never {P : Program} {w : World} {K : PySem.W.Frag} {mg : Str → Option Value} {base : Heap} {k : Nat} {f : Addr} {fd : FuncData} {ps : List Str} (_ : Nat) : DFn P w K mg base k f fd ps spNo :=
  ⟨fun _ _ _ _ _ _ _ _ h => h.elim, fun _ _ _ _ h => h.elim, fun _ _ _ _ _ _ _ _ _ _ _ _ _ _ ⟨_, _, _, _, h⟩ => h.elim⟩
@[simp] def prevSp (sp : Nat → DSp) : Nat → DSp
  | 0 => spNo
  | n + 1 => sp n
end Dt
set_option maxRecDepth 100000
set_option maxHeartbeats 4000000
/-! DatB: names, plain texts. -/
namespace Dt
open PySem PySem.Spec L2
abbrev LET : Str := "abcdefghijklmnopqrstuvwxyz"
def hit (d : D) : Bool := match d with | .str s => !(Builtin.Str.occurrences LET s 0 LET.length 1).isEmpty | _ => false
def isNm (d : D) : Bool := match d with | .str x => decide (1 ≤ x.length) && decide (x.length ≤ 8) && (x.cps.toList.map signD).all hit | _ => false
def fnd (d : D) : Int := match d with | .str s => Txt.find LET s | _ => 0
/-- a text of few plain signs -/
def Pl (n : Nat) (x : Str) : Prop := x.length ≤ n ∧ ∀ c ∈ x.cps.toList, c < 128
theorem Pl.mono {n m : Nat} {x : Str} (h : Pl n x) (l : n ≤ m) : Pl m x := ⟨Nat.le_trans h.1 l, h.2⟩
theorem Pl.app {n m : Nat} {x y : Str} (h : Pl n x) (k : Pl m y) : Pl (n + m) (x ++ y) := by
  have e : (x ++ y).cps = x.cps ++ y.cps := rfl
  refine ⟨?_, fun c hc => ?_⟩
  · have h1 : x.cps.size ≤ n := h.1
    have h2 : y.cps.size ≤ m := k.1
    show (x ++ y).cps.size ≤ n + m
    rw [e, Array.size_append]
    omega
  · rw [e, Array.toList_append] at hc
    rcases List.mem_append.mp hc with z | z
    · exact h.2 c z
    · exact k.2 c z
theorem fold_mem {c : Nat} {a : Array Nat} : ∀ (n : Nat) (b : Array Nat), c ∈ ((List.replicate n a).foldl (· ++ ·) b).toList → c ∈ b.toList ∨ c ∈ a.toList
  | 0, b, h => .inl h
  | n + 1, b, h => by
    rw [List.replicate_succ, List.foldl_cons] at h
    rcases fold_mem n _ h with z | z
    · rw [Array.toList_append] at z
      exact List.mem_append.mp z
    · exact .inr z
theorem fold_size {a : Array Nat} : ∀ (n : Nat) (b : Array Nat), ((List.replicate n a).foldl (· ++ ·) b).size = b.size + n * a.size
  | 0, b => by simp
  | n + 1, b => by
    rw [List.replicate_succ, List.foldl_cons, fold_size n, Array.size_append, Nat.succ_mul]
    omega
theorem Pl.mul {x : Str} (h : Pl 1 x) {n : Nat} (hn : n ≤ 9) : Pl 9 (Txt.mul x (n : Int)) := by
  unfold Txt.mul
  split
  · exact ⟨by decide, fun c hc => by cases hc⟩
  · split
    · exact h.mono (by decide)
    · refine ⟨?_, fun c hc => ?_⟩
      · show ((List.replicate ((n : Int)).toNat x.cps).foldl (· ++ ·) #[]).size ≤ 9
        rw [fold_size]
        have h1 : x.cps.size ≤ 1 := h.1
        have e : (n : Int).toNat = n := by omega
        rw [e]
        have := Nat.mul_le_mul hn h1
        simpa using this
      · rcases fold_mem _ _ hc with z | z
        · cases z
        · exact h.2 c z
theorem Pl.lit (s : String) (n : Nat) (h : (decide ((Str.ofString s).length ≤ n) && (Str.ofString s).cps.toList.all fun c => decide (c < 128)) = true) : Pl n (Str.ofString s) := by
  rw [Bool.and_eq_true] at h
  exact ⟨of_decide_eq_true h.1, fun c hc => of_decide_eq_true (List.all_eq_true.mp h.2 c hc)⟩
/-- all but p stands -/
def ExtB (p : Addr) (S S' : DH) : Prop := ∀ b o, b ≠ p → S b = some o → S' b = some o
theorem Pl.join : ∀ ys : List Str, (∀ y ∈ ys, Pl 1 y) → Pl ys.length (Txt.join (.ofString "") ys) := fun ys h => by
  exact (show Txt.join (.ofString "") ys = Str.join (.ofString "") ys from PySem.StrLaws.glued_eq_join ..) ▸ go ys h
where
  go : ∀ ys : List Str, (∀ y ∈ ys, Pl 1 y) → Pl ys.length (Str.join (.ofString "") ys)
  | [], _ => ⟨by decide, fun c hc => by cases hc⟩
  | [x], h => h x (List.mem_cons_self ..)
  | x :: z :: r, h => by
    have e : Pl 0 (Str.ofString "") := Pl.lit "" 0 (by decide +kernel)
    have k := ((h x (List.mem_cons_self ..)).app e).app (go (z :: r) fun y hy => h y (List.mem_cons_of_mem _ hy))
    exact k.mono (by simp; omega)
end Dt
set_option maxRecDepth 100000
set_option maxHeartbeats 4000000
/-! DatC: data within bounds. -/
namespace Dt
open PySem PySem.Spec L2
structure Wt (w dp : Nat) (p : PyData) : Prop where
  sh : p.showable = true
  dp : p.depth ≤ dp
  lf : p.leavesShort 13 = true
  cl : p.canLay0 = true
  wt : p.weight ≤ w
theorem Wt.mono {w dp w' dp' : Nat} {p : PyData} (h : Wt w dp p) (a : w ≤ w') (b : dp ≤ dp') : Wt w' dp' p := ⟨h.sh, Nat.le_trans h.dp b, h.lf, h.cl, Nat.le_trans h.wt a⟩
def Nz (w dp : Nat) (S : DH) (d : D) : Prop := ∃ p, Pd S d p ∧ Wt w dp p
section
variable {S S' : DH} {d : D} {w dp w' dp' n : Nat}
theorem Nz.mono (h : Nz w dp S d) (a : w ≤ w') (b : dp ≤ dp') : Nz w' dp' S d := let ⟨p, h1, h2⟩ := h; ⟨p, h1, h2.mono a b⟩
theorem Nz.ext (h : Nz w dp S d) (e : Ext S S') : Nz w dp S' d := let ⟨p, h1, h2⟩ := h; ⟨p, h1.ext e p d, h2⟩
mutual
theorem Pd.extB {S S' : DH} {q : Addr} (hq : ∀ ds, S q ≠ some (.lst ds)) (e : ExtB q S S') : ∀ (p : PyData) (d : D), Pd S d p → Pd S' d p
  | .none, _, h => by cases h; exact .non
  | .bool b, _, h => by cases h; exact .bl b
  | .int i, _, h => by cases h; exact .int i
  | .str x, _, h => by cases h; exact .str x
  | .tuple ps, _, h => by cases h with | tup hs => exact .tup (PdA.extB hq e ps _ hs)
  | .list ps, _, h => by
    cases h with
    | rol hs => exact .rol (PdA.extB hq e ps _ hs)
    | lst ea hs => exact .lst (e _ _ (fun z => hq _ (by rw [← z]; exact ea)) ea) (PdA.extB hq e ps _ hs)
  | .dict _, _, h => by cases h
theorem PdA.extB {S S' : DH} {q : Addr} (hq : ∀ ds, S q ≠ some (.lst ds)) (e : ExtB q S S') : ∀ (ps : List PyData) (ds : List D), PdA S ds ps → PdA S' ds ps
  | [], _, h => by cases h; exact .nil
  | p :: ps, _, h => by cases h with | cons h1 h2 => exact .cons (Pd.extB hq e p _ h1) (PdA.extB hq e ps _ h2)
end
theorem FeedOb.nl {n : Nat} {o : Ob} (h : FeedOb n o) {q : Addr} {S : DH} (e : S q = some o) : ∀ ds, S q ≠ some (.lst ds) := fun ds z => by
  obtain ⟨_, _, _, rfl, _⟩ := h
  rw [e] at z
  cases z
theorem Nz.extB {q : Addr} (h : Nz w dp S d) (hq : ∀ ds, S q ≠ some (.lst ds)) (e : ExtB q S S') : Nz w dp S' d := let ⟨p, h1, h2⟩ := h; ⟨p, h1.extB hq e p d, h2⟩
theorem Nz.non : Nz w dp S .non := ⟨.none, .non, rfl, Nat.zero_le _, rfl, rfl, Nat.zero_le _⟩
theorem Nz.bl (b : Bool) : Nz w dp S (.bl b) := ⟨.bool b, .bl b, rfl, Nat.zero_le _, rfl, rfl, Nat.zero_le _⟩
theorem Nz.int (i : Int) (h1 : PyData.showable (.int i) = true) (h2 : PyData.leavesShort 13 (.int i) = true) (h3 : PyData.weight (.int i) ≤ w) : Nz w dp S (.int i) := ⟨.int i, .int i, h1, Nat.zero_le _, h2, rfl, h3⟩
theorem Nz.str {x : Str} (h : Pl n x) (hn : n ≤ w) : Nz w dp S (.str x) := by
  refine ⟨.str x, .str x, rfl, Nat.zero_le _, ?_, ?_, Nat.le_trans h.1 hn⟩
  · simp only [PyData.leavesShort, List.all_eq_true, decide_eq_true_eq]
    exact fun c hc => Nat.lt_trans (h.2 c hc) (by decide)
  · show PyData.strOk x = true
    unfold PyData.strOk
    rw [← Array.all_toList, List.all_eq_true]
    exact fun c hc => decide_eq_true (Nat.lt_trans (h.2 c hc) (by decide))
theorem Nz.lit (s : String) (h : (decide ((Str.ofString s).length ≤ w) && (Str.ofString s).cps.toList.all fun c => decide (c < 128)) = true) : Nz w dp S (.str s) := .str (Pl.lit s w h) (Nat.le_refl _)
/-- all of a list -/
structure WtA (w dp : Nat) (ps : List PyData) : Prop where
  sh : PyData.showableAll ps = true
  dp : PyData.depthAll ps ≤ dp
  lf : PyData.leavesShortAll 13 ps = true
  cl : PyData.canLayAll0 ps = true
  wt : PyData.weightAll ps ≤ ps.length * (w + 1)
theorem NzA : ∀ {ds : List D}, (∀ d ∈ ds, Nz w dp S d) → ∃ ps, PdA S ds ps ∧ WtA w dp ps ∧ ps.length = ds.length
  | [], _ => ⟨[], .nil, ⟨rfl, Nat.zero_le _, rfl, rfl, Nat.zero_le _⟩, rfl⟩
  | d :: ds, h => by
    obtain ⟨ps, h1, h2, h3⟩ := NzA (ds := ds) fun e he => h e (List.mem_cons_of_mem _ he)
    obtain ⟨p, h4, h5⟩ := h d (List.mem_cons_self ..)
    refine ⟨p :: ps, .cons h4 h1, ⟨?_, ?_, ?_, ?_, ?_⟩, by simp [h3]⟩
    · simp only [PyData.showableAll, h5.sh, h2.sh, Bool.and_self]
    · simp only [PyData.depthAll]
      have := h5.dp; have := h2.dp
      omega
    · simp only [PyData.leavesShortAll, h5.lf, h2.lf, Bool.and_self]
    · simp only [PyData.canLayAll0, h5.cl, h2.cl, Bool.and_self]
    · simp only [PyData.weightAll, List.length_cons, Nat.succ_mul]
      have := h5.wt; have := h2.wt
      omega
theorem WtA.tup {ps : List PyData} (h : WtA w dp ps) (hw : ps.length * (w + 1) ≤ w') : Wt w' (dp + 1) (.tuple ps) := ⟨h.sh, Nat.succ_le_succ h.dp, h.lf, h.cl, Nat.le_trans h.wt hw⟩
theorem WtA.lst {ps : List PyData} (h : WtA w dp ps) (hw : ps.length * (w + 1) ≤ w') : Wt w' (dp + 1) (.list ps) := ⟨h.sh, Nat.succ_le_succ h.dp, h.lf, h.cl, Nat.le_trans h.wt hw⟩
theorem Nz.tup {ds : List D} (h : ∀ d ∈ ds, Nz w dp S d) (hn : ds.length ≤ n) (hw : n * (w + 1) ≤ w') : Nz w' (dp + 1) S (.tup ds) := by
  obtain ⟨ps, h1, h2, h3⟩ := NzA h
  exact ⟨.tuple ps, .tup h1, h2.tup (by rw [h3]; exact Nat.le_trans (Nat.mul_le_mul_right _ hn) hw)⟩
theorem Nz.lst {ds : List D} {a : Addr} (e : S a = some (.lst ds)) (h : ∀ d ∈ ds, Nz w dp S d) (hn : ds.length ≤ n) (hw : n * (w + 1) ≤ w') : Nz w' (dp + 1) S (.ref a) := by
  obtain ⟨ps, h1, h2, h3⟩ := NzA h
  exact ⟨.list ps, .lst e h1, h2.lst (by rw [h3]; exact Nat.le_trans (Nat.mul_le_mul_right _ hn) hw)⟩
theorem wts_kids : ∀ {ps : List PyData} {ds : List D}, PdA S ds ps → PyData.showableAll ps = true → PyData.depthAll ps ≤ dp → PyData.leavesShortAll 13 ps = true → PyData.canLayAll0 ps = true → PyData.weightAll ps ≤ w → ∀ d ∈ ds, Nz w dp S d
  | [], _, h, _, _, _, _, _ => by cases h; exact fun _ z => nomatch z
  | p :: ps, _, h, h1, h2, h3, h4, h5 => by
    cases h with
    | cons ha hb =>
      simp only [PyData.showableAll, PyData.depthAll, PyData.leavesShortAll, PyData.canLayAll0, PyData.weightAll, Bool.and_eq_true] at h1 h2 h3 h4 h5
      intro d hd
      rcases List.mem_cons.mp hd with rfl | z
      · exact ⟨p, ha, h1.1, by omega, h3.1, h4.1, by omega⟩
      · exact wts_kids hb h1.2 (by omega) h3.2 h4.2 (by omega) d z
theorem Nz.kids {ds : List D} (h : Nz w dp S (.tup ds)) : ∀ d ∈ ds, Nz w dp S d := by
  obtain ⟨p, h1, h2⟩ := h
  cases h1 with
  | tup hs => exact wts_kids hs h2.sh (Nat.le_trans (Nat.le_succ _) h2.dp) h2.lf h2.cl h2.wt
theorem Nz.ty (h : Nz w dp S d) : ∃ n, tyName d S = some n := by
  obtain ⟨p, h1, _⟩ := h
  cases h1 with
  | lst e _ => exact ⟨"list", tyName_lst S e⟩
  | _ => exact ⟨_, rfl⟩
theorem Nz.len {x : Str} (h : Nz w dp S (.str x)) : x.length ≤ w := by
  obtain ⟨p, h1, h2⟩ := h
  cases h1
  exact h2.wt
theorem Nz.shaped (h : Nz w dp S d) (hd : dp ≤ 64) : ∃ p, Pd S d p ∧ SeqAt.shaped p = true := by
  obtain ⟨p, h1, h2⟩ := h
  exact ⟨p, h1, by unfold SeqAt.shaped; rw [h2.cl, decide_eq_true (Nat.le_trans h2.dp hd)]; rfl⟩
end
end Dt
set_option maxRecDepth 100000
set_option maxHeartbeats 4000000
/-! DatV: plain data (==, in, <, sorted by sorts of data); comprehensions whose list is a value. -/
namespace Dt
open PySem PySem.Spec L2 PySem.W PyProof.Rows

/-! ### plain data -/
mutual
def pl : D → Bool
  | .non => true
  | .int _ => true
  | .str x => PyData.strOk x
  | .tup ds => pls ds
  | .rol ds => pls ds
  | .bl _ => false
  | .ref _ => false
def pls : List D → Bool
  | [] => true
  | d :: ds => pl d && pls ds
end
mutual
def dep : D → Nat
  | .tup ds => deps ds + 1
  | .rol ds => deps ds + 1
  | _ => 0
def deps : List D → Nat
  | [] => 0
  | d :: ds => max (dep d) (deps ds)
end
mutual
theorem dep_P : ∀ d : D, (toP d).depth = dep d
  | .non | .bl _ | .int _ | .str _ | .ref _ => rfl
  | .tup ds => congrArg (· + 1) (deps_P ds)
  | .rol ds => congrArg (· + 1) (deps_P ds)
theorem deps_P : ∀ ds : List D, PyData.depthAll (toPs ds) = deps ds
  | [] => rfl
  | d :: ds => by
    show max (toP d).depth (PyData.depthAll (toPs ds)) = max (dep d) (deps ds)
    rw [dep_P d, deps_P ds]
end
mutual
theorem pl_imm : ∀ d : D, pl d = true → imm d = true
  | .non, _ | .int _, _ | .str _, _ => rfl
  | .tup ds, h => pls_imm ds h
  | .rol ds, h => pls_imm ds h
theorem pls_imm : ∀ ds : List D, pls ds = true → imms ds = true
  | [], _ => rfl
  | d :: ds, h => by
    have h' : (pl d && pls ds) = true := h
    rw [Bool.and_eq_true] at h'
    show (imm d && imms ds) = true
    rw [pl_imm d h'.1, pls_imm ds h'.2]
    rfl
end
mutual
theorem pl_lay : ∀ d : D, pl d = true → (toP d).canLay0 = true
  | .non, _ | .int _, _ => rfl
  | .str x, h => h
  | .tup ds, h => pls_lay ds h
  | .rol ds, h => pls_lay ds h
theorem pls_lay : ∀ ds : List D, pls ds = true → PyData.canLayAll0 (toPs ds) = true
  | [], _ => rfl
  | d :: ds, h => by
    have h' : (pl d && pls ds) = true := h
    rw [Bool.and_eq_true] at h'
    show ((toP d).canLay0 && PyData.canLayAll0 (toPs ds)) = true
    rw [pl_lay d h'.1, pls_lay ds h'.2]
    rfl
end
theorem beq_dec {α : Type} [BEq α] [LawfulBEq α] [DecidableEq α] (a b : α) : (a == b) = decide (a = b) := by
  by_cases h : a = b
  · rw [h]; simp
  · rw [decide_eq_false h]
    simp [h]
mutual
theorem eqv_P : ∀ d e : D, pl d = true → pl e = true → PyData.eqv (toP d) (toP e) = deq d e
  | .non, e, _, h => by cases e <;> first | rfl | (simp [pl] at h; done)
  | .int i, e, _, h => by cases e <;> first | rfl | (simp [pl] at h; done) | (simp [toP, PyData.eqv, deq]; done)
  | .str i, e, _, h => by cases e <;> first | rfl | (simp [pl] at h; done)
  | .tup ds, e, h0, h => by
    cases e <;> first | rfl | (simp [pl] at h; done) | skip
    exact eqvs_P ds _ h0 h
  | .rol ds, e, h0, h => by
    cases e <;> first | rfl | (simp [pl] at h; done) | skip
    exact eqvs_P ds _ h0 h
theorem eqvs_P : ∀ ds es : List D, pls ds = true → pls es = true → PyData.eqvAll (toPs ds) (toPs es) = deqs ds es
  | [], es, _, _ => by cases es <;> rfl
  | d :: ds, [], _, _ => rfl
  | d :: ds, e :: es, h, h' => by
    have k : (pl d && pls ds) = true := h
    have k' : (pl e && pls es) = true := h'
    rw [Bool.and_eq_true] at k k'
    show (PyData.eqv (toP d) (toP e) && PyData.eqvAll (toPs ds) (toPs es)) = (deq d e && deqs ds es)
    rw [eqv_P d e k.1 k'.1, eqvs_P ds es k.2 k'.2]
end
theorem deq_dec (d e : D) : deq d e = decide (d = e) := by
  by_cases h : d = e
  · rw [h, deq_self]; simp
  · cases q : deq d e with
    | false => simp [h]
    | true => exact absurd (of_deq _ _ q) h
/-- plain and not deep -/
def Sm (n : Nat) (d : D) : Prop := pl d = true ∧ dep d ≤ n
theorem Sm.mono {n m : Nat} {d : D} (h : Sm n d) (l : n ≤ m) : Sm m d := ⟨h.1, Nat.le_trans h.2 l⟩
theorem pls_iff : ∀ {ds : List D}, pls ds = true ↔ ∀ d ∈ ds, pl d = true
  | [] => by simp [pls]
  | d :: ds => by
    show (pl d && pls ds) = true ↔ _
    rw [Bool.and_eq_true, pls_iff (ds := ds)]
    simp
theorem deps_iff {n : Nat} : ∀ {ds : List D}, deps ds ≤ n ↔ ∀ d ∈ ds, dep d ≤ n
  | [] => by simp [deps]
  | d :: ds => by
    show max (dep d) (deps ds) ≤ n ↔ _
    rw [Nat.max_le, deps_iff (ds := ds)]
    simp
theorem sms_iff {n : Nat} {ds : List D} : (pls ds = true ∧ deps ds ≤ n) ↔ ∀ d ∈ ds, Sm n d := by
  rw [pls_iff, deps_iff]
  exact ⟨fun h d hd => ⟨h.1 d hd, h.2 d hd⟩, fun h => ⟨fun d hd => (h d hd).1, fun d hd => (h d hd).2⟩⟩
@[simp] theorem Sm_non {n : Nat} : Sm n .non := ⟨rfl, Nat.zero_le _⟩
@[simp] theorem Sm_int {n : Nat} {i : Int} : Sm n (.int i) := ⟨rfl, Nat.zero_le _⟩
@[simp] theorem Sm_str {n : Nat} {x : Str} : Sm n (.str x) ↔ PyData.strOk x = true := ⟨fun h => h.1, fun h => ⟨h, Nat.zero_le _⟩⟩
theorem Sm_tup {n : Nat} {ds : List D} : Sm (n + 1) (.tup ds) ↔ ∀ d ∈ ds, Sm n d := by
  rw [← sms_iff]
  exact ⟨fun h => ⟨h.1, Nat.le_of_succ_le_succ h.2⟩, fun h => ⟨h.1, Nat.succ_le_succ h.2⟩⟩
theorem Sm_rol {n : Nat} {ds : List D} : Sm (n + 1) (.rol ds) ↔ ∀ d ∈ ds, Sm n d := by
  rw [← sms_iff]
  exact ⟨fun h => ⟨h.1, Nat.le_of_succ_le_succ h.2⟩, fun h => ⟨h.1, Nat.succ_le_succ h.2⟩⟩
theorem Sm.kids {n : Nat} {ds : List D} (h : Sm n (.tup ds)) : ∀ d ∈ ds, Sm n d := fun d hd => ⟨pls_iff.mp h.1 d hd, deps_iff.mp (Nat.le_trans (Nat.le_succ _) h.2) d hd⟩
theorem Sm.pd {n : Nat} {d : D} (h : Sm n d) (S : DH) : Pd S d (toP d) := imm_pd S d (pl_imm d h.1)
theorem Sm.shaped {n : Nat} {d : D} (h : Sm n d) (hn : n ≤ 64) : SeqAt.shaped (toP d) = true := by
  unfold SeqAt.shaped
  rw [pl_lay d h.1, dep_P d, decide_eq_true (Nat.le_trans h.2 hn)]
  rfl
/-- the items of a list, or all of it -/
theorem seqD_pd {S : DH} {d : D} {ds : List D} (e : seqD S d = some ds) (h : ∀ x ∈ ds, Sm 60 x) : Pd S d (toP (.rol ds)) ∧ SeqAt.shaped (toP (.rol ds)) = true := by
  have hs : Sm 61 (.rol ds) := Sm_rol.mpr h
  refine ⟨?_, hs.shaped (by decide)⟩
  cases d with
  | rol xs => cases e; exact hs.pd S
  | ref a =>
    simp only [seqD_ref] at e
    split at e
    · rename_i xs ea
      cases e
      exact .lst ea (imms_pd S ds (pls_imm ds hs.1))
    · cases e
  | _ => simp at e
section
variable {S : DH} {Q : DK} {neg : Bool} {d e : D}
/-- == of plain data -/
theorem dEq_sm (hd : Sm 60 d) (he : Sm 60 e) (h : Q (.bl (if neg then !decide (d = e) else decide (d = e))) S) : dEq neg d e S Q := by
  have go : dEqG neg d e S Q := by
    refine ⟨_, _, hd.pd S, he.pd S, hd.shaped (by decide), he.shaped (by decide), ?_⟩
    rw [eqv_P d e hd.1 he.1, deq_dec]
    exact h
  unfold dEq
  split
  · simp only [D.int.injEq] at h
    rw [beq_dec]
    exact h
  · simp only [D.str.injEq] at h
    rw [beq_dec]
    exact h
  · simp [Sm, pl] at hd
  · simpa using h
  · simpa using h
  · simpa using h
  · simpa using h
  · exact go
/-- == of lists of plain data -/
theorem dEq_seq {xs ys : List D} (hd : seqD S d = some xs) (he : seqD S e = some ys) (h1 : ∀ x ∈ xs, Sm 60 x) (h2 : ∀ x ∈ ys, Sm 60 x) (h : Q (.bl (if neg then !decide (xs = ys) else decide (xs = ys))) S) : dEq neg d e S Q := by
  have go : dEqG neg d e S Q := by
    obtain ⟨p1, s1⟩ := seqD_pd hd h1
    obtain ⟨p2, s2⟩ := seqD_pd he h2
    have hx : pl (.rol xs) = true := (Sm_rol (n := 60) (ds := xs)).mpr h1 |>.1
    have hy : pl (.rol ys) = true := (Sm_rol (n := 60) (ds := ys)).mpr h2 |>.1
    refine ⟨_, _, p1, p2, s1, s2, ?_⟩
    rw [eqv_P _ _ hx hy, deq_dec]
    simp only [D.rol.injEq]
    exact h
  cases d with
  | rol _ => cases e <;> first | exact go | (simp at he)
  | ref _ => cases e <;> first | exact go | (simp at he)
  | _ => simp at hd
end

/-! ### sorts of data -/
inductive Ty where
  | int | str | tup (ts : List Ty) | hom (t : Ty) | hom1 (t : Ty) | lst (t : Ty)
mutual
def hasTy : Ty → D → Bool
  | .int, .int _ => true
  | .str, .str x => PyData.strOk x
  | .tup ts, .tup ds => hasTys ts ds
  | .hom t, .tup ds => ds.all (hasTy t)
  | .hom1 t, .tup ds => !ds.isEmpty && ds.all (hasTy t)
  | .lst t, .rol ds => ds.all (hasTy t)
  | _, _ => false
def hasTys : List Ty → List D → Bool
  | [], [] => true
  | t :: ts, d :: ds => hasTy t d && hasTys ts ds
  | _, _ => false
end
mutual
def tyDep : Ty → Nat
  | .tup ts => tysDep ts + 1
  | .hom t => tyDep t + 1
  | .hom1 t => tyDep t + 1
  | .lst t => tyDep t + 1
  | _ => 0
def tysDep : List Ty → Nat
  | [] => 0
  | t :: ts => max (tyDep t) (tysDep ts)
end
mutual
theorem hasTy_sm : ∀ (t : Ty) (d : D), hasTy t d = true → Sm (tyDep t) d
  | .int, d, h => by cases d <;> first | exact Sm_int | (simp [hasTy] at h; done)
  | .str, d, h => by cases d <;> first | exact Sm_str.mpr h | (simp [hasTy] at h; done)
  | .tup ts, d, h => by cases d <;> first | exact Sm_tup.mpr (hasTys_sm ts _ h) | (simp [hasTy] at h; done)
  | .hom t, d, h => by cases d <;> first | (simp [hasTy] at h; exact Sm_tup.mpr fun x hx => hasTy_sm t x (h x hx)) | (simp [hasTy] at h; done)
  | .hom1 t, d, h => by cases d <;> first | (simp [hasTy] at h; exact Sm_tup.mpr fun x hx => hasTy_sm t x (h.2 x hx)) | (simp [hasTy] at h; done)
  | .lst t, d, h => by cases d <;> first | (simp [hasTy] at h; exact Sm_rol.mpr fun x hx => hasTy_sm t x (h x hx)) | (simp [hasTy] at h; done)
theorem hasTys_sm : ∀ (ts : List Ty) (ds : List D), hasTys ts ds = true → ∀ d ∈ ds, Sm (tysDep ts) d
  | [], ds, h => by
    cases ds with
    | nil => exact fun _ z => nomatch z
    | cons _ _ => simp [hasTys] at h
  | t :: ts, ds, h => by
    cases ds with
    | nil => simp [hasTys] at h
    | cons d ds =>
      simp [hasTys] at h
      intro x hx
      rcases List.mem_cons.mp hx with rfl | hx
      · exact (hasTy_sm t x h.1).mono (Nat.le_max_left ..)
      · exact (hasTys_sm ts ds h.2 x hx).mono (Nat.le_max_right ..)
end
theorem alikeAll_hom {ds es : List D} (h : ∀ d ∈ ds, ∀ e ∈ es, alike (toP d) (toP e) = true) : alikeAll (toPs ds) (toPs es) = true := by
  induction ds generalizing es with
  | nil => rfl
  | cons d ds ih =>
    cases es with
    | nil => rfl
    | cons e es =>
      show (alike (toP d) (toP e) && alikeAll (toPs ds) (toPs es)) = true
      rw [h d (List.mem_cons_self ..) e (List.mem_cons_self ..), ih fun x hx y hy => h x (List.mem_cons_of_mem _ hx) y (List.mem_cons_of_mem _ hy)]
      rfl
mutual
theorem hasTy_alike : ∀ (t : Ty) (d e : D), hasTy t d = true → hasTy t e = true → alike (toP d) (toP e) = true
  | .int, d, e, h, h' => by cases d <;> first | (simp [hasTy] at h; done) | (cases e <;> first | rfl | (simp [hasTy] at h'; done))
  | .str, d, e, h, h' => by cases d <;> first | (simp [hasTy] at h; done) | (cases e <;> first | rfl | (simp [hasTy] at h'; done))
  | .tup ts, d, e, h, h' => by cases d <;> first | (simp [hasTy] at h; done) | (cases e <;> first | exact hasTys_alike ts _ _ h h' | (simp [hasTy] at h'; done))
  | .hom t, d, e, h, h' => by
    cases d <;> first | (simp [hasTy] at h; done) | (cases e <;> first | (simp [hasTy] at h h'; exact alikeAll_hom fun x hx y hy => hasTy_alike t x y (h x hx) (h' y hy)) | (simp [hasTy] at h'; done))
  | .hom1 t, d, e, h, h' => by
    cases d <;> first | (simp [hasTy] at h; done) | (cases e <;> first | (simp [hasTy] at h h'; exact alikeAll_hom fun x hx y hy => hasTy_alike t x y (h.2 x hx) (h'.2 y hy)) | (simp [hasTy] at h'; done))
  | .lst t, d, e, h, h' => by
    cases d <;> first | (simp [hasTy] at h; done) | (cases e <;> first | (simp [hasTy] at h h'; exact alikeAll_hom fun x hx y hy => hasTy_alike t x y (h x hx) (h' y hy)) | (simp [hasTy] at h'; done))
theorem hasTys_alike : ∀ (ts : List Ty) (ds es : List D), hasTys ts ds = true → hasTys ts es = true → alikeAll (toPs ds) (toPs es) = true
  | [], ds, es, h, h' => by cases ds <;> first | rfl | (simp [hasTys] at h; done)
  | t :: ts, ds, es, h, h' => by
    cases ds with
    | nil => rfl
    | cons d ds =>
      cases es with
      | nil => rfl
      | cons e es =>
        simp [hasTys] at h h'
        show (alike (toP d) (toP e) && alikeAll (toPs ds) (toPs es)) = true
        rw [hasTy_alike t d e h.1 h'.1, hasTys_alike ts ds es h.2 h'.2]
        rfl
end
/-- x < y -/
def ltD (x y : D) : Bool := dataLt (toP x) (toP y)
theorem ltD_irrefl (x : D) : ltD x x = false := PyProof.Rows.lex_irrefl _
theorem ltD_trans {x y z : D} (h : ltD x y = true) (h' : ltD y z = true) : ltD x z = true := PyProof.Rows.lex_trans _ _ _ h h'
theorem ltD_neg {x y z : D} (h : ltD x z = true) : ltD x y = true ∨ ltD y z = true := PyProof.Rows.lex_negTrans _ _ _ h
theorem ltD_asymm {x y : D} (h : ltD x y = true) : ltD y x = false := by
  cases e : ltD y x with
  | false => rfl
  | true =>
    have := ltD_trans h e
    rw [ltD_irrefl] at this
    cases this
theorem ltD_tri {t : Ty} {x y : D} (hx : hasTy t x = true) (hy : hasTy t y = true) (h : ltD x y = false) (h' : ltD y x = false) : x = y := by
  have e : keyToks (toP x) = keyToks (toP y) := PyProof.Rows.lex_total _ _ h h'
  have sx := hasTy_sm t x hx
  have sy := hasTy_sm t y hy
  have q := toks_eqv (toP x) (toP y) (hasTy_alike t x y hx hy)
  rw [eqv_P x y sx.1 sy.1] at q
  cases z : deq x y with
  | true => exact of_deq _ _ z
  | false =>
    have k := q.2 z [] [.inl 0]
    rw [← e, PyProof.Rows.lex_irrefl, List.append_nil] at k
    have : ∀ l : List (Int ⊕ List Nat), PyProof.Rows.lexLt PyProof.Rows.itemOrd l (l ++ [.inl 0]) = true := fun l => by
      induction l with
      | nil => rfl
      | cons a l ih => rw [List.cons_append, PyProof.Rows.lex_self]; exact ih
    rw [this] at k
    cases k
theorem ltD_int (i j : Int) : ltD (.int i) (.int j) = decide (i < j) := dataLt_int i j
/-- what may be sorted -/
def sortTy : Ty → Bool
  | .int => true
  | .str => true
  | .tup (t :: ts) => decide (tyDep (.tup (t :: ts)) ≤ 50)
  | .hom1 t => decide (tyDep (.hom1 t) ≤ 50)
  | _ => false
theorem sortTy_dep {t : Ty} (h : sortTy t = true) : tyDep t ≤ 50 := by
  cases t with
  | tup ts => cases ts <;> simp [sortTy] at h; exact h
  | hom1 t => exact of_decide_eq_true h
  | int => exact Nat.zero_le _
  | str => exact Nat.zero_le _
  | hom t => cases h
  | lst t => cases h
theorem sortable_ty {t : Ty} {ds : List D} (h : sortTy t = true) (hd : ∀ d ∈ ds, hasTy t d = true) : Sortable (ds.map toP) := by
  have no : (∀ d, hasTy t d = true → toP d ≠ .none ∧ ∀ xs, toP d ≠ .tuple xs) → Sortable (ds.map toP) := fun k => .inr fun p hp => by
    obtain ⟨d, hd', rfl⟩ := List.mem_map.mp hp
    exact k d (hd d hd')
  have yes : (∀ d, hasTy t d = true → ∃ x r, toP d = .tuple (x :: r)) → Sortable (ds.map toP) := fun k => .inl fun p hp => by
    obtain ⟨d, hd', rfl⟩ := List.mem_map.mp hp
    exact k d (hd d hd')
  cases t with
  | int => exact no fun d z => by cases d <;> first | (simp [hasTy] at z; done) | exact ⟨(fun y => nomatch y), fun _ y => nomatch y⟩
  | str => exact no fun d z => by cases d <;> first | (simp [hasTy] at z; done) | exact ⟨(fun y => nomatch y), fun _ y => nomatch y⟩
  | hom t => cases h
  | lst t => cases h
  | hom1 t =>
    refine yes fun d z => ?_
    cases d <;> first | (simp [hasTy] at z; done) | skip
    rename_i xs
    cases xs with
    | nil => simp [hasTy] at z
    | cons x xs => exact ⟨toP x, toPs xs, rfl⟩
  | tup ts =>
    cases ts with
    | nil => cases h
    | cons t ts =>
      refine yes fun d z => ?_
      cases d <;> first | (simp [hasTy] at z; done) | skip
      rename_i xs
      cases xs with
      | nil => simp [hasTy, hasTys] at z
      | cons x xs => exact ⟨toP x, toPs xs, rfl⟩
/-- sorted as the language sorts -/
def srtD (ds : List D) : List D := ds.mergeSort fun a b => !ltD b a
theorem srtD_eq (ds : List D) : ds.mergeSort (dataLe false toP) = srtD ds := rfl
theorem srt_perm (ds : List D) : (srtD ds).Perm ds := List.mergeSort_perm ..
theorem srt_mem {ds : List D} {d : D} : d ∈ srtD ds ↔ d ∈ ds := (srt_perm ds).mem_iff
@[simp] theorem srt_len (ds : List D) : (srtD ds).length = ds.length := List.length_mergeSort _
theorem srt_sorted (ds : List D) : (srtD ds).Pairwise fun a b => ltD b a = false := by
  have := List.pairwise_mergeSort (le := fun a b : D => !ltD b a) (fun a b c h1 h2 => by
    cases e : ltD c a with
    | false => rfl
    | true =>
      rcases ltD_neg (y := b) e with z | z
      · rw [z] at h2; cases h2
      · rw [z] at h1; cases h1) (fun a b => by
    cases e : ltD b a with
    | false => rfl
    | true => rw [ltD_asymm e]; rfl) ds
  exact this.imp fun h => by simpa using h
/-- one sorted list of the same things -/
theorem sorted_one {t : Ty} : ∀ {as bs : List D}, (∀ d ∈ as, hasTy t d = true) → as.Pairwise (fun a b => ltD b a = false) → bs.Pairwise (fun a b => ltD b a = false) → as.Perm bs → as = bs
  | [], bs, _, _, _, p => p.symm.eq_nil.symm
  | a :: as, bs, ht, h1, h2, p => by
    cases bs with
    | nil => exact p.eq_nil
    | cons b bs =>
      have hb : hasTy t b = true := ht b (p.mem_iff.mpr (List.mem_cons_self ..))
      have ha : hasTy t a = true := ht a (List.mem_cons_self ..)
      obtain ⟨h1a, h1b⟩ := List.pairwise_cons.mp h1
      obtain ⟨h2a, h2b⟩ := List.pairwise_cons.mp h2
      have e : a = b := by
        rcases List.mem_cons.mp (p.mem_iff.mp (List.mem_cons_self (a := a) (l := as))) with z | z
        · exact z
        · rcases List.mem_cons.mp (p.mem_iff.mpr (List.mem_cons_self (a := b) (l := bs))) with y | y
          · exact y.symm
          · exact ltD_tri ha hb (h2a a z) (h1a b y)
      subst e
      rw [sorted_one (fun d hd => ht d (List.mem_cons_of_mem _ hd)) h1b h2b (List.perm_cons a |>.mp p)]
/-! ### sorted -/
def cSrt (ds : List D) (k : List D → Prop) : Prop := (∃ t, sortTy t = true ∧ ∀ d ∈ ds, hasTy t d = true) ∧ k (srtD ds)
def cSorted : RCD := fun ds S Q => match ds with
  | [d] => opt (seqD S d) fun xs => cSrt xs fun ys => newO S (.lst ys) fun p S' => Q (.ref p) S'
  | _ => False
@[simp] def cSortedF : RCD := fun ds S Q => match ds with
  | [d] => opt (seqD S d) fun xs => cSrt xs fun ys => Q (.rol ys) S
  | _ => False
section
variable {X : Cx}
theorem each_rel {K : PySem.W.Frag} {H : Hp} : ∀ {xs : List V} {us : List Value} {ds : List D}, Vals xs us → RDs K H ds xs → EachIs (fun u d => ∃ x, RelV x u ∧ RD K H d x) us ds
  | _, _, [], r, rd => by cases rd; cases r; exact .nil
  | _, _, d :: ds, r, rd => by
    obtain ⟨v, vs, rfl, h1, h2⟩ := rd
    cases r with
    | cons a b => exact .cons ⟨v, a, h1⟩ (each_rel b h2)
theorem rel_each {K : PySem.W.Frag} {H : Hp} : ∀ {us : List Value} {ds : List D}, EachIs (fun u d => ∃ x, RelV x u ∧ RD K H d x) us ds → ∃ xs, Vals xs us ∧ RDs K H ds xs
  | _, _, .nil => ⟨[], .nil, .nil⟩
  | _, _, .cons ⟨x, a, b⟩ t => by
    obtain ⟨xs, h1, h2⟩ := rel_each t
    exact ⟨x :: xs, .cons a h1, RDs.cons b h2⟩
theorem each_and {α β : Type} {R : α → β → Prop} {p : β → Prop} : ∀ {us : List α} {ds : List β}, EachIs R us ds → (∀ d ∈ ds, p d) → EachIs (fun u d => R u d ∧ p d) us ds
  | _, _, .nil, _ => .nil
  | _, _, .cons a t, h => .cons ⟨a, h _ (List.mem_cons_self ..)⟩ (each_and t fun d hd => h d (List.mem_cons_of_mem _ hd))
theorem cd_sorted (hu : X.A.units + 64 < cLine) : CallD X (.builtin "sorted") cSorted := by
  refine ⟨fun ds S Q Q' k h => ?_, fun pins s σ H vs us Q I rv ⟨ds, S, rep, rd, h⟩ => ?_⟩
  · match ds, h with
    | [d], h => exact opt_mono (fun _ h => ⟨h.1, fun p hp => k _ _ (h.2 p hp)⟩) h
  · match ds, h with
    | [d], h =>
      obtain ⟨ds, e, ⟨t, ht, hd⟩, h⟩ := opt_ex h
      obtain ⟨v, rfl, r⟩ := rds1 rd
      obtain ⟨a, xs, rfl, sq, rd⟩ := seqD_rd rep r e
      rw [Vals.ref1 rv]
      obtain ⟨its, rv, hl, hz⟩ := I.list sq.l
      have e := each_rel rv rd
      have sm : ∀ d ∈ ds, Sm 50 d := fun d z => (hasTy_sm t d (hd d z)).mono (sortTy_dep ht)
      have er : EachIs (fun u d => ∃ as, Reads s.heap u (toP d) as) its ds := by
        refine EachIs.mono (fun u d z => ?_) (each_and e sm)
        obtain ⟨⟨x, a1, a2⟩, a3⟩ := z
        exact Dp.reads I (toP d) x u ((a3.pd S).dp rep _ _ _ a2) a1
      have hlen : ds.length ≤ sizeLine := by rw [rd.length]; exact hz
      refine sorted_data hl.isList e er (AllAlike.of' hd) (sortable_ty ht hd) hlen (fun b hb => by have := (sm b hb).2; rw [dep_P]; omega) fun out o1 o2 => ?_
      obtain ⟨ys, r1, r2⟩ := rel_each o2
      obtain ⟨ep, he'⟩ := sortedAll_at s.heap its out.toArray
      have hn : H (s.heap.objs.size + 1) = none := I.hok.fresh (Nat.le_succ _)
      have hyl : ys.length ≤ sizeLine := by rw [← r2.length]; exact Nat.le_trans (Nat.le_of_eq (srt_len ds)) hlen
      have le : LeH H (upd H (s.heap.objs.size + 1) (.lst ys)) := LeH.new hn
      refine ⟨.ref _, upd H (s.heap.objs.size + 1) (.lst ys), I.laid (t' := s.toks) (fun _ _ => sortedAll_old) (Nat.le_succ _) ⟨hyl, out, ep, r1, he'⟩, rfl, ?_⟩
      exact h (s.heap.objs.size + 1) (rep.free hn) _ _ le (rep.new hn ⟨ys, upd_same, r2.le le⟩) rfl
where
  AllAlike.of' {t : Ty} {ds : List D} (hd : ∀ d ∈ ds, hasTy t d = true) : AllAlike (ds.map toP) := fun p hp q hq => by
    obtain ⟨d, h1, rfl⟩ := List.mem_map.mp hp
    obtain ⟨e, h2, rfl⟩ := List.mem_map.mp hq
    exact hasTy_alike t d e (hd d h1) (hd e h2)
end
/-! ### < of data -/
def rOrd (b : Bool) : R2D := fun d e S Q => match d, e with
  | .int i, .int j => Q (.bl (if b then decide (j < i) else decide (i < j))) S
  | d, e => (∃ t, tyDep t ≤ 50 ∧ hasTy t d = true ∧ hasTy t e = true) ∧ Q (.bl (if b then ltD e d else ltD d e)) S
@[simp] theorem rOrd_int {b : Bool} {i j : Int} {S : DH} {Q : DK} : rOrd b (.int i) (.int j) S Q = Q (.bl (if b then decide (j < i) else decide (i < j))) S := rfl
section
variable {X : Cx}
end
/-! ### in: plain data in lists -/
/-- b: d is among ds -/
def InR (d : D) (ds : List D) (b : Bool) : Prop := (flD d = true ∧ ds.all flD = true ∧ b = inF d ds) ∨ (Sm 60 d ∧ (∀ e ∈ ds, Sm 60 e) ∧ b = decide (d ∈ ds))
def dInQ (neg : Bool) (d : D) (ds : List D) (S : DH) (Q : DK) : Prop := ∃ b, InR d ds b ∧ Q (.bl (if neg then !b else b)) S
theorem eqF_pl : ∀ {d e : D}, flD d = true → flD e = true → pl d = true → pl e = true → eqF e d = decide (d = e) := fun {d e} f g h k => by
  cases d <;> first | (simp at f; done) | (simp [pl] at h; done) | skip
  all_goals (cases e <;> first | (simp at g; done) | (simp [pl] at k; done) | rfl | skip)
  all_goals
    rw [eqF, beq_dec]
    simp [eq_comm]
theorem inF_pl {d : D} {ds : List D} (f : flD d = true) (g : ds.all flD = true) (h : pl d = true) (k : ∀ e ∈ ds, pl e = true) : inF d ds = decide (d ∈ ds) := by
  rw [Bool.eq_iff_iff]
  unfold inF
  rw [List.any_eq_true, decide_eq_true_eq]
  constructor
  · rintro ⟨e, he, q⟩
    rw [eqF_pl f (List.all_eq_true.mp g e he) h (k e he), decide_eq_true_eq] at q
    rw [q]
    exact he
  · intro hd
    exact ⟨d, hd, by rw [eqF_pl f f h h]; simp⟩
@[simp] theorem dInQ_fl {neg : Bool} {d : D} {ds : List D} {S : DH} {Q : DK} (f : flD d = true) (g : ds.all flD = true) : dInQ neg d ds S Q = Q (.bl (if neg then !inF d ds else inF d ds)) S := by
  refine propext ⟨fun ⟨b, r, q⟩ => ?_, fun q => ⟨_, .inl ⟨f, g, rfl⟩, q⟩⟩
  rcases r with ⟨_, _, rfl⟩ | ⟨h, k, rfl⟩
  · exact q
  · rw [inF_pl f g h.1 fun e he => (k e he).1]
    exact q
theorem dInQ_mono {neg : Bool} {d : D} {ds : List D} {S : DH} {Q Q' : DK} (k : ∀ d S', Q d S' → Q' d S') (h : dInQ neg d ds S Q) : dInQ neg d ds S Q' := let ⟨b, r, q⟩ := h; ⟨b, r, k _ _ q⟩
theorem inP_dec {d : D} {ds : List D} (hd : pl d = true) (hs : ∀ e ∈ ds, pl e = true) : inP (toP d) (toPs ds) = decide (d ∈ ds) := by
  induction ds with
  | nil => rfl
  | cons e ds ih =>
    show (PyData.eqv (toP e) (toP d) || inP (toP d) (toPs ds)) = _
    rw [eqv_P e d (hs e (List.mem_cons_self ..)) hd, ih fun x hx => hs x (List.mem_cons_of_mem _ hx), deq_dec]
    simp [eq_comm]
end Dt
set_option maxRecDepth 100000
set_option maxHeartbeats 4000000
/-! DatT: sorted(set(e)). -/
namespace Dt
open PySem PySem.Spec PySem.W L2 PyProof.Rows
def setHO (w : World) (p : Addr) (ks : List Key) : HO := .ext fun h => SetKs w h p ks
theorem SetKs.there {w : World} {h : Heap} {a : Addr} {ks : List Key} (R : SetKs w h a ks) : ∃ o, h.get? a = some o := by
  obtain ⟨o, _, _, _, _, ho, _⟩ := R
  exact ⟨o, ho⟩
theorem setHO_ok {P : Program} {w : World} {H : Hp} {h : Heap} {a : Addr} {ks : List Key} (R : SetKs w h a ks) : ObjOk P w H h a (setHO w a ks) :=
  ⟨R, R.there, fun h1 h2 z k => z.at k⟩
theorem setHO_at {P : Program} {w : World} {H : Hp} {h : Heap} {a : Addr} {ks : List Key} (hok : HOk P w H h) (e : H a = some (setHO w a ks)) : SetKs w h a ks := by
  have x : ObjOk P w H h a (.ext fun h => SetKs w h a ks) := hok a _ e
  exact x.1
theorem each_keyV (P : Program) (w : World) : ∀ {all : List Key} {us : List Value}, Vals (all.map kV) us → EachIs (fun v k => keyIs k v = true) us all
  | [], _, r => by cases r; exact .nil
  | k :: all, _, r => by
    cases r with
    | cons a b => exact .cons (kV_is (P := P) (w := w) a) (each_keyV P w b)
section
variable {X : Cx}
def rSetKs (K : PySem.W.Frag) (w : World) : List V → Hp → VK → Prop := fun vs H Q => ∃ (a : Addr) (all : List Key), vs = [.ref a] ∧ SqL K H a (all.map kV) ∧ all.length + 1 < scanBound ∧ ∀ p, H p = none → Q (.ref p) (upd H p (setHO w p (firstK all)))
theorem cr_setKs (hc : X.calm = true) : CallR X (.type "set") (rSetKs X.K X.w) := by
  intro pins s σ H vs us Q I r ⟨a, all, e, sq, hb, q⟩
  subst e
  obtain ⟨its, rv, hl, hz⟩ := I.list sq
  rw [Vals.ref1 r]
  refine call_ks (I.ok.hd hc) hl.isList (by simpa using each_keyV X.prog X.w rv) hb fun h' tk S k => ?_
  exact ⟨.ref _, upd H s.heap.objs.size (setHO X.w s.heap.objs.size (firstK all)), I.laid (t' := tk) (fun b u e => k b u (Heap.lt_size e) e) (Nat.le_refl _) (setHO_ok S), rfl, q _ (I.hok.fresh (Nat.le_refl _))⟩
/-- a key as data -/
def keyP : Key → PyData
  | .inl i => .int i
  | .inr x => .str x
def rSortKs (w : World) : List V → Hp → VK → Prop := fun vs H Q => ∃ (p : Addr) (ks : List Key), vs = [.ref p] ∧ H p = some (setHO w p ks) ∧ AllAlike (ks.map keyP) ∧ ∀ bs : List Key, bs.Perm ks → ∀ q, H q = none → Q (.ref q) (upd H q (.lst ((bs.mergeSort (dataLe false keyP)).map kV)))
theorem keyP_reads {h : Heap} {k : Key} {v : Value} (e : keyIs k v = true) : Reads h v (keyP k) [] := by
  rcases keyIs_shape e with ⟨i, t, rfl, rfl⟩ | ⟨x, t, rfl, rfl⟩
  · exact .int _ _
  · exact .str _ _
theorem keyP_depth (k : Key) : (keyP k).depth = 0 := by cases k <;> rfl
theorem keyP_sort (ks : List Key) : Sortable (ks.map keyP) := Sortable.others fun k => by
  cases k
  · exact ⟨(fun z => nomatch z), (fun _ z => nomatch z)⟩
  · exact ⟨(fun z => nomatch z), (fun _ z => nomatch z)⟩
theorem alike_perm {bs ks : List Key} (p : bs.Perm ks) (h : AllAlike (ks.map keyP)) : AllAlike (bs.map keyP) := fun d hd d' hd' =>
  h d ((p.map keyP).mem_iff.mp hd) d' ((p.map keyP).mem_iff.mp hd')
theorem each_perm {α β : Type} {R : α → β → Prop} {l l' : List α} (p : l'.Perm l) : ∀ {ks : List β}, EachIs R l ks → ∃ ks', ks'.Perm ks ∧ EachIs R l' ks' := by
  induction p with
  | nil => exact fun h => ⟨_, List.Perm.refl _, h⟩
  | cons x p ih =>
    intro ks h
    cases h with
    | cons a t =>
      obtain ⟨ks', p', h'⟩ := ih t
      exact ⟨_ :: ks', p'.cons _, .cons a h'⟩
  | swap x y l =>
    intro ks h
    cases h with
    | cons a t =>
      cases t with
      | cons b t => exact ⟨_, List.Perm.swap .., .cons b (.cons a t)⟩
  | trans p1 p2 ih1 ih2 =>
    intro ks h
    obtain ⟨ks1, q1, h1⟩ := ih2 h
    obtain ⟨ks2, q2, h2⟩ := ih1 h1
    exact ⟨ks2, q2.trans q1, h2⟩
theorem each_map2 {α β γ : Type} {R : α → γ → Prop} (f : β → α) : ∀ {l : List β} {ks : List γ}, EachIs (fun e k => R (f e) k) l ks → EachIs R (l.map f) ks
  | _, _, .nil => .nil
  | _, _, .cons a t => .cons a (each_map2 f t)
theorem vals_keys : ∀ {us : List Value} {ks : List Key}, EachIs (fun v k => keyIs k v = true) us ks → Vals (ks.map kV) us
  | _, _, .nil => .nil
  | _, _, .cons (b := k) a t => .cons (by rcases keyIs_shape a with ⟨i, t, rfl, rfl⟩ | ⟨x, t, rfl, rfl⟩ <;> exact ⟨_, rfl⟩) (vals_keys t)
theorem cr_sortKs (hc : X.calm = true) (hu : X.A.units + 64 < cLine) : CallR X (.builtin "sorted") (rSortKs X.w) := by
  intro pins s σ H vs us Q I r ⟨p, ks, e, hp, hal, q⟩
  subst e
  rw [Vals.ref1 r]
  obtain ⟨o, es, ep, t, l, ho, hex, hd, pe, re, nd, hb, hf, hr, hl⟩ := setHO_at I.hok hp
  refine Calls.call_function_entry kind_sorted plain_sorted entry_sorted (args_sorted1 _) ?_
  unfold Builtin.«sorted»
  refine wpAny_bind (m := checkCount "sorted" 1 1 _) (wpAny_pure (wpAny_bind (collect_set (A := X.A.in1) (I.ok.hd hc) ⟨o, ho, hex.1, hd⟩ hf hb hr hl fun s1 out k1 hz g1 o1 pm => ?_)))
  obtain ⟨bs, pb, eb⟩ := each_perm (pm.trans (pe.map (·.2))) (each_map2 (R := fun v k => keyIs k v = true) (fun e : Int × Value => e.2) (re.mono fun _ _ z => z.1))
  have hlen : out.length ≤ sizeLine := by
    rw [pm.length_eq, List.length_map, Array.length_toList]
    exact fits_of_scanBound hb
  refine wpAny_bind (wpAny_newList ?_ hlen)
  have hoL : (s1.heap.push (seqObj "list" out.toArray 0)).get? s1.heap.objs.size = some (seqObj "list" out.toArray 0) := Heap.get?_push_size _ rfl
  refine wpAny_bind (wpAny_holding (list_sort_data (R := fun v k => keyIs k v = true) (enc := keyP) (bs := bs) hoL eb (eb.mono fun v k z => ⟨[], keyP_reads z, List.not_mem_nil⟩) (alike_perm pb hal) (keyP_sort bs) (by rw [← eb.length]; exact hlen)
    (fun b _ => by rw [keyP_depth]; show X.A.units + 1 + 1 + 0 < cLine; omega) fun out2 n2 e2 => ?_))
  obtain ⟨c, he⟩ := sortedHeap_at (vs := out) (out := out2.toArray) hoL
  have hn : H s1.heap.objs.size = none := I.hok.fresh hz
  have hl2 : ((bs.mergeSort (dataLe false keyP)).map kV).length ≤ sizeLine := by
    rw [List.length_map, List.length_mergeSort, ← eb.length]
    exact hlen
  have kp : ∀ b u, s.heap.get? b = some u → (sortedHeap (s1.heap.push (seqObj "list" out.toArray 0)) s1.heap.objs.size out out2.toArray).get? b = some u := fun b u e => by
    have z := k1 b u e
    have lt := Heap.lt_size z
    rw [sortedHeap_old (Nat.ne_of_lt lt) (by rw [Heap.size_push]; exact Nat.lt_succ_of_lt lt)]
    exact Heap.get?_push_of_some _ z
  refine wpAny_pure ⟨_, rfl, .ref s1.heap.objs.size, _, ?_, rfl, q bs pb s1.heap.objs.size hn⟩
  obtain ⟨hp1, ge1, dr1, tk1, os1⟩ := s1
  cases g1
  cases o1
  have J : Inv X pins σ (upd H hp1.objs.size (.lst ((bs.mergeSort (dataLe false keyP)).map kV))) { s with heap := sortedHeap (hp1.push (seqObj "list" out.toArray 0)) hp1.objs.size out out2.toArray, drawn := dr1, toks := tk1 } :=
    I.call (ch := []) (Un.laid kp hz hn) (I.hok.laid kp hz ⟨hl2, out2, c, vals_keys e2, he⟩) I.bare (fun _ z => nomatch z)
  exact J
def keyD : Key → D
  | .inl i => .int i
  | .inr x => .str x
theorem keyD_rd {K : PySem.W.Frag} {H : Hp} {k : Key} {v : V} : RD K H (keyD k) v ↔ v = kV k := by
  cases k <;> exact Iff.rfl
theorem rds_keys {K : PySem.W.Frag} {H : Hp} : ∀ {all : List Key} {xs : List V}, RDs K H (all.map keyD) xs → xs = all.map kV
  | [], _, r => by cases r; rfl
  | k :: all, _, r => by
    obtain ⟨v, r', rfl, h1, h2⟩ := r
    rw [keyD_rd.mp h1, rds_keys h2]
    rfl
theorem keys_rds {K : PySem.W.Frag} {H : Hp} : ∀ all : List Key, RDs K H (all.map keyD) (all.map kV)
  | [] => .nil
  | k :: all => RDs.cons (keyD_rd.mpr rfl) (keys_rds all)
theorem fold_key {k : Key} : ∀ (all acc : List Key), k ∈ all.foldl addK acc → k ∈ acc ∨ k ∈ all
  | [], acc, h => .inl h
  | j :: all, acc, h => by
    rcases fold_key all (addK acc j) h with z | z
    · unfold addK at z
      split at z
      · exact .inl z
      · rcases List.mem_append.mp z with z | z
        · exact .inl z
        · exact .inr (by rw [List.mem_singleton.mp z]; exact List.mem_cons_self)
    · exact .inr (List.mem_cons_of_mem _ z)
theorem alike_first {all : List Key} (h : AllAlike (all.map keyP)) : AllAlike ((firstK all).map keyP) := fun d hd d' hd' => by
  have up : ∀ x, x ∈ (firstK all).map keyP → x ∈ all.map keyP := fun x hx => by
    obtain ⟨k, hk, rfl⟩ := List.mem_map.mp hx
    rcases fold_key all [] hk with z | z
    · cases z
    · exact List.mem_map.mpr ⟨k, z, rfl⟩
  exact h d (up d hd) d' (up d' hd')
/-- sorted(set(e)) -/
def dSortSet (t : DTE) : DTE := fun E τ S Q => t E τ S fun d S1 => ∃ all : List Key, (d = .rol (all.map keyD) ∨ ∃ a, d = .ref a ∧ S1 a = some (.lst (all.map keyD))) ∧ all.length + 1 < scanBound ∧ AllAlike (all.map keyP) ∧
  ∀ bs : List Key, bs.Perm (firstK all) → newO S1 (.lst ((bs.mergeSort (dataLe false keyP)).map keyD)) fun p S' => Q (.ref p) S'
variable {x y : Str} {e : Expr} {p p' pos pos' : Pos} {t : DTE}
end
end Dt
set_option maxRecDepth 100000
set_option maxHeartbeats 4000000
/-! DatW: in; comprehensions whose list is a value; dicts' methods. -/
namespace Dt
open PySem PySem.Spec L2 PySem.W PyProof.Rows

/-! ### in -/
@[simp] def dIn (neg : Bool) : R2D := fun d e S Q => match e with
  | .tup ds => dInF neg d ds S Q
  | .rol ds => dInQ neg d ds S Q
  | .ref a => (match S a with
    | some (.lst ds) => dInQ neg d ds S Q
    | some (.dK kvs) => opt (dkey d) fun k => Q (.bl (if neg then !(lk kvs k).isSome else (lk kvs k).isSome)) S
    | some (.dN kvs) => okT d = true ∧ Q (.bl (if neg then !(lk kvs d).isSome else (lk kvs d).isSome)) S
    | _ => False)
  | _ => False
theorem dIn_mono (neg : Bool) : Mono2 (dIn neg) := fun x y S Q Q' k h => by
  cases y with
  | tup ds => exact ⟨h.1, h.2.1, k _ _ h.2.2⟩
  | rol ds => exact dInQ_mono k h
  | ref a =>
    revert h
    show (match S a with | some (.lst ds) => _ | some (.dK kvs) => _ | some (.dN kvs) => _ | _ => False) → (match S a with | some (.lst ds) => _ | some (.dK kvs) => _ | some (.dN kvs) => _ | _ => False)
    split
    · exact fun h => dInQ_mono k h
    · exact fun h => opt_mono (fun _ z => k _ _ z) h
    · exact fun h => ⟨h.1, k _ _ h.2⟩
    · exact fun h => h
  | _ => exact h.elim
section
variable {X : Cx}
theorem od_in_neg (neg : Bool) (op : CmpOp) (he : op = if neg then .NotIn else .In) (hu : X.A.units + 120 < cLine) : OpR X (compareOp op) (upO X.w X.K (dIn neg)) := by
  rintro pins s σ H x y v u Q I rx ry ⟨d, e, S, rep, rd, re, h⟩
  have go : rIn X.K neg x y H Q → wpAny (model X.prog X.w) X.A (compareOp op v u) (EP X pins σ Q) X.xe s := fun z => by
    subst he
    cases neg
    · exact op_in_seq pins s σ H x y v u Q I rx ry z
    · exact op_notIn_seq pins s σ H x y v u Q I rx ry z
  have lst : ∀ {ds : List D}, seqD S e = some ds → dInQ neg d ds S (fun z S' => ∀ v H', LeH H H' → Rep X.w X.K S' H' → RD X.K H' z v → Q v H') → wpAny (model X.prog X.w) X.A (compareOp op v u) (EP X pins σ Q) X.xe s := fun {ds} es ⟨b, r, q⟩ => by
    rcases r with ⟨f, g, rfl⟩ | ⟨hd, hs, rfl⟩
    · obtain ⟨p, xs, rfl, sq, rs⟩ := seqD_rd rep re es
      exact go ⟨p, xs, rfl, .inl sq.l, flD_V rd f, flDs_V rs g, by rw [inF_V rd f rs g]; exact q _ H (LeH.refl H) rep rfl⟩
    · obtain ⟨p2, s2⟩ := seqD_pd es hs
      rw [← inP_dec hd.1 fun e he => (hs e he).1] at q
      subst he
      cases neg
      · exact (od_inL (X := X) (by omega)).run pins s σ H x y v u Q I rx ry ⟨d, e, S, rep, rd, re, _, _, hd.pd S, p2, hd.shaped (by decide), s2, q⟩
      · exact (od_ninL (X := X) (by omega)).run pins s σ H x y v u Q I rx ry ⟨d, e, S, rep, rd, re, _, _, hd.pd S, p2, hd.shaped (by decide), s2, q⟩
  cases e with
  | tup ds =>
    obtain ⟨p, xs, rfl, sq, rs⟩ : ∃ p xs, y = V.ref p ∧ SqT X.K H p xs ∧ RDs X.K H ds xs := re
    exact go ⟨p, xs, rfl, .inr sq, flD_V rd h.1, flDs_V rs h.2.1, by rw [inF_V rd h.1 rs h.2.1]; exact h.2.2 _ H (LeH.refl H) rep rfl⟩
  | rol ds => exact lst rfl h
  | ref a =>
    revert h
    show (match S a with | some (.lst ds) => _ | some (.dK kvs) => _ | some (.dN kvs) => _ | _ => False) → _
    split
    · rename_i ds ea
      exact lst (by simp [ea])
    · rename_i kvs ea
      intro h
      cases re
      obtain ⟨ws, e0, rk⟩ : ∃ ws, H a = some (.dK ws) ∧ RKs X.K H kvs ws := rep a _ ea
      obtain ⟨k, ek, h⟩ := opt_ex h
      have ey := dkey_rd ek rd
      subst ey
      cases ry
      have g : DGet H a (kV k) (valV ws k) := DGet.k e0
      subst he
      cases neg
      · exact d_in (by omega) I g rx fun s3 I3 => ⟨.bl _, H, I3, rfl, by rw [rk.isSome k]; exact h _ H (LeH.refl H) rep rfl⟩
      · exact d_notIn (by omega) I g rx fun s3 I3 => ⟨.bl _, H, I3, rfl, by rw [rk.isSome k]; exact h _ H (LeH.refl H) rep rfl⟩
    · rename_i kvs ea
      rintro ⟨hk, h⟩
      cases re
      cases ry
      obtain ⟨xs, dd, rx', hsys, hl, nd, mu⟩ := dn_open I (rep a _ ea)
      obtain ⟨nk, b, ek, _, rfl, rfl, his⟩ := okT_key I hk rd rx
      rw [← rx'.isSome ek] at h
      subst he
      cases neg
      · exact in_keyed (knd := nestedKind X.prog X.w) (show X.A.units + 1 + 8 < cLine by omega) his hsys ⟨xs, dd, rfl⟩ ⟨.bl _, H, I.tok _, rfl, by rw [valueAt_pairsH, Option.isSome_map]; exact h _ H (LeH.refl H) rep rfl⟩
      · exact notIn_keyed (knd := nestedKind X.prog X.w) (show X.A.units + 1 + 8 < cLine by omega) his hsys ⟨xs, dd, rfl⟩ ⟨.bl _, H, I.tok _, rfl, by rw [valueAt_pairsH, Option.isSome_map]; exact h _ H (LeH.refl H) rep rfl⟩
    · exact fun h => h.elim
  | _ => exact h.elim
theorem od_in (hu : X.A.units + 120 < cLine) : OpD X (compareOp .In) (dIn false) := ⟨dIn_mono false, od_in_neg false .In rfl hu⟩
theorem od_nin (hu : X.A.units + 120 < cLine) : OpD X (compareOp .NotIn) (dIn true) := ⟨dIn_mono true, od_in_neg true .NotIn rfl hu⟩
end
/-! ### comprehensions whose list is a value -/
theorem upo_comm {S : DH} {p q : Addr} {o u : Ob} (h : p ≠ q) : upo (upo S p o) q u = upo (upo S q u) p o := by
  funext b
  unfold upo
  split
  · rename_i e
    split
    · rename_i e'
      exact absurd (e'.symm.trans e) h
    · rfl
  · rfl
theorem lcF_inv {g : DTG} {tt : DTT} {te : DTE} {E : DW} {τ : DSt} {G : DH → Prop} {ds : List D} {S : DH} {Q : DK} (I : Nat → List D → DH → Prop) (h0 : I 0 [] S)
    (hG : ∀ i acc S1 p, i ≤ ds.length → I i acc S1 → S1 p = none → G (upo S1 p (.lst acc)))
    (hs : ∀ i d acc S1 p (N : DH → Prop), ds[i]? = some d → I i acc S1 → S1 p = none → acc.length < 16777216 → (∀ acc' S2, S2 p = none → I (i + 1) acc' S2 → acc'.length ≤ acc.length + 1 → N (upo S2 p (.lst acc'))) →
      g d τ (upo S1 p (.lst acc)) fun τ1 S2 => tt E τ1 S2 fun b S3 => if b = true then te E τ1 S3 fun y S4 => (match S4 p with | some (.lst acc) => acc.length < 16777216 ∧ N (upo S4 p (.lst (acc ++ [y]))) | _ => False) else N S3)
    (hl : ds.length < sizeLine) (hd : ∀ acc S1, I ds.length acc S1 → Q (.rol acc) S1) : newO S (.lst []) fun p S1 => dLcL g tt te E τ G p (fzK Q (.ref p)) ds S1 := by
  intro p hp
  have go : ∀ (m i : Nat) (acc : List D) (S1 : DH), i + m = ds.length → acc.length ≤ i → S1 p = none → I i acc S1 → dLcL g tt te E τ G p (fzK Q (.ref p)) (ds.drop i) (upo S1 p (.lst acc)) := by
    intro m
    induction m with
    | zero =>
      intro i acc S1 e _ hp1 hi
      have e' : i = ds.length := by omega
      subst e'
      rw [List.drop_length]
      exact ⟨hG _ _ _ _ (Nat.le_refl _) hi hp1, fzK_new hp1 (hd _ _ hi)⟩
    | succ m ih =>
      intro i acc S1 e ha hp1 hi
      have hlt : i < ds.length := by omega
      have ed : ds[i]? = some ds[i] := List.getElem?_eq_getElem hlt
      rw [drop_at ed]
      refine ⟨hG _ _ _ _ (by omega) hi hp1, ?_⟩
      have := hs i _ acc S1 p (dLcL g tt te E τ G p (fzK Q (.ref p)) (ds.drop (i + 1))) ed hi hp1 (by rw [line_lt] at hl; omega) fun acc' S2 h2 hi2 hle => ih (i + 1) acc' S2 (by omega) (by omega) h2 hi2
      simp only [line_lt] at this ⊢
      exact this
  have := go ds.length 0 [] S (by omega) (Nat.le_refl _) hp h0
  rwa [List.drop_zero] at this
/-- [f d for d in ds if c d], where nothing changes -/
theorem lcF_of {g : DTG} {tt : DTT} {te : DTE} {E : DW} {τ : DSt} {G : DH → Prop} {ds : List D} {S : DH} {Q : DK} (c : D → Bool) (f : D → D)
    (hG : ∀ p acc, S p = none → G (upo S p (.lst acc)))
    (hs : ∀ d ∈ ds, ∀ acc p (N : DH → Prop), S p = none → acc.length < 16777216 → (c d = true → N (upo S p (.lst (acc ++ [f d])))) → (c d = false → N (upo S p (.lst acc))) →
      g d τ (upo S p (.lst acc)) fun τ1 S2 => tt E τ1 S2 fun b S3 => if b = true then te E τ1 S3 fun y S4 => (match S4 p with | some (.lst acc) => acc.length < 16777216 ∧ N (upo S4 p (.lst (acc ++ [y]))) | _ => False) else N S3)
    (hl : ds.length < sizeLine) (hq : Q (.rol ((ds.filter c).map f)) S) : newO S (.lst []) fun p S1 => dLcL g tt te E τ G p (fzK Q (.ref p)) ds S1 := by
  refine lcF_inv (fun i acc S1 => S1 = S ∧ acc = ((ds.take i).filter c).map f) ⟨rfl, rfl⟩ (fun i acc S1 p _ ⟨e, _⟩ hp => by subst e; exact hG p acc hp) (fun i d acc S1 p N ed ⟨e1, e2⟩ hp ha hN => ?_) hl fun acc S1 ⟨e1, e2⟩ => ?_
  · subst e1
    refine hs d (List.mem_of_getElem? ed) acc p N hp ha (fun hc => hN _ _ hp ⟨rfl, ?_⟩ (by simp)) fun hc => hN _ _ hp ⟨rfl, ?_⟩ (by simp)
    · rw [List.take_succ, ed, e2]
      simp [hc]
    · rw [List.take_succ, ed, e2]
      simp [hc]
  · subst e1 e2
    rw [List.take_length]
    exact hq
/-- [f d for d in ds], where nothing changes -/
theorem lcF_map {g : DTG} {te : DTE} {E : DW} {τ : DSt} {G : DH → Prop} {ds : List D} {S : DH} {Q : DK} (f : D → D)
    (hG : ∀ p acc, S p = none → G (upo S p (.lst acc)))
    (hs : ∀ d ∈ ds, ∀ acc p (N : DH → Prop), S p = none → acc.length < 16777216 → N (upo S p (.lst (acc ++ [f d]))) →
      g d τ (upo S p (.lst acc)) fun τ1 S2 => te E τ1 S2 fun y S4 => (match S4 p with | some (.lst acc) => acc.length < 16777216 ∧ N (upo S4 p (.lst (acc ++ [y]))) | _ => False))
    (hl : ds.length < sizeLine) (hq : Q (.rol (ds.map f)) S) : newO S (.lst []) fun p S1 => dLcL g dYes te E τ G p (fzK Q (.ref p)) ds S1 := by
  have hf : ds.filter (fun _ => true) = ds := List.filter_eq_self.mpr fun _ _ => rfl
  refine lcF_of (fun _ => true) f hG (fun d hd acc p N hp ha h1 _ => ?_) hl (by rw [hf]; exact hq)
  simpa only [dYes, if_true] using hs d hd acc p N hp ha (h1 rfl)
/-! ### sorted(set(e)) -/
/-- sorted, each once -/
def ssD (ds : List D) : List D := srtD ds.eraseDups
theorem ss_mem {ds : List D} {d : D} : d ∈ ssD ds ↔ d ∈ ds := by unfold ssD; rw [srt_mem, List.mem_eraseDups]
theorem nodup_eraseDups {α : Type} [BEq α] [LawfulBEq α] : ∀ (n : Nat) (l : List α), l.length ≤ n → l.eraseDups.Nodup
  | _, [], _ => by simp
  | 0, _ :: _, h => by simp at h
  | n + 1, a :: l, h => by
    rw [List.eraseDups_cons]
    refine List.nodup_cons.mpr ⟨fun z => ?_, nodup_eraseDups n _ (Nat.le_trans (List.length_filter_le ..) (by simpa using h))⟩
    rw [List.mem_eraseDups] at z
    simpa using (List.mem_filter.mp z).2
theorem ss_nodup (ds : List D) : (ssD ds).Nodup := (srt_perm _).nodup_iff.mpr (nodup_eraseDups _ _ (Nat.le_refl _))
theorem ss_len (ds : List D) : (ssD ds).length ≤ ds.length := by
  unfold ssD
  rw [srt_len]
  have go : ∀ (n : Nat) (l : List D), l.length ≤ n → l.eraseDups.length ≤ l.length := fun n => by
    induction n with
    | zero => intro l h; cases l <;> simp at h ⊢
    | succ n ih =>
      intro l h
      cases l with
      | nil => simp
      | cons a l =>
        rw [List.eraseDups_cons]
        have := ih (l.filter fun b => !b == a) (Nat.le_trans (List.length_filter_le ..) (by simpa using h))
        have := List.length_filter_le (fun b => !b == a) l
        simp
        omega
  exact go _ _ (Nat.le_refl _)
theorem perm_of_mem {α : Type} [DecidableEq α] {as bs : List α} (ha : as.Nodup) (hb : bs.Nodup) (h : ∀ x, x ∈ as ↔ x ∈ bs) : as.Perm bs := by
  rw [List.perm_iff_count]
  intro x
  rw [ha.count, hb.count]
  simp [h x]
/-- a list that rises, with just these things -/
theorem ss_is {t : Ty} {as bs : List D} (ht : ∀ d ∈ as, hasTy t d = true) (nd : bs.Nodup) (hs : bs.Pairwise fun a b => ltD b a = false) (h : ∀ x, x ∈ as ↔ x ∈ bs) : ssD as = bs :=
  sorted_one (t := t) (fun d hd => ht d (ss_mem.mp hd)) (srt_sorted _) hs (perm_of_mem (ss_nodup as) nd fun x => by rw [ss_mem, h])
theorem fold_mem2 {k : Key} : ∀ (all acc : List Key), k ∈ acc ∨ k ∈ all → k ∈ all.foldl addK acc
  | [], acc, h => h.elim id fun z => nomatch z
  | j :: all, acc, h => by
    refine fold_mem2 all (addK acc j) ?_
    rcases h with h | h
    · left
      unfold addK
      split
      · exact h
      · exact List.mem_append_left _ h
    · rcases List.mem_cons.mp h with rfl | h
      · left
        unfold addK
        split
        · rename_i z
          exact any_key.mp z
        · exact List.mem_append_right _ (List.mem_singleton.mpr rfl)
      · exact .inr h
theorem first_mem {k : Key} {all : List Key} : k ∈ firstK all ↔ k ∈ all := ⟨fun h => (fold_key all [] h).elim (fun z => nomatch z) id, fun h => fold_mem2 all [] (.inr h)⟩
theorem addK_nodup {ks : List Key} {k : Key} (h : ks.Nodup) : (addK ks k).Nodup := by
  unfold addK
  split
  · exact h
  · rename_i z
    exact List.nodup_append.mpr ⟨h, List.nodup_cons.mpr ⟨List.not_mem_nil, .nil⟩, fun a ha b hb e => z (any_key.mpr (by rw [← List.mem_singleton.mp hb, ← e]; exact ha))⟩
theorem first_nodup (all : List Key) : (firstK all).Nodup := by
  have go : ∀ (all acc : List Key), acc.Nodup → (all.foldl addK acc).Nodup := fun all => by
    induction all with
    | nil => exact fun _ h => h
    | cons k all ih => exact fun acc h => ih _ (addK_nodup h)
  exact go all [] .nil
theorem keyD_inj {a b : Key} (h : keyD a = keyD b) : a = b := by
  cases a <;> cases b <;> simp [keyD] at h <;> rw [h]
theorem keyP_D (k : Key) : keyP k = toP (keyD k) := by cases k <;> rfl
theorem nodup_mapD {ks : List Key} (h : ks.Nodup) : (ks.map keyD).Nodup := by
  rw [List.nodup_iff_pairwise_ne, List.pairwise_map]
  exact (List.nodup_iff_pairwise_ne.mp h).imp fun h e => h (keyD_inj e)
theorem keys_of {t : Ty} (ht : t = .int ∨ t = .str) : ∀ {xs : List D}, (∀ d ∈ xs, hasTy t d = true) → ∃ all : List Key, xs = all.map keyD
  | [], _ => ⟨[], rfl⟩
  | d :: xs, h => by
    obtain ⟨all, e⟩ := keys_of ht (xs := xs) fun x hx => h x (List.mem_cons_of_mem _ hx)
    have hd := h d (List.mem_cons_self ..)
    rcases ht with rfl | rfl
    · cases d <;> first | (simp [hasTy] at hd; done) | exact ⟨_ :: all, by rw [e]; exact List.map_cons (f := keyD) (a := Sum.inl _) |>.symm⟩
    · cases d <;> first | (simp [hasTy] at hd; done) | exact ⟨_ :: all, by rw [e]; exact List.map_cons (f := keyD) (a := Sum.inr _) |>.symm⟩
def scTy (b : Bool) : Ty := if b then .int else .str
@[simp] def dSortSetM (t : DTE) : DTE := fun E τ S Q => t E τ S fun d S1 => opt (seqD S1 d) fun xs => (∃ b, ∀ d ∈ xs, hasTy (scTy b) d = true) ∧ xs.length + 1 < scanBound ∧ newO S1 (.lst (ssD xs)) fun p S' => Q (.ref p) S'
@[simp] def dSortSetF (t : DTE) : DTE := fun E τ S Q => t E τ S fun d S1 => opt (seqD S1 d) fun xs => (∃ b, ∀ d ∈ xs, hasTy (scTy b) d = true) ∧ xs.length + 1 < scanBound ∧ Q (.rol (ssD xs)) S1
theorem key_sorted {t : Ty} {bs : List Key} : ((bs.mergeSort (dataLe false keyP)).map keyD).Pairwise fun a b => ltD b a = false := by
  rw [List.pairwise_map]
  have e : (dataLe false keyP) = fun a b : Key => !ltD (keyD b) (keyD a) := by
    funext a b
    show (!dataLt (keyP b) (keyP a)) = _
    rw [keyP_D, keyP_D]
    rfl
  rw [e]
  have := List.pairwise_mergeSort (le := fun a b : Key => !ltD (keyD b) (keyD a)) (fun a b c h1 h2 => by
    cases e : ltD (keyD c) (keyD a) with
    | false => rfl
    | true =>
      rcases ltD_neg (y := keyD b) e with z | z
      · rw [z] at h2; cases h2
      · rw [z] at h1; cases h1) (fun a b => by
    cases e : ltD (keyD b) (keyD a) with
    | false => rfl
    | true => rw [ltD_asymm e]; rfl) bs
  exact this.imp fun h => by simpa using h
section
variable {X : Cx} {x y : Str} {e : Expr} {p p' pos pos' : Pos} {t : DTE}
end
end Dt
set_option maxRecDepth 100000
set_option maxHeartbeats 4000000
/-! DatX: y = [..] whose list is a value; ends of defs. -/
namespace Dt
open PySem PySem.Spec L2 PySem.W PyProof.Rows
theorem hu64 {A : Around} (h : A.units + 120 < cLine) : A.units + 64 < cLine := by omega
/-- what a def's body ends in -/
abbrev dEnd (Q : DK) (E : DXK) : DEnds := { nx := fun _ S' => Rt Q .non S', rt := Rt Q, xe := fun C fs _ S' => ∃ S'', Sub S'' S' ∧ E C fs S'' }
section
variable {X : Cx} {tg iter elt : Expr} {ifs : List Expr} {scope : Scope} {own : List (Str × Nat)} {pos spos py : Pos} {ti : DTI} {g : DTG} {tt : DTT} {te : DTE}
end
end Dt
set_option maxRecDepth 100000
set_option maxHeartbeats 4000000
/-! DatY: texts, cuts, names. -/
namespace Dt
open PySem PySem.Spec L2
section
variable {α : Type} {x y z : α} {xs : List α}
@[simp] theorem atI_0 : atI (x :: xs) 0 = some x := atI_nat (j := 0) rfl
@[simp] theorem atI_1 : atI (x :: y :: xs) 1 = some y := atI_nat (j := 1) rfl
@[simp] theorem atI_2 : atI (x :: y :: z :: xs) 2 = some z := atI_nat (j := 2) rfl
end
/-- a name -/
def Nm (y : Str) : Prop := 1 ≤ y.length ∧ y.length ≤ 8 ∧ ∀ c ∈ y.cps.toList, 97 ≤ c ∧ c ≤ 122
theorem Nm.pl {y : Str} (h : Nm y) : Pl 8 y := ⟨h.2.1, fun c hc => Nat.lt_of_le_of_lt (h.2.2 c hc).2 (by decide)⟩
@[simp] theorem cutD_drop (ds : List D) (k : Nat) : cutD ds (some (k : Int)) none = ds.drop k := by
  unfold cutD
  rw [HT.sIx_nat, HT.sIx_none]
  rcases Nat.le_total k ds.length with h | h
  · rw [Nat.min_eq_left h]
    exact List.take_of_length_le (by simp)
  · rw [Nat.min_eq_right h, List.drop_eq_nil_of_le (Nat.le_refl _), List.drop_eq_nil_of_le h]
    simp
@[simp] theorem cutD_take (ds : List D) (k : Nat) : cutD ds none (some (k : Int)) = ds.take k := by
  unfold cutD
  rw [HT.sIx_nat, HT.sIx_none, List.drop_zero, Nat.sub_zero]
  rcases Nat.le_total k ds.length with h | h
  · rw [Nat.min_eq_left h]
  · rw [Nat.min_eq_right h, List.take_of_length_le (Nat.le_refl _), List.take_of_length_le h]
@[simp] theorem cutD_drop1 (ds : List D) (k : Nat) : cutD ds (some ((k : Int) + 1)) none = ds.drop (k + 1) := cutD_drop ds (k + 1)
@[simp] theorem cutD_take1 (ds : List D) (k : Nat) : cutD ds none (some ((k : Int) + 1)) = ds.take (k + 1) := cutD_take ds (k + 1)
theorem dSeq_gen {a b : DTS} {A : DEnds} {τ : DSt} {S : DH} (h : ∀ R, R = b → dSeq a R A τ S) : dSeq a b A τ S := h b rfl
theorem dIf_gen {c : DTT} {a b : DTS} {A : DEnds} {τ : DSt} {S : DH} (h : ∀ R1 R2, R1 = a → R2 = b → dIf c R1 R2 A τ S) : dIf c a b A τ S := h a b rfl rfl
theorem dSeqIf_gen {c : DTT} {a b r : DTS} {A : DEnds} {τ : DSt} {S : DH} (h : ∀ R1 R2 R, R1 = a → R2 = b → R = r → dSeq (dIf c R1 R2) R A τ S) : dSeq (dIf c a b) r A τ S := h a b r rfl rfl rfl
theorem dFor_gen {ti : DTI} {g : DTG} {tb : DTS} {A : DEnds} {τ : DSt} {S : DH} (h : ∀ B, B = tb → dFor ti g B A τ S) : dFor ti g tb A τ S := h tb rfl
theorem dSeqFor_gen {ti : DTI} {g : DTG} {tb r : DTS} {A : DEnds} {τ : DSt} {S : DH} (h : ∀ B R, B = tb → R = r → dSeq (dFor ti g B) R A τ S) : dSeq (dFor ti g tb) r A τ S := h tb r rfl rfl
end Dt
set_option maxRecDepth 100000
set_option maxHeartbeats 4000000
/-! DatI: instances: o.f, o.f = e, C(..). -/
namespace Dt
open PySem PySem.Spec L2
/-- o.f -/
def dFldK (C : Addr) (f : Str) (Q : DK) : DK := fun d S1 => match d with
  | .ref a => (match S1 a with | some (.ins C' fs) => C' = C ∧ opt (fs.lookup f) fun v => Q v S1 | _ => False)
  | _ => False
@[simp] theorem dFldK_ref {C a : Addr} {f : Str} {Q : DK} {S : DH} : dFldK C f Q (.ref a) S = (match S a with | some (.ins C' fs) => C' = C ∧ opt (fs.lookup f) fun v => Q v S | _ => False) := rfl
@[simp] def dFld (C : Addr) (f : Str) (ta : DTE) : DTE := fun E τ S Q => ta E τ S (dFldK C f Q)
theorem dFldK_mono {C : Addr} {f : Str} {Q Q' : DK} (k : ∀ d S', Q d S' → Q' d S') (d : D) (S : DH) (h : dFldK C f Q d S) : dFldK C f Q' d S := by
  cases d with
  | ref a =>
    revert h
    show (match S a with | some (.ins C' fs) => _ | _ => False) → (match S a with | some (.ins C' fs) => _ | _ => False)
    split
    · exact fun h => ⟨h.1, opt_mono (fun v => k v S) h.2⟩
    · exact id
  | _ => exact h
section
variable {X : Cx} {k : Nat} {f C : Addr} {fd : FuncData} {ps : List Str} {sp : DSp} {x m : Str} {p pos apos pos' : Pos} {e o value : Expr} {es : List Expr} {ta tv : DTE} {t : DTA}
theorem de_fld (he : DE X e ta) (c : Cls X.K C) (n : NoAttr X.K C m) (hb : attributeBase e m X.env (eval e X.env) = eval e X.env := by rfl) : DE X (.Attribute e m pos) (dFld C m ta) := by
  refine ⟨fun E E' τ S Q Q' hE k q => he.mono _ _ _ _ _ _ hE (dFldK_mono k) q, pE_imp (pe_fld he.run hb) fun σ H Q ⟨E, τ, S, w, r, q⟩ => ?_⟩
  refine he.to w r q fun d S1 v H1 le1 w1 r1 rd z => ?_
  cases d with
  | ref a =>
    obtain rfl : v = V.ref a := rd
    revert z
    show (match S1 a with | some (.ins C' fs) => _ | _ => False) → _
    split
    · rename_i C' fs ea
      rintro ⟨rfl, hl⟩
      obtain ⟨d, hd, q⟩ := opt_ex hl
      obtain ⟨dx, ws, eh, rk⟩ : ∃ dx ws, H1 a = some (.ins C' dx ws) ∧ RKs X.K H1 fs ws := r1.rep a _ ea
      obtain ⟨v, hv, rv⟩ := rk.lookup_some hd
      exact ⟨a, C', dx, ws, v, rfl, eh, c, n, hv, q v H1 le1 r1.rep rv⟩
    · exact fun z => z.elim
  | _ => exact z.elim
/-- o.f = e -/
def putFD (f : Str) (v : D) : List (Str × D) → List (Str × D)
  | [] => [(f, v)]
  | (g, x) :: r => if g = f then (g, v) :: r else (g, x) :: putFD f v r
theorem RKs.putF {K : PySem.W.Frag} {H : Hp} {f : Str} {d : D} {v : V} (rd : RD K H d v) : ∀ {fs : List (Str × D)} {ws : List (Str × V)}, RKs K H fs ws → RKs K H (putFD f d fs) (L2.putF f v ws)
  | [], _, h => by
    cases h
    exact ⟨v, [], rfl, rd, rfl⟩
  | (g, x) :: r, _, h => by
    obtain ⟨y, s, rfl, h1, h2⟩ := h
    show RKs K H (if g = f then (g, d) :: r else (g, x) :: putFD f d r) (if g = f then (g, v) :: s else (g, y) :: L2.putF f v s)
    split
    · exact ⟨v, s, rfl, rd, h2⟩
    · exact ⟨y, _, rfl, h1, RKs.putF rd h2⟩
theorem RKs.len {κ : Type} {K : PySem.W.Frag} {H : Hp} : ∀ {fs : List (κ × D)} {ws : List (κ × V)}, RKs K H fs ws → fs.length = ws.length
  | [], _, h => by cases h; rfl
  | _ :: _, _, h => by
    obtain ⟨y, s, rfl, h1, h2⟩ := h
    rw [List.length_cons, List.length_cons, RKs.len h2]
def dPutFK (C : Addr) (f : Str) (y : D) (N : DH → Prop) : D → DH → Prop := fun d S2 => match d with
  | .ref a => (match S2 a with | some (.ins C' fs) => C' = C ∧ fs.length < 1000 ∧ N (upo S2 a (.ins C (putFD f y fs))) | _ => False)
  | _ => False
@[simp] theorem dPutFK_ref {C a : Addr} {f : Str} {y : D} {N : DH → Prop} {S : DH} : dPutFK C f y N (.ref a) S = (match S a with | some (.ins C' fs) => C' = C ∧ fs.length < 1000 ∧ N (upo S a (.ins C (putFD f y fs))) | _ => False) := rfl
theorem dPutFK_mono {C : Addr} {f : Str} {y : D} {N N' : DH → Prop} (k : ∀ S', N S' → N' S') (d : D) (S : DH) (h : dPutFK C f y N d S) : dPutFK C f y N' d S := by
  cases d with
  | ref a =>
    revert h
    show (match S a with | some (.ins C' fs) => _ | _ => False) → (match S a with | some (.ins C' fs) => _ | _ => False)
    split
    · exact fun h => ⟨h.1, h.2.1, k _ h.2.2⟩
    · exact id
  | _ => exact h
@[simp] def dPutF (C : Addr) (f : Str) (ta tv : DTE) : DTS := fun A τ S => tv A.xe τ S fun y S1 => ta A.xe τ S1 (dPutFK C f y (A.nx τ))
theorem ds_fput (ha : DE X o ta) (hv : DE X value tv) (c : Cls X.K C) (n : NoAttr X.K C m) (hs : swapsWith value (some (.Attribute o m pos')) pos.line X.env = pure false := by rfl) : DS X (.Assign [.Attribute o m pos'] value pos) (dPutF C m ta tv) := by
  refine ⟨fun A B τ S le q => hv.mono _ _ _ _ _ _ le.xe (fun y S1 z => ha.mono _ _ _ _ _ _ le.xe (dPutFK_mono fun S' => le.nx _ _) z) q, pS_imp (ps_fld ha.run hv.run hs) fun D σ H ⟨E, τ, S, w, r, q⟩ => ?_⟩
  refine hv.to w r q fun y S1 u H1 le1 w1 r1 rd1 z => ?_
  refine ha.to w1 r1 z fun d S2 v H2 le2 w2 r2 rd2 z => ?_
  cases d with
  | ref a =>
    obtain rfl : v = V.ref a := rd2
    revert z
    show (match S2 a with | some (.ins C' fs) => _ | _ => False) → _
    split
    · rename_i C' fs ea
      rintro ⟨rfl, hl, q⟩
      obtain ⟨dx, ws, eh, rk⟩ : ∃ dx ws, H2 a = some (.ins C' dx ws) ∧ RKs X.K H2 fs ws := r2.rep a _ ea
      have le3 : LeH H2 (upd H2 a (.ins C' dx (L2.putF m u ws))) := LeH.put eh trivial
      refine ⟨a, C', dx, ws, rfl, eh, c, n, by rw [← rk.len]; exact hl, q _ _ (le1.trans (le2.trans le3)) ⟨r2.st.le le3, r2.rep.put eh trivial ⟨dx, _, upd_same, RKs.putF (rd1.le (le2.trans le3)) (rk.le le3)⟩⟩⟩
    · exact fun z => z.elim
  | _ => exact z.elim
/-- C(..) -/
@[simp] def dMake (C : Addr) (sp : DSp) (t : DTA) : DTE := fun E τ S Q => t E τ S fun ds S1 => ∀ x, S1 x = none → sp (.ref x :: ds) (upo S1 x (.ins C [])) (fun d S' => d = .non ∧ Q (.ref x) S') fun C fs S' => E C fs τ S'
theorem guards_make {A : Around} {args : Args} (h : A.guards = some []) : (A.under (.builtin "type.__call__" args)).guards = some [] := by
  have e : (A.under (.builtin "type.__call__" args)).guards = pushGuards (Code.builtin "type.__call__" args).guards A.guards := rfl
  rw [e, h]
  rfl
theorem run_dmake {pins : List (Addr × Obj)} {s : Shared} {us : List Value} {vs : List V} {ds : List D} {E : DW} {τ : DSt} {S : DH} {σ : L2.St} {H : Hp} {Q0 : DK} {Q : VK} (M : Mk X.K C f) (F : DFn X.prog X.w X.K X.mg X.base k f fd ps sp) (hr : Room (k + 1) X.A) (gu : X.A.guards = some []) (hb : Binds X.K fd ps [])
    (I : Inv X pins σ H s) (w : Wish X E H) (rl : Rel X.w X.K τ S σ H) (r : Vals vs us) (rd : RDs X.K H ds vs) (h : ∀ x, S x = none → sp (.ref x :: ds) (upo S x (.ins C [])) (fun d S' => d = .non ∧ Q0 (.ref x) S') fun C fs S' => E C fs τ S')
    (kq : ∀ d S' v H', LeH H H' → Rep X.w X.K S' H' → RD X.K H' d v → Q0 d S' → Q v H') :
    wpAny (model X.prog X.w) X.A (call (.ref C) us) (EP X pins σ Q) X.xe s := by
  have fr1 := I.hok.fresh (Nat.le_succ s.heap.objs.size)
  have fr0 := I.hok.fresh (Nat.le_refl s.heap.objs.size)
  have ne : s.heap.objs.size + 1 ≠ s.heap.objs.size := Nat.succ_ne_self _
  have I2 := Inv.made (C := C) I
  have le1 : LeH H (upd H s.heap.objs.size (.own (s.heap.objs.size + 1))) := LeH.new fr0
  have fr1' : upd H s.heap.objs.size (.own (s.heap.objs.size + 1)) (s.heap.objs.size + 1) = none := by rw [upd_ne ne]; exact fr1
  have le2 : LeH (upd H s.heap.objs.size (.own (s.heap.objs.size + 1))) (upd (upd H s.heap.objs.size (.own (s.heap.objs.size + 1))) (s.heap.objs.size + 1) (.ins C s.heap.objs.size [])) := LeH.new fr1'
  have rp2 : Rep X.w X.K (upo S (s.heap.objs.size + 1) (.ins C [])) (upd (upd H s.heap.objs.size (.own (s.heap.objs.size + 1))) (s.heap.objs.size + 1) (.ins C s.heap.objs.size [])) := (rl.rep.garb fr0).new fr1' ⟨_, [], upd_same, rfl⟩
  have hs : S (s.heap.objs.size + 1) = none := rl.rep.free fr1
  have hq := h _ hs
  have rds2 : RDs X.K (upd (upd H s.heap.objs.size (.own (s.heap.objs.size + 1))) (s.heap.objs.size + 1) (.ins C s.heap.objs.size [])) (.ref (s.heap.objs.size + 1) :: ds) (V.ref (s.heap.objs.size + 1) :: vs) := RDs.cons (d := .ref _) rfl (rd.le (le1.trans le2))
  have hl : ((Value.ref (s.heap.objs.size + 1) :: us) ++ []).length = ps.length := by
    rw [List.append_nil, List.length_cons, ← r.length, ← rd.length, ← List.length_cons (a := D.ref (s.heap.objs.size + 1))]
    exact F.len _ _ _ _ hq
  have hbd := hb _ (Value.ref (s.heap.objs.size + 1) :: us) I2.kIn hl
  rw [List.append_nil] at hbd
  refine wpAny_call (make_map (f := f) I.kIn M.makes M.init (beq_iff_eq.mp M.fn) (codeAny_mono (F.run _ X.stack _ _ ⟨Value.ref (s.heap.objs.size + 1) :: us, []⟩ (Value.ref (s.heap.objs.size + 1) :: us) (V.ref (s.heap.objs.size + 1) :: vs) (fun v H2 => v = .non ∧ Q (.ref (s.heap.objs.size + 1)) H2)
    (fun cls d H' => upW X.w X.K E H cls d σ H') (hr.make C us []) (guards_make gu) (I2.env0.make C us []) hbd (.cons rfl r) ⟨_, _, rp2, rds2, F.mono _ _ _ _ _ _ (fun d S' q v H' le rp rv => ?_) (fun C fs S' q dd ws H' le rp hx rk hn => ⟨C, fs, τ, S', dd, ws, rfl, rfl, le1.trans (le2.trans le), rl.le (le1.trans (le2.trans le)) rp, hx, rk, hn, q⟩) hq⟩) fun r s' hq' => ?_))
  · obtain ⟨rfl, q⟩ := q
    exact ⟨rv, kq (.ref _) S' _ H' (le1.trans (le2.trans le)) rp rfl q⟩
  cases r with
  | error e => exact w e s' (XE.of_call I2 (fun _ _ _ h => h) hq')
  | ok fl =>
    cases fl with
    | ret u =>
      obtain ⟨v, H', I3, rv, ev, q3⟩ := I2.after hq'
      subst ev
      exact ⟨rv, ⟨V.ref (s.heap.objs.size + 1), H', I3, rfl, q3⟩⟩
    | next => exact False.elim hq'
    | brk => exact False.elim hq'
    | cont => exact False.elim hq'
theorem dMake_mono (F : DFn X.prog X.w X.K X.mg X.base k f fd ps sp) (ma : ∀ (E E' : DW) τ S (Q Q' : List D → DH → Prop), (∀ C fs τ S, E C fs τ S → E' C fs τ S) → (∀ d S', Q d S' → Q' d S') → t E τ S Q → t E' τ S Q')
    (E E' : DW) (τ : DSt) (S : DH) (Q Q' : DK) (hE : ∀ C fs τ S, E C fs τ S → E' C fs τ S) (kq : ∀ d S', Q d S' → Q' d S') (q : dMake C sp t E τ S Q) : dMake C sp t E' τ S Q' :=
  ma _ _ _ _ _ _ hE (fun ds S1 z x hx => F.mono _ _ _ _ _ _ (fun d S' y => ⟨y.1, kq _ _ y.2⟩) (fun C fs S' y => hE _ _ _ _ y) (z x hx)) q
theorem de_make0 (M : Mk X.K C f) (F : DFn X.prog X.w X.K X.mg X.base k f fd ps sp) (hr : Room (k + 1) X.A) (gu : X.A.guards = some []) (hg : Gl X x) (hm : X.mg x = some (.ref C)) (hb : Binds X.K fd ps [])
    (hdb : (x == ("__debug__" : Str)) = false := by decide) : DE X (.Call (.Name x p) [] [] pos) (dMake C sp dNil) := by
  refine ⟨dMake_mono F (fun _ _ _ _ _ _ _ k q => k _ _ q), ⟨fun pins s σ H Q I ⟨E, τ, S, w, r, q⟩ => ?_⟩⟩
  refine PySem.wpAny_Call_Name_kw (ld_glob I hg hm ?_ hdb)
  exact PySem.W.callWith_K0 I.kIn M.kp (run_dmake (Q0 := fun d S' => ∀ v H', LeH H H' → Rep X.w X.K S' H' → RD X.K H' d v → Q v H') (us := []) M F hr gu hb I w r .nil .nil q fun d S' v H' le rp rd q2 => q2 v H' le rp rd)
end
end Dt
set_option maxRecDepth 100000
set_option maxHeartbeats 4000000
/-! DatJ: a dict's keys as a row: sorted(d), list(d); the methods of dicts. -/
namespace Dt
open PySem PySem.Spec L2 PySem.W PyProof.Rows
@[simp] def keysO (o : Ob) : Option (List D) := match o with
  | .dK kvs => some (kvs.map fun kv => keyD kv.1)
  | .dN kvs => some (kvs.map (·.1))
  | _ => none
@[simp] def keysD (S : DH) (d : D) : Option (List D) := match d with | .ref a => (S a).bind keysO | _ => none
section
variable {X : Cx} {pins : List (Addr × Obj)} {σ : L2.St} {H : Hp} {s : Shared} {a : Addr}
theorem pairs_vals {P : Program} {w : World} : ∀ {es : List DictEntry} {vs : List (Key × Value)}, Pairs (mixKind P w) es vs → Vals (vs.map fun p => kV p.1) (es.map (·.key))
  | _, _, .nil => .nil
  | _, _, .cons h1 h2 t => by
    rw [List.map_cons, List.map_cons]
    refine .cons ?_ (pairs_vals t)
    rcases keyIs_shape h1 with ⟨i, t, ek, ev⟩ | ⟨z, t, ek, ev⟩
    · rw [ek, ev]; exact ⟨t, rfl⟩
    · rw [ek, ev]; exact ⟨t, rfl⟩
theorem keys_raw (I : Inv X pins σ H s) {ob : Ob} {ks : List D} (r : ROb X.w X.K H a ob) (e : keysO ob = some ks) :
    ∃ es ep xs, s.heap.DictRaw a es ep ∧ (a == sysModules) = false ∧ es.size ≤ sizeLine ∧ Vals xs (es.toList.map (·.key)) ∧ RDs X.K H ks xs := by
  cases ob with
  | dK kvs =>
    cases e
    obtain ⟨ws, e0, rk⟩ : ∃ ws, H a = some (.dK ws) ∧ RKs X.K H kvs ws := r
    obtain ⟨z, lo, vs, kv, o, es, ep, h1, h2, h3, h4, h5, h6⟩ := dk_of I.hok e0
    have hl : kvs.length = ws.length := rk.length
    have hl2 : ws.length = vs.length := Paired.length kv
    have hl3 : es.toList.length = vs.length := h5.length
    have e1 : (kvs.map fun q => keyD q.1) = (vs.map fun p => p.1).map keyD := by
      have go : ∀ {kvs : List (Key × D)} {ws : List (Key × V)} {vs : List (Key × Value)}, RKs X.K H kvs ws → KV ws vs → (kvs.map fun q => keyD q.1) = (vs.map fun p => p.1).map keyD := by
        intro kvs
        induction kvs with
        | nil => intro ws vs r k; cases r; cases k; rfl
        | cons q kvs ih =>
          intro ws vs r k
          obtain ⟨v, s', rfl, _, r2⟩ := r
          cases k with
          | cons a b => rw [List.map_cons, List.map_cons, List.map_cons, ih r2 b, ← a.1]
      exact go rk kv
    refine ⟨es, ep, _, ⟨o, h1, h2, h3⟩, lo, by simp at hl3; omega, pairs_vals h5, ?_⟩
    rw [e1]
    have e2 : (vs.map fun p => kV p.1) = (vs.map fun p => p.1).map kV := by rw [List.map_map]; rfl
    rw [e2]
    exact keys_rds _
  | dN kvs =>
    cases e
    obtain ⟨xs, ⟨o, es, ep, h1, h2, h3, h4, h5, h6⟩, rx, hs, hz, _⟩ := dn_open I r
    have go : ∀ {kvs : List (D × D)} {xs : List (NestedKey × Addr × Value)}, RX X.K H kvs xs → ∃ ys, Vals ys (xs.map fun x => Value.ref x.2.1) ∧ RDs X.K H (kvs.map (·.1)) ys := by
      intro kvs
      induction kvs with
      | nil => intro xs r; cases r; exact ⟨[], .nil, .nil⟩
      | cons q kvs ih =>
        intro xs r
        obtain ⟨nk, b, u, s', rfl, ⟨_, _, r1, _⟩, r2⟩ := r
        obtain ⟨ys, g1, g2⟩ := ih r2
        exact ⟨.ref b :: ys, .cons rfl g1, RDs.cons r1 g2⟩
    obtain ⟨ys, g1, g2⟩ := go rx
    have hl : es.size = xs.length := by
      have := congrArg List.length h4
      simpa using this
    refine ⟨es, ep, ys, ⟨o, h1, h2, h3⟩, hs, by rw [hl, ← rx.length]; exact hz, ?_, g2⟩
    rw [h4, List.map_map]
    exact g1
  | lst ds => cases e
  | ins C fs => cases e
  | exc _ _ => cases e
  | xd _ => cases e
  | ex0 _ => cases e
  | ex1 _ _ => cases e
  | xm _ => cases e
  | fK _ => cases e
  | fN _ => cases e
theorem items_keys {es : Array DictEntry} {acc : Array Value} (h : ItemsOf (fun i v => ∃ hi : i < es.size, v = es[i].key) acc es.size) : acc.toList = es.toList.map (·.key) := by
  obtain ⟨h1, h2⟩ := h
  refine List.ext_getElem? fun i => ?_
  rw [List.getElem?_map, Array.getElem?_toList, Array.getElem?_toList]
  cases e : acc[i]? with
  | none =>
    have : es.size ≤ i := by
      have := Array.getElem?_eq_none_iff.mp e
      omega
    rw [Array.getElem?_eq_none_iff.mpr this]
    rfl
  | some v =>
    obtain ⟨hi, ev⟩ := h2 i v e
    rw [Array.getElem?_eq_getElem hi, ev]
    rfl
end
/-! ### sorted of a sequence, of a dict -/
@[simp] def cSortA : RCD := fun ds S Q => match ds with
  | [d] => (opt (seqD S d) fun xs => cSrt xs fun ys => newO S (.lst ys) fun p S' => Q (.ref p) S') ∨ (opt (keysD S d) fun xs => cSrt xs fun ys => newO S (.lst ys) fun p S' => Q (.ref p) S')
  | _ => False
@[simp] def cSortAF : RCD := fun ds S Q => match ds with
  | [d] => (opt (seqD S d) fun xs => cSrt xs fun ys => Q (.rol ys) S) ∨ (opt (keysD S d) fun xs => cSrt xs fun ys => Q (.rol ys) S)
  | _ => False
theorem keysD_ex {S : DH} {d : D} {ks : List D} (h : keysD S d = some ks) : ∃ a ob, d = .ref a ∧ S a = some ob ∧ keysO ob = some ks := by
  cases d <;> first | (cases h; done) | skip
  rename_i a
  show ∃ a' ob, _
  have h' : (S a).bind keysO = some ks := h
  cases e : S a with
  | none => rw [e] at h'; cases h'
  | some ob => rw [e] at h'; exact ⟨a, ob, rfl, e, h'⟩
section
variable {X : Cx}
theorem cd_sortA (hc : X.calm = true) (hu : X.A.units + 64 < cLine) : CallD X (.builtin "sorted") cSortA := by
  refine ⟨fun ds S Q Q' k h => ?_, fun pins s σ H vs us Q I rv ⟨ds, S, rep, rd, h⟩ => ?_⟩
  · match ds, h with
    | [d], h => exact h.imp (opt_mono (fun _ h => ⟨h.1, fun p hp => k _ _ (h.2 p hp)⟩)) (opt_mono (fun _ h => ⟨h.1, fun p hp => k _ _ (h.2 p hp)⟩))
  · match ds, h with
    | [d], .inl h => exact (cd_sorted hu).run pins s σ H vs us Q I rv ⟨[d], S, rep, rd, h⟩
    | [d], .inr h =>
      obtain ⟨ks, e, ⟨t, ht, hd⟩, hQ⟩ := opt_ex h
      obtain ⟨a, ob, rfl, ea, ek⟩ := keysD_ex e
      obtain ⟨v, rfl, r⟩ := rds1 rd
      cases r
      rw [Vals.ref1 rv]
      obtain ⟨es, ep, xs, dr, lo, hz, vx, rx⟩ := keys_raw I (rep a ob ea) ek
      refine Calls.call_function_entry kind_sorted plain_sorted entry_sorted (args_sorted1 _) ?_
      unfold Builtin.«sorted»
      refine wpAny_bind (m := checkCount "sorted" 1 1 _) (wpAny_pure ?_)
      refine wpAny_bind (kdu_collect (A := X.A.in1) (KdlSrc.rawDict lo) (I.ok.hd hc) dr hz fun h' tk acc hk hacc => ?_)
      have eacc := items_keys hacc
      have I1 : Inv X pins σ H { s with heap := h', toks := tk } := I.kept hk
      have hal : acc.toList.length = ks.length := by rw [eacc, ← vx.length, rx.length]
      have hks : ks.length ≤ sizeLine := by rw [← hal, Array.length_toList, hacc.1]; exact hz
      rw [← eacc] at vx
      have ee := each_rel vx rx
      have sm : ∀ d ∈ ks, Sm 50 d := fun d z => (hasTy_sm t d (hd d z)).mono (sortTy_dep ht)
      refine wpAny_bind (wpAny_newList ?_ (by rw [hal]; exact hks))
      have hoL : (h'.push (seqObj "list" acc.toList.toArray 0)).get? h'.objs.size = some (seqObj "list" acc.toList.toArray 0) := Heap.get?_push_size _ rfl
      have er : EachIs (fun u d => ∃ as, Reads (sortingHeap (h'.push (seqObj "list" acc.toList.toArray 0)) h'.objs.size acc.toList) u (toP d) as) acc.toList ks := by
        refine EachIs.mono (fun u d z => ?_) (each_and ee sm)
        obtain ⟨⟨x, a1, a2⟩, a3⟩ := z
        obtain ⟨as, ra⟩ := Dp.reads I1 (toP d) x u ((a3.pd S).dp rep _ _ _ a2) a1
        exact ⟨as, Reads.keeps (fun b o q => sortingHeap_old (Nat.ne_of_lt (Heap.lt_size q)) (Heap.get?_push_of_some _ q)) ra⟩
      show wpAny _ _ _ _ _ { s with heap := h'.push (seqObj "list" acc.toList.toArray 0), toks := tk }
      have Srt := SortsAt.data (prog := X.prog) (w := X.w) (A := X.A.in1.in1) (s := { s with heap := sortingHeap (h'.push (seqObj "list" acc.toList.toArray 0)) h'.objs.size acc.toList, toks := tk }) (each_map (R := fun v d => ∃ as, Reads (sortingHeap (h'.push (seqObj "list" acc.toList.toArray 0)) h'.objs.size acc.toList) v d as) toP er) (cd_sorted.AllAlike.of' hd) (sortable_ty ht hd) (bound_map (A := X.A.in1.in1) fun b hb => by
        have h2 := (sm b hb).2
        show X.A.units + 2 + _ < _
        rw [dep_P]; omega)
      refine wpAny_bind (wpAny_holding (wpAny_call_entry slot_list_sort ⟨_, hoL, rfl⟩ entry_list_sort
        (list_sort_vals (s := { s with heap := h'.push (seqObj "list" acc.toList.toArray 0), toks := tk }) hoL Srt (by rw [hal]; exact hks) ⟨_, rfl, ?_⟩) (args_list_sort _)))
      have out := sortVals_data (R := fun u d => ∃ x, RelV x u ∧ RD X.K H d x) false ee er (cd_sorted.AllAlike.of' hd)
      rw [srtD_eq] at out
      obtain ⟨ys, r1, r2⟩ := rel_each out
      obtain ⟨e', he'⟩ := sortedHeap_at (vs := acc.toList) (out := (sortVals (dataKind (sortingHeap (h'.push (seqObj "list" acc.toList.toArray 0)) h'.objs.size acc.toList) (ks.map toP)) false acc.toList acc.toList).toArray) hoL
      have hn : H h'.objs.size = none := I1.hok.fresh (Nat.le_refl _)
      have hyl : ys.length ≤ sizeLine := by rw [← r2.length]; exact Nat.le_trans (Nat.le_of_eq (srt_len ks)) hks
      have le : LeH H (upd H h'.objs.size (.lst ys)) := LeH.new hn
      refine wpAny_pure ⟨_, rfl, .ref h'.objs.size, upd H h'.objs.size (.lst ys), I1.laid (t' := tk) (fun b u q => ?_) (Nat.le_refl _) ⟨hyl, _, e', r1, he'⟩, rfl, ?_⟩
      · have hb : b < h'.objs.size := Heap.lt_size q
        show (sortedHeap _ _ _ _).get? b = _
        rw [sortedHeap_old (Nat.ne_of_lt hb) (by rw [size_push']; exact Nat.lt_succ_of_lt hb)]
        exact Heap.get?_push_of_some _ q
      · exact hQ h'.objs.size (rep.free hn) _ _ le (rep.new hn ⟨ys, upd_same, r2.le le⟩) rfl
theorem cd_sortAF (hc : X.calm = true) (hu : X.A.units + 64 < cLine) : CallD X (.builtin "sorted") cSortAF := (cd_fz (cd_sortA hc hu)).sub (fun ds S Q Q' k h => by
    unfold cSortAF at h ⊢
    split at h
    · exact h.imp (opt_mono (fun _ h => ⟨h.1, k _ _ h.2⟩)) (opt_mono (fun _ h => ⟨h.1, k _ _ h.2⟩))
    · exact h) fun ds S Q h => by
    unfold cSortAF at h
    unfold cFz cSortA
    split at h
    · exact h.imp (opt_mono (fun _ h => ⟨h.1, fun p hp => fzK_new hp h.2⟩)) (opt_mono (fun _ h => ⟨h.1, fun p hp => fzK_new hp h.2⟩))
    · exact h
/-! ### list of a sequence, of a dict -/
@[simp] def cListA : RCD := fun ds S Q => match ds with
  | [d] => cList [d] S Q ∨ (opt (keysD S d) fun ys => newO S (.lst ys) fun p S' => Q (.ref p) S')
  | _ => False
@[simp] def cListAF : RCD := fun ds S Q => match ds with
  | [d] => cListF [d] S Q ∨ (opt (keysD S d) fun ys => Q (.rol ys) S)
  | _ => False
theorem cd_listA (hc : X.calm = true) : CallD X (.type "list") cListA := by
  refine ⟨fun ds S Q Q' k h => ?_, fun pins s σ H vs us Q I rv ⟨ds, S, rep, rd, h⟩ => ?_⟩
  · match ds, h with
    | [d], h => exact h.imp ((cd_list (X := X)).mono _ _ _ _ k) (opt_mono (fun _ h => fun p hp => k _ _ (h p hp)))
  · match ds, h with
    | [d], .inl h => exact cd_list.run pins s σ H vs us Q I rv ⟨[d], S, rep, rd, h⟩
    | [d], .inr h =>
      obtain ⟨ks, e, hQ⟩ := opt_ex h
      obtain ⟨a, ob, rfl, ea, ek⟩ := keysD_ex e
      obtain ⟨v, rfl, r⟩ := rds1 rd
      cases r
      rw [Vals.ref1 rv]
      obtain ⟨es, ep, xs, dr, lo, hz, vx, rx⟩ := keys_raw I (rep a ob ea) ek
      refine kdl_call (KdlSrc.rawDict lo) (I.ok.hd hc) dr hz fun h' tk acc c' hk hD hacc => ?_
      have eacc := items_keys hacc
      have hn : H s.heap.objs.size = none := I.hok.fresh (Nat.le_refl _)
      have le : LeH H (upd H s.heap.objs.size (.lst xs)) := LeH.new hn
      rw [← eacc] at vx
      have hyl : xs.length ≤ sizeLine := by rw [vx.length, Array.length_toList, hacc.1]; exact hz
      exact ⟨.ref s.heap.objs.size, upd H s.heap.objs.size (.lst xs), I.laid (t' := tk) hk (Nat.le_refl _) ⟨hyl, acc.toList, c', vx, by rw [Array.toArray_toList]; exact hD⟩, rfl,
        hQ s.heap.objs.size (rep.free hn) _ _ le (rep.new hn ⟨xs, upd_same, rx.le le⟩) rfl⟩
theorem cd_listAF (hc : X.calm = true) : CallD X (.type "list") cListAF := (cd_fz (cd_listA hc)).sub (fun ds S Q Q' k h => by
    unfold cListAF at h ⊢
    split at h
    · exact h.imp ((cd_listF (X := X)).mono _ _ _ _ k) (opt_mono (fun _ h => k _ _ h))
    · exact h) fun ds S Q h => by
    unfold cListAF at h
    unfold cFz cListA
    split at h
    · rename_i d
      refine h.imp (fun z => ?_) (opt_mono (fun _ h => fun p hp => fzK_new hp h))
      unfold cListF at z
      unfold cList
      split at z
      · rename_i e; cases e; exact fun p hp => fzK_new hp z
      · rename_i d' _ e
        cases e
        obtain ⟨xs, e, q⟩ := opt_ex z
        clear z
        cases d with
        | rol ys => cases e; exact fun p hp => fzK_new hp q
        | ref a =>
          revert e
          show (match S a with | some (.lst xs) => some xs | _ => none) = some xs → (match S a with | some (.lst xs) => _ | _ => False)
          split
          · intro e; cases e; exact fun p hp => fzK_new hp q
          · intro e; cases e
        | _ => cases e
      · exact z.elim
    · exact h
end
/-! ### get, pop, setdefault of dicts -/
@[simp] def lkO (ob : Ob) (k : D) : Option (Option D) := match ob with
  | .dK kvs => (dkey k).map fun kk => lk kvs kk
  | .dN kvs => if okT k = true then some (lk kvs k) else none
  | _ => none
@[simp] def drO (ob : Ob) (k : D) : Option Ob := match ob with
  | .dK kvs => (dkey k).map fun kk => .dK (dr kvs kk)
  | .dN kvs => if okT k = true then some (.dN (dr kvs k)) else none
  | _ => none
@[simp] def mDGet : RMD := fun d ds S Q => match d with
  | .ref a => opt (S a) fun ob => match ds with
    | [k] => opt (lkO ob k) fun o => Q (o.getD .non) S
    | [k, x] => opt (lkO ob k) fun o => Q (o.getD x) S
    | _ => False
  | _ => False
@[simp] def mDPop : RMD := fun d ds S Q => match d with
  | .ref a => opt (S a) fun ob => match ds with
    | [k] => opt (lkO ob k) fun o => opt o fun x => opt (drO ob k) fun ob' => Q x (upo S a ob')
    | [k, x] => opt (lkO ob k) fun o => (match o with | some y => opt (drO ob k) fun ob' => Q y (upo S a ob') | none => Q x S)
    | _ => False
  | _ => False
@[simp] def mDSet : RMD := fun d ds S Q => match d with
  | .ref a => opt (S a) fun ob => match ds with
    | [k, x] => opt (lkO ob k) fun o => (match o with | some y => Q y S | none => opt (putO ob k x) fun ob' => Q x (upo S a ob'))
    | _ => False
  | _ => False
section
variable {X : Cx} {pins : List (Addr × Obj)} {σ : L2.St} {H : Hp} {s : Shared} {a : Addr}
end
/-! ### a, b = a tuple or a list -/
@[simp] def dGTupA (n : Nat) (t : DTGs) : DTG := fun d τ S Q => match d with
  | .tup ds => ds.length = n ∧ t ds τ S Q
  | d => opt (seqD S d) fun ds => ds.length = n ∧ t ds τ S Q
section
variable {X : Cx} {pos : Pos} {ts : DTGs}
theorem dg_tupA {es : List Expr} {k : Nat} {n : Nat} (hc : X.calm = true) (h : DGs X es ts) (hn : (assignEach es X.env).length = n := by rfl) (hst : (assignEach es X.env).findIdx? (·.1) = none := by rfl) : DG X (.Tuple es k pos) (dGTupA n ts) := by
  have two : PG X (.Tuple es k pos) fun v σ H Q => gTup X.K n (upGs X ts) v σ H Q ∨ gLst X.K n (upGs X ts) v σ H Q :=
    ⟨fun pins s σ H v u Q I r q => q.elim ((pg_tup hc h.run hn hst).run pins s σ H v u Q I r) ((pg_lst hc h.run hn hst).run pins s σ H v u Q I r)⟩
  refine ⟨fun d τ S Q Q' k q => ?_, pG_imp two fun v σ H Q ⟨d, τ, S, r, rd, q⟩ => ?_⟩
  · have o : ∀ d : D, (opt (seqD S d) fun ds => ds.length = n ∧ ts ds τ S Q) → (opt (seqD S d) fun ds => ds.length = n ∧ ts ds τ S Q') := fun d q => opt_mono (fun _ q => ⟨q.1, h.mono _ _ _ _ _ k q.2⟩) q
    cases d with
    | tup ds => exact ⟨q.1, h.mono _ _ _ _ _ k q.2⟩
    | non => exact o .non q
    | bl b => exact o (.bl b) q
    | int b => exact o (.int b) q
    | str b => exact o (.str b) q
    | rol b => exact o (.rol b) q
    | ref b => exact o (.ref b) q
  · have lst : ∀ {d : D}, RD X.K H d v → (opt (seqD S d) fun ds => ds.length = n ∧ ts ds τ S fun τ' S' => ∀ σ' H', LeH H H' → Rel X.w X.K τ' S' σ' H' → Q σ' H') → gLst X.K n (upGs X ts) v σ H Q := fun rd q => by
      obtain ⟨ds, e, q⟩ := opt_ex q
      obtain ⟨a, xs, rfl, sq, rs⟩ := seqD_rd r.rep rd e
      exact ⟨a, xs, rfl, sq.l, by rw [← rs.length]; exact q.1, ds, τ, S, r, rs, q.2⟩
    cases d with
    | tup ds =>
      obtain ⟨p, xs, rfl, sq, rds⟩ : ∃ p xs, v = V.ref p ∧ SqT X.K H p xs ∧ RDs X.K H ds xs := rd
      exact .inl ⟨p, xs, rfl, sq, by rw [← rds.length]; exact q.1, ds, τ, S, r, rds, q.2⟩
    | non => exact .inr (lst rd q)
    | bl _ => exact .inr (lst rd q)
    | int _ => exact .inr (lst rd q)
    | str _ => exact .inr (lst rd q)
    | rol _ => exact .inr (lst rd q)
    | ref _ => exact .inr (lst rd q)
end
end Dt
set_option maxRecDepth 100000
set_option maxHeartbeats 4000000
/-! DatK: set(t) of a tuple, sorted(set(t)). -/
namespace Dt
open PySem PySem.Spec L2 PySem.W PyProof.Rows
section
variable {P : Program} {w : World} {A : Around} {E : Value → Shared → Prop} {s : Shared} {a : Addr} {ks : List Key}
set_option maxHeartbeats 8000000 in
/-- set(xs): ints and texts -/
theorem call_ksT {l : Addr} {items : Array Value} {all : List Key} {Q : Value → Shared → Prop} (hh : A.handled = none) (hl : s.heap.IsTuple l items) (hit : EachIs (fun v k => keyIs k v = true) items.toList all) (hb : all.length + 1 < scanBound)
    (h : ∀ (h' : Heap) (tk : Nat), SetKs w h' s.heap.objs.size (firstK all) → (∀ b o, b < s.heap.objs.size → s.heap.get? b = some o → h'.get? b = some o) → Q (.ref s.heap.objs.size) { s with heap := h', toks := tk }) :
    wpAny (model P w) A (call (.type "set") [.ref l]) Q E s := by
  have hn : items.size = all.length := by rw [← Array.length_toList, hit.length]
  obtain ⟨c, tl, hmro⟩ := F.called_set.mro
  have hmade := F.called_set.made; have hsub := F.called_set.sub
  refine wpAny_call (codeAny_of_tree (show wpAny _ _ (callAny (.type "set") _) _ _ _ from wpAny_pure ⟨Code.quiet_builtin _ (by decide +kernel), codeAny_builtin F.entry_type_call ?_⟩))
  rw [Around.under_plain (weight_type_call_type "set" [.ref l] []) rfl]
  have h1 := F.called_set.notType; have h2 := F.called_set.canCreate; have hct := F.typeCall_set_1 (.ref l)
  repeat (any_goals (first | assumption | wp_step))
  refine codeAny_mono (code_set_led1 (.ref l) (E := E) (Q₁ := fun obj s₁ => obj = .ref s.heap.objs.size ∧ s₁ = { s with heap := s.heap.push (newSet w) }) ⟨rfl, rfl⟩) fun r s₁ hr => ?_
  match r, hr with
  | .error e, hr => exact hr
  | .ok .next, hr => exact hr.elim
  | .ok .brk, hr => exact hr.elim
  | .ok .cont, hr => exact hr.elim
  | .ok (.ret obj), ⟨e1, e2⟩ =>
    subst e1; subst e2
    have hS : (s.heap.push (newSet w)).get? s.heap.objs.size = some (newSet w) := Heap.get?_push_size _ rfl
    have hT : Shared.TypeIs { s with heap := s.heap.push (newSet w) } (.ref s.heap.objs.size) "set" := ⟨_, hS, rfl⟩
    have hli := F.called_set.init.lookup; have hbi := F.called_set.init.bind (.ref s.heap.objs.size)
    repeat (any_goals (first | assumption | wp_step))
    refine codeAny_mono (codeAny_call_builtin (R := wants (fun r s₂ => r = .none ∧ ∃ h' tk, s₂ = { s with heap := h', toks := tk } ∧ SetKs w h' s.heap.objs.size (firstK all) ∧ ∀ b o, b < s.heap.objs.size → s.heap.get? b = some o → h'.get? b = some o) E) F.called_set.init.plain F.entry_set_init (check_set_init_1 hT ?_)) fun r₂ s₂ hr₂ => ?_
    · obtain ⟨⟨ocls, odict, odata, oslots⟩, hol, hcl, nl, hdl⟩ := hl
      simp only at hcl hdl
      subst hcl; subst hdl
      have hol' : (s.heap.push (newSet w)).get? l = some { cls := .type "tuple", dict := odict, data := .seq items nl, slots := oslots } := Heap.get?_push_of_some _ hol
      have hsls := F.sub_tuple_set; have hslf := F.sub_tuple_frozenset; have hne : (Value.type "tuple" == Value.type "dict") = false := by decide
      have hl1 : (s.heap.push (newSet w)).IsTuple l items := ⟨_, hol', rfl, nl, rfl⟩
      unfold Builtin.«set.__init__» noKeywords Builtin.Frozenset.updateFrom
      (generalize hPI : pyIter = PI; wp_walk; subst hPI)
      refine wpAny_pyIter_tuple hl1 (wpAny_bind (wpAny_runValue ?_))
      have hlS : l < s.heap.objs.size := Heap.lt_size hol
      have hh3 : A.in1.in1.in1.handled = none := by simp [hh]
      have hz : (s.heap.push (newSet w)).objs.size = s.heap.objs.size + 1 := Heap.size_push ..
      have hneI : l ≠ (s.heap.push (newSet w)).objs.size := fun z => absurd hlS (by rw [z, Heap.size_push]; exact Nat.not_lt_of_le (Nat.le_succ _))
      have hSf : s.heap.objs.size ∉ [(s.heap.push (newSet w)).objs.size, l] := by
        rw [Heap.size_push]
        simp only [List.mem_cons, List.not_mem_nil, or_false, not_or]
        exact ⟨fun z => absurd z (Nat.ne_of_lt (Nat.lt_succ_self _)), fun z => absurd hlS (by rw [← z]; exact Nat.lt_irrefl _)⟩
      have hval : ∀ (i : Nat) (v : Value), items[i]? = some v → ∃ k, all[i]? = some k ∧ keyIs k v = true := fun i v hv => by
        rw [← Array.getElem?_toList] at hv
        exact each_get hit hv
      refine ks_loop (B := s.heap.objs.size) (all := all) ((Walks.tuple hh3 _ l hneI items).toS) hSf hn hval (by omega) (fun s' s0 hm hS' e0 => ?_) (items.size - 0) 0 _ (by omega) (Nat.zero_le _) ⟨⟨_, Heap.get?_push_size _ rfl, rfl, rfl⟩, (hl1.push _)⟩ (ks_none (Heap.get?_push_of_some _ hS)) (fun _ z => z)
      subst e0
      obtain ⟨h', g', d', tk', os'⟩ := s'
      have eg : g' = s.gens := hm.gens
      have ed : d' = s.drawn := hm.drawn
      have eo : os' = s.os := hm.os
      subst eg; subst ed; subst eo
      refine (show wpAny _ _ _ _ _ _ from wpAny_pure (show wpAny _ _ (ret Value.none) _ _ _ from wpAny_pure ⟨rfl, h', tk', rfl, hS', fun b o hb e => ?_⟩))
      exact hm.heap b o (by rw [Heap.size_push]; simp only [List.mem_cons, List.not_mem_nil, or_false, not_or]; exact ⟨Nat.ne_of_lt hb, Nat.ne_of_lt (Nat.lt_succ_of_lt hb)⟩) (Heap.get?_push_of_some _ (Heap.get?_push_of_some _ e))
    · match r₂, hr₂ with
      | .error e, hr₂ => exact hr₂
      | .ok .next, hr₂ => exact hr₂.elim
      | .ok .brk, hr₂ => exact hr₂.elim
      | .ok .cont, hr₂ => exact hr₂.elim
      | .ok (.ret r), ⟨e1, h', tk, e2, hS', hk'⟩ =>
        subst e1; subst e2
        repeat (any_goals (first | assumption | wp_step))
        exact h _ _ hS' hk'
end
end Dt

namespace Dt
open PySem PySem.Spec L2 PySem.W PyProof.Rows
/-- the row of a tuple or a list -/
def rowD (S : DH) (d : D) : Option (List D) := match d with | .tup xs => some xs | d => seqD S d
@[simp] theorem rowD_tup (S : DH) (xs : List D) : rowD S (.tup xs) = some xs := rfl
@[simp] theorem rowD_rol (S : DH) (xs : List D) : rowD S (.rol xs) = some xs := rfl
@[simp] theorem rowD_ref (S : DH) (a : Addr) : rowD S (.ref a) = (match S a with | some (.lst xs) => some xs | _ => none) := rfl
section
variable {X : Cx}
def rSetKsA (K : PySem.W.Frag) (w : World) : List V → Hp → VK → Prop := fun vs H Q => ∃ (a : Addr) (all : List Key), vs = [.ref a] ∧ (SqL K H a (all.map kV) ∨ SqT K H a (all.map kV)) ∧ all.length + 1 < scanBound ∧ ∀ p, H p = none → Q (.ref p) (upd H p (setHO w p (firstK all)))
theorem cr_setKsA (hc : X.calm = true) : CallR X (.type "set") (rSetKsA X.K X.w) := by
  intro pins s σ H vs us Q I r ⟨a, all, e, sq, hb, q⟩
  subst e
  rcases sq with sq | sq
  · exact cr_setKs hc pins s σ H _ us Q I r ⟨a, all, rfl, sq, hb, q⟩
  · obtain ⟨its, rv, hl, hz⟩ := I.tuple sq
    rw [Vals.ref1 r]
    refine call_ksT (I.ok.hd hc) (show s.heap.IsTuple a its.toArray from hl) (by simpa using each_keyV X.prog X.w rv) hb fun h' tk S k => ?_
    exact ⟨.ref _, upd H s.heap.objs.size (setHO X.w s.heap.objs.size (firstK all)), I.laid (t' := tk) (fun b u e => k b u (Heap.lt_size e) e) (Nat.le_refl _) (setHO_ok S), rfl, q _ (I.hok.fresh (Nat.le_refl _))⟩
variable {x y : Str} {e : Expr} {p p' pos pos' : Pos} {t : DTE}
@[simp] def dSortSetA (t : DTE) : DTE := fun E τ S Q => t E τ S fun d S1 => opt (rowD S1 d) fun xs => (∃ b, ∀ d ∈ xs, hasTy (scTy b) d = true) ∧ xs.length + 1 < scanBound ∧ newO S1 (.lst (ssD xs)) fun p S' => Q (.ref p) S'
@[simp] def dSortSetAF (t : DTE) : DTE := fun E τ S Q => t E τ S fun d S1 => opt (rowD S1 d) fun xs => (∃ b, ∀ d ∈ xs, hasTy (scTy b) d = true) ∧ xs.length + 1 < scanBound ∧ Q (.rol (ssD xs)) S1
theorem de_sortSetA (hc : X.calm = true) (hu : X.A.units + 64 < cLine) (hgs : Gl X "sorted") (hms : X.mg "sorted" = none) (hgt : Gl X "set") (hmt : X.mg "set" = none) (hbs : bootBuiltins "sorted" = some (.builtin "sorted")) (hbt : bootBuiltins "set" = some (.type "set")) (he : DE X e t)
    (h1 : starEach [e] X.env = (false, eval e X.env) :: starEach [] X.env := by rfl) (h2 : starEach [Expr.Call (.Name "set" p') [e] [] pos'] X.env = (false, eval (Expr.Call (.Name "set" p') [e] [] pos') X.env) :: starEach [] X.env := by rfl) :
    DE X (.Call (.Name "sorted" p) [.Call (.Name "set" p') [e] [] pos'] [] pos) (dSortSetA t) := by
  refine ⟨fun E E' τ S Q Q' hE k q => he.mono _ _ _ _ _ _ hE (fun d S1 q => opt_mono (fun _ q => ⟨q.1, q.2.1, fun p hp => k _ _ (q.2.2 p hp)⟩) q) q, pE_imp (pe_callB (cr_sortKs hc hu) hgs hms hbs (pa_cons (pe_callTy (cr_setKsA hc) hgt hmt hbt (pa_cons he.run pa_nil h1) (by decide) (by decide) h1 rfl) pa_nil h2) (by decide) (by decide) h2 rfl) fun σ H Q ⟨E, τ, S, w, rl, q⟩ => ?_⟩
  refine he.to w rl q fun d S1 v H1 le w1 r1 rd q => ?_
  obtain ⟨xs, ex, ⟨b, hb⟩, hl, q⟩ := opt_ex q
  have ht : scTy b = .int ∨ scTy b = .str := by cases b; exact .inr rfl; exact .inl rfl
  obtain ⟨all, rfl⟩ := keys_of ht hb
  have hal : AllAlike (all.map keyP) := fun p hp q hq => by
    obtain ⟨j, hj, rfl⟩ := List.mem_map.mp hp
    obtain ⟨k, hk, rfl⟩ := List.mem_map.mp hq
    rw [keyP_D, keyP_D]
    exact hasTy_alike _ _ _ (hb _ (List.mem_map_of_mem hj)) (hb _ (List.mem_map_of_mem hk))
  obtain ⟨a, rfl, sq⟩ : ∃ a, v = .ref a ∧ (SqL X.K H1 a (all.map kV) ∨ SqT X.K H1 a (all.map kV)) := by
    cases d with
    | tup ds =>
      cases ex
      obtain ⟨a, ys, rfl, sq, rs⟩ : ∃ a ys, v = V.ref a ∧ SqT X.K H1 a ys ∧ RDs X.K H1 (all.map keyD) ys := rd
      exact ⟨a, rfl, .inr (rds_keys rs ▸ sq)⟩
    | rol ds =>
      cases ex
      obtain ⟨a, ys, rfl, sq, rs⟩ : ∃ a ys, v = V.ref a ∧ SqR X.K H1 a ys ∧ RDs X.K H1 (all.map keyD) ys := rd
      exact ⟨a, rfl, .inl (rds_keys rs ▸ sq.l)⟩
    | ref a =>
      simp only [rowD_ref] at ex
      split at ex
      · rename_i ys ea
        cases ex
        obtain ⟨zs, e0, rs⟩ : ∃ zs, H1 a = some (.lst zs) ∧ RDs X.K H1 (all.map keyD) zs := r1.rep a _ ea
        exact ⟨a, rd, .inl (rds_keys rs ▸ .of e0)⟩
      · cases ex
    | non => cases ex
    | bl _ => cases ex
    | int _ => cases ex
    | str _ => cases ex
  refine ⟨a, all, rfl, sq, by simpa using hl, fun p hp => ⟨p, firstK all, rfl, upd_same, alike_first hal, fun bs pb q' hq => ?_⟩⟩
  have rg := r1.rep.garb (u := setHO X.w p (firstK all)) hp
  have e : (bs.mergeSort (dataLe false keyP)).map keyD = ssD (all.map keyD) := by
    refine (ss_is (t := scTy b) hb (nodup_mapD ((List.mergeSort_perm ..).nodup_iff.mpr (pb.nodup_iff.mpr (first_nodup all)))) (key_sorted (t := .int)) fun x => ?_).symm
    rw [List.mem_map, List.mem_map]
    constructor
    · rintro ⟨k, hk, rfl⟩
      exact ⟨k, (List.mergeSort_perm ..).mem_iff.mpr (pb.mem_iff.mpr (first_mem.mpr hk)), rfl⟩
    · rintro ⟨k, hk, rfl⟩
      exact ⟨k, first_mem.mp (pb.mem_iff.mp ((List.mergeSort_perm ..).mem_iff.mp hk)), rfl⟩
  exact q q' (rg.free hq) _ _ (le.trans ((LeH.new hp).trans (LeH.new hq))) (rg.new hq ⟨_, upd_same, by rw [← e]; exact keys_rds _⟩) rfl
theorem de_sortSetAF (hc : X.calm = true) (hu : X.A.units + 64 < cLine) (hgs : Gl X "sorted") (hms : X.mg "sorted" = none) (hgt : Gl X "set") (hmt : X.mg "set" = none) (hbs : bootBuiltins "sorted" = some (.builtin "sorted")) (hbt : bootBuiltins "set" = some (.type "set")) (he : DE X e t)
    (h1 : starEach [e] X.env = (false, eval e X.env) :: starEach [] X.env := by rfl) (h2 : starEach [Expr.Call (.Name "set" p') [e] [] pos'] X.env = (false, eval (Expr.Call (.Name "set" p') [e] [] pos') X.env) :: starEach [] X.env := by rfl) :
    DE X (.Call (.Name "sorted" p) [.Call (.Name "set" p') [e] [] pos'] [] pos) (dSortSetAF t) :=
  (de_fz (de_sortSetA hc hu hgs hms hgt hmt hbs hbt he h1 h2)).sub (fun E E' τ S Q Q' hE k q => he.mono _ _ _ _ _ _ hE (fun d S1 q => opt_mono (fun _ q => ⟨q.1, q.2.1, k _ _ q.2.2⟩) q) q) fun E τ S Q q => he.mono _ _ _ _ _ _ (fun _ _ _ _ z => z) (fun d S1 q => opt_mono (fun _ q => ⟨q.1, q.2.1, fun p hp => fzK_new hp q.2.2⟩) q) q
end
end Dt
set_option maxRecDepth 100000
set_option maxHeartbeats 4000000
/-! DatZ: what repr takes; patterns as trees. -/
namespace Dt
open PySem PySem.Spec L2
/-! ### repr -/
mutual
/-- may be shown -/
def rp : D → Bool
  | .non => true
  | .bl _ => true
  | .int i => decide (i.natAbs.log2 < 1920) && decide ((PyData.shown (.int i)).length ≤ 13)
  | .str x => PyData.strOk x
  | .tup ds => rps ds
  | .rol ds => rps ds
  | .ref _ => false
def rps : List D → Bool
  | [] => true
  | d :: ds => rp d && rps ds
end
mutual
def wgt : D → Nat
  | .str x => x.length
  | .int i => i.natAbs.log2 + 1
  | .tup ds => wgts ds
  | .rol ds => wgts ds
  | _ => 0
def wgts : List D → Nat
  | [] => 0
  | d :: ds => wgt d + 1 + wgts ds
end
mutual
theorem rp_show : ∀ d : D, rp d = true → imm d = true ∧ (toP d).showable = true ∧ (toP d).leavesShort 13 = true ∧ (toP d).weight ≤ wgt d
  | .non, _ => ⟨rfl, rfl, rfl, Nat.le_refl _⟩
  | .bl _, _ => ⟨rfl, rfl, rfl, Nat.le_refl _⟩
  | .int i, h => by
    simp only [rp, Bool.and_eq_true, decide_eq_true_eq] at h
    refine ⟨rfl, by simpa [toP, PyData.showable] using h.1, by simpa [toP, PyData.leavesShort] using h.2, ?_⟩
    show (if (i == 0) = true then 0 else i.natAbs.log2 + 1) ≤ _
    split
    · exact Nat.zero_le _
    · exact Nat.le_refl _
  | .str x, h => by
    refine ⟨rfl, rfl, ?_, Nat.le_refl _⟩
    show (x.cps.toList.all fun c => decide (c < 16 ^ 8)) = true
    have h' : x.cps.all (· < 0x110000) = true := h
    rw [← Array.all_toList, List.all_eq_true] at h'
    rw [List.all_eq_true]
    exact fun c hc => decide_eq_true (Nat.lt_trans (of_decide_eq_true (h' c hc)) (by decide))
  | .tup ds, h => rps_show ds h
  | .rol ds, h => rps_show ds h
theorem rps_show : ∀ ds : List D, rps ds = true → imms ds = true ∧ PyData.showableAll (toPs ds) = true ∧ PyData.leavesShortAll 13 (toPs ds) = true ∧ PyData.weightAll (toPs ds) ≤ wgts ds
  | [], _ => ⟨rfl, rfl, rfl, Nat.le_refl _⟩
  | d :: ds, h => by
    have h' : (rp d && rps ds) = true := h
    rw [Bool.and_eq_true] at h'
    obtain ⟨a1, a2, a3, a4⟩ := rp_show d h'.1
    obtain ⟨b1, b2, b3, b4⟩ := rps_show ds h'.2
    refine ⟨?_, ?_, ?_, ?_⟩
    · show (imm d && imms ds) = true
      rw [a1, b1]; rfl
    · show ((toP d).showable && PyData.showableAll (toPs ds)) = true
      rw [a2, b2]; rfl
    · show ((toP d).leavesShort 13 && PyData.leavesShortAll 13 (toPs ds)) = true
      rw [a3, b3]; rfl
    · show (toP d).weight + 1 + PyData.weightAll (toPs ds) ≤ wgt d + 1 + wgts ds
      omega
end
structure Rp (d : D) : Prop where
  rp : rp d = true
  w : wgt d ≤ 2 ^ 20
  d : dep d ≤ 100
mutual
theorem Vw.pd {S : DH} {F : List Addr} : ∀ {d e : D}, Vw S F d e → imm e = true → Pd S d (toP e)
  | _, _, .same d, h => imm_pd S d h
  | _, _, .lst h1 _ h3, h => .lst h1 (Vws.pd h3 h)
  | _, _, .tup hs, h => .tup (Vws.pd hs h)
  | _, _, .rol hs, h => .rol (Vws.pd hs h)
theorem Vws.pd {S : DH} {F : List Addr} : ∀ {ds es : List D}, Vws S F ds es → imms es = true → PdA S ds (toPs es)
  | _, _, .nil, _ => .nil
  | _, _, .cons (e := e) (es := es) h1 h2, h => by
    have h' : (imm e && imms es) = true := h
    rw [Bool.and_eq_true] at h'
    exact .cons (Vw.pd h1 h'.1) (Vws.pd h2 h'.2)
end
/-! ### patterns -/
inductive Pt where
  | stay | step (on : Bool) (w : Str) | mark (at_ : Bool) (m : Str) | seq (then_ : Bool) (ps : List Pt) | many (p : Pt)
mutual
def ptD : Pt → D
  | .stay => .tup [.str "stay"]
  | .step b w => .tup [.str "step", .str (if b then "on" else "back"), .str w]
  | .mark b m => .tup [.str (if b then "at" else "off"), .str m]
  | .seq b ps => .tup [.str (if b then "then" else "either"), .tup (ptDs ps)]
  | .many p => .tup [.str "many", ptD p]
def ptDs : List Pt → List D
  | [] => []
  | p :: ps => ptD p :: ptDs ps
end
theorem ptDs_map (ps : List Pt) : ptDs ps = ps.map ptD := by
  induction ps with
  | nil => rfl
  | cons p ps ih => show ptD p :: ptDs ps = _; rw [ih]; rfl
namespace Pt
def kids : Pt → List Pt
  | .seq _ ps => ps
  | .many p => [p]
  | _ => []
def isLeaf : Pt → Bool
  | .seq _ _ => false
  | .many _ => false
  | _ => true
mutual
/-- a pattern and all within it, the outer ones ahead -/
def all : Pt → List Pt
  | .seq b ps => .seq b ps :: alls ps
  | .many p => .many p :: all p
  | .stay => [.stay]
  | .step b w => [.step b w]
  | .mark b m => [.mark b m]
def alls : List Pt → List Pt
  | [] => []
  | p :: ps => all p ++ alls ps
end
mutual
/-- the same, the inner ones ahead -/
def post : Pt → List Pt
  | .seq b ps => posts ps ++ [.seq b ps]
  | .many p => post p ++ [.many p]
  | .stay => [.stay]
  | .step b w => [.step b w]
  | .mark b m => [.mark b m]
def posts : List Pt → List Pt
  | [] => []
  | p :: ps => post p ++ posts ps
end
mutual
/-- how many within one another -/
def deep : Pt → Nat
  | .seq _ ps => deeps ps + 1
  | .many p => deep p + 1
  | _ => 1
def deeps : List Pt → Nat
  | [] => 0
  | p :: ps => max (deep p) (deeps ps)
end
theorem deep_seq (b : Bool) (ps : List Pt) : deep (.seq b ps) = deeps ps + 1 := rfl
theorem deep_many (p : Pt) : deep (.many p) = deep p + 1 := rfl
theorem deeps_nil : deeps [] = 0 := rfl
theorem deeps_cons (p : Pt) (ps : List Pt) : deeps (p :: ps) = max (deep p) (deeps ps) := rfl
theorem all_seq (b : Bool) (ps : List Pt) : all (.seq b ps) = .seq b ps :: alls ps := rfl
theorem all_many (p : Pt) : all (.many p) = .many p :: all p := rfl
theorem alls_nil : alls [] = [] := rfl
theorem alls_cons (p : Pt) (ps : List Pt) : alls (p :: ps) = all p ++ alls ps := rfl
theorem alls_flat (ps : List Pt) : alls ps = ps.flatMap all := by
  induction ps with
  | nil => rfl
  | cons p ps ih => show all p ++ alls ps = _; rw [ih]; rfl
theorem all_kids (p : Pt) : all p = p :: p.kids.flatMap all := by
  cases p <;> simp [all, kids, alls_flat]
mutual
theorem post_all : ∀ p : Pt, (post p).Perm (all p)
  | .seq b ps => by
    show (posts ps ++ [Pt.seq b ps]).Perm (Pt.seq b ps :: alls ps)
    exact (List.perm_append_singleton _ _).trans ((posts_alls ps).cons _)
  | .many p => by
    show (post p ++ [Pt.many p]).Perm (Pt.many p :: all p)
    exact (List.perm_append_singleton _ _).trans ((post_all p).cons _)
  | .stay => List.Perm.refl _
  | .step _ _ => List.Perm.refl _
  | .mark _ _ => List.Perm.refl _
theorem posts_alls : ∀ ps : List Pt, (posts ps).Perm (alls ps)
  | [] => List.Perm.refl _
  | p :: ps => (post_all p).append (posts_alls ps)
end
theorem self_all (p : Pt) : p ∈ all p := by rw [all_kids]; exact List.mem_cons_self
theorem all_pos (p : Pt) : 1 ≤ (all p).length := List.length_pos_of_mem (self_all p)
/-- names are names -/
def okP (P : Str → Prop) : Pt → Prop := fun p => ∀ q ∈ all p, match q with | .step _ w => w = "*" ∨ P w | .mark _ m => P m | _ => True
end Pt
theorem nm_ok {x : Str} (h : Nm x) : PyData.strOk x = true := by
  unfold PyData.strOk
  rw [← Array.all_toList, List.all_eq_true]
  exact fun c hc => decide_eq_true (Nat.lt_of_le_of_lt (h.2.2 c hc).2 (by decide))
theorem ok_lit (s : String) (h : PyData.strOk (Str.ofString s) = true := by decide +kernel) : PyData.strOk (Str.ofString s) = true := h
theorem okP_kids {P : Str → Prop} {p q : Pt} (h : p.okP P) (hq : q ∈ p.kids) : q.okP P := fun r hr => h r (by
  rw [Pt.all_kids]
  exact List.mem_cons_of_mem _ (List.mem_flatMap.mpr ⟨q, hq, hr⟩))
mutual
theorem pt_sm : ∀ (p : Pt), p.okP Nm → Sm (2 * p.deep) (ptD p)
  | .stay, _ => by
    refine Sm_tup.mpr fun d hd => ?_
    rw [List.mem_singleton.mp hd]
    exact Sm_str.mpr (ok_lit "stay")
  | .step b w, h => by
    refine Sm_tup.mpr fun d hd => ?_
    have hw := h _ (Pt.self_all _)
    simp only [List.mem_cons, List.not_mem_nil, or_false] at hd
    rcases hd with rfl | rfl | rfl
    · exact Sm_str.mpr (ok_lit "step")
    · cases b
      · exact Sm_str.mpr (ok_lit "back")
      · exact Sm_str.mpr (ok_lit "on")
    · rcases hw with rfl | hw
      · exact Sm_str.mpr (ok_lit "*")
      · exact Sm_str.mpr (nm_ok hw)
  | .mark b m, h => by
    refine Sm_tup.mpr fun d hd => ?_
    have hw := h _ (Pt.self_all _)
    simp only [List.mem_cons, List.not_mem_nil, or_false] at hd
    rcases hd with rfl | rfl
    · cases b
      · exact Sm_str.mpr (ok_lit "off")
      · exact Sm_str.mpr (ok_lit "at")
    · exact Sm_str.mpr (nm_ok hw)
  | .seq b ps, h => by
    show Sm (2 * (Pt.deeps ps + 1)) _
    rw [show 2 * (Pt.deeps ps + 1) = (2 * Pt.deeps ps + 1) + 1 by omega]
    have hs := pts_sm ps fun q hq => okP_kids h hq
    refine Sm_tup.mpr fun d hd => ?_
    simp only [List.mem_cons, List.not_mem_nil, or_false] at hd
    rcases hd with rfl | rfl
    · cases b
      · exact Sm_str.mpr (ok_lit "either")
      · exact Sm_str.mpr (ok_lit "then")
    · exact Sm_tup.mpr hs
  | .many p, h => by
    show Sm (2 * (Pt.deep p + 1)) _
    rw [show 2 * (Pt.deep p + 1) = (2 * Pt.deep p + 1) + 1 by omega]
    have hs := pt_sm p (okP_kids h (List.mem_singleton.mpr rfl))
    refine Sm_tup.mpr fun d hd => ?_
    simp only [List.mem_cons, List.not_mem_nil, or_false] at hd
    rcases hd with rfl | rfl
    · exact Sm_str.mpr (ok_lit "many")
    · exact hs.mono (by omega)
theorem pts_sm : ∀ (ps : List Pt), (∀ p ∈ ps, p.okP Nm) → ∀ d ∈ ptDs ps, Sm (2 * Pt.deeps ps) d
  | [], _, _, hd => nomatch hd
  | p :: ps, h, d, hd => by
    have e : Pt.deeps (p :: ps) = max p.deep (Pt.deeps ps) := rfl
    rcases List.mem_cons.mp hd with rfl | hd
    · exact (pt_sm p (h p (List.mem_cons_self ..))).mono (by rw [e]; omega)
    · exact (pts_sm ps (fun q hq => h q (List.mem_cons_of_mem _ hq)) d hd).mono (by rw [e]; omega)
end
mutual
theorem pt_rp : ∀ (p : Pt), p.okP Nm → rp (ptD p) = true ∧ wgt (ptD p) ≤ 31 * p.all.length - 1
  | .stay, _ => ⟨by decide +kernel, by decide +kernel⟩
  | .step b w, h => by
    have hw := h _ (Pt.self_all _)
    have h1 : PyData.strOk w = true ∧ w.length ≤ 8 := by
      rcases hw with rfl | hw
      · exact ⟨ok_lit "*", by decide +kernel⟩
      · exact ⟨nm_ok hw, hw.2.1⟩
    refine ⟨?_, ?_⟩
    · cases b <;> simp only [ptD, rp, rps, h1.1, Bool.and_true, if_true, Bool.false_eq_true, if_false] <;> decide +kernel
    · have e : ∀ x y : Str, wgt (.tup [.str x, .str y, .str w]) = x.length + 1 + (y.length + 1 + (w.length + 1 + 0)) := fun _ _ => rfl
      show wgt (.tup [_, _, _]) ≤ 31 * 1 - 1
      rw [e]
      have l1 : (Str.ofString "step").length = 4 := by decide +kernel
      have l2 : (if b = true then (Str.ofString "on") else (Str.ofString "back")).length ≤ 4 := by cases b <;> decide +kernel
      have := h1.2
      omega
  | .mark b m, h => by
    have hw : Nm m := h _ (Pt.self_all _)
    refine ⟨?_, ?_⟩
    · cases b <;> simp only [ptD, rp, rps, nm_ok hw, Bool.and_true, if_true, Bool.false_eq_true, if_false] <;> decide +kernel
    · have e : ∀ x : Str, wgt (.tup [.str x, .str m]) = x.length + 1 + (m.length + 1 + 0) := fun _ => rfl
      show wgt (.tup [_, _]) ≤ 31 * 1 - 1
      rw [e]
      have l2 : (if b = true then (Str.ofString "at") else (Str.ofString "off")).length ≤ 4 := by cases b <;> decide +kernel
      have := hw.2.1
      omega
  | .seq b ps, h => by
    obtain ⟨h1, h2⟩ := pts_rp ps fun q hq => okP_kids h hq
    refine ⟨?_, ?_⟩
    · cases b <;> simp only [ptD, rp, rps, h1, Bool.and_true, if_true, Bool.false_eq_true, if_false] <;> decide +kernel
    · have e : ∀ x : Str, wgt (.tup [.str x, .tup (ptDs ps)]) = x.length + 1 + (wgts (ptDs ps) + 1 + 0) := fun _ => rfl
      show wgt (.tup [_, _]) ≤ 31 * ((Pt.alls ps).length + 1) - 1
      rw [e]
      have l2 : (if b = true then (Str.ofString "then") else (Str.ofString "either")).length ≤ 6 := by cases b <;> decide +kernel
      omega
  | .many p, h => by
    obtain ⟨h1, h2⟩ := pt_rp p (okP_kids h (List.mem_singleton.mpr rfl))
    refine ⟨?_, ?_⟩
    · simp only [ptD, rp, rps, h1, Bool.and_true]
      decide +kernel
    · have e : ∀ x : Str, wgt (.tup [.str x, ptD p]) = x.length + 1 + (wgt (ptD p) + 1 + 0) := fun _ => rfl
      show wgt (.tup [_, _]) ≤ 31 * ((Pt.all p).length + 1) - 1
      rw [e]
      have l2 : (Str.ofString "many").length = 4 := by decide +kernel
      omega
theorem pts_rp : ∀ (ps : List Pt), (∀ p ∈ ps, p.okP Nm) → rps (ptDs ps) = true ∧ wgts (ptDs ps) ≤ 31 * (Pt.alls ps).length
  | [], _ => ⟨rfl, Nat.le_refl _⟩
  | p :: ps, h => by
    obtain ⟨a1, a2⟩ := pt_rp p (h p (List.mem_cons_self ..))
    obtain ⟨b1, b2⟩ := pts_rp ps fun q hq => h q (List.mem_cons_of_mem _ hq)
    refine ⟨?_, ?_⟩
    · show (rp (ptD p) && rps (ptDs ps)) = true
      rw [a1, b1]; rfl
    · show wgt (ptD p) + 1 + wgts (ptDs ps) ≤ 31 * (Pt.all p ++ Pt.alls ps).length
      have := p.all_pos
      rw [List.length_append]
      omega
end
end Dt
set_option maxRecDepth 100000
set_option maxHeartbeats 4000000
/-! Sh: what many laws have: draws, names, leaves, patterns. -/
namespace Sh
open PySem PySem.Spec L2 Dt
def sp_l_names : DSp := fun ds S Q _ => ∃ (p : Addr) (m n : Nat) (o : Ob), ds = [.ref p, .int (m : Nat)] ∧ m ≤ 8 ∧ S p = some o ∧ FeedOb n o ∧ n < 2 ^ 90 ∧
  ∀ (ys : List Str) (o' : Ob), ys.length = m → (∀ y ∈ ys, Nm y) → ys.Nodup → FeedOb (n + 12) o' → Q (.rol (ys.map D.str)) (upo S p o')
/-- words and marks by draws -/
structure Nms (ws ms : List Str) : Prop where
  w1 : 1 ≤ ws.length
  w8 : ws.length ≤ 8
  m1 : 1 ≤ ms.length
  m8 : ms.length ≤ 8
  w : ∀ w ∈ ws, Nm w
  m : ∀ m ∈ ms, Nm m
abbrev nmsD (e0 : D) (ws ms : List Str) : D := .rol [e0, .rol (ws.map D.str), .rol (ms.map D.str)]
def IsLf (ws ms : List Str) (d : D) : Prop := d = .tup [.str "stay"] ∨ (∃ a m : Str, (a = "at" ∨ a = "off") ∧ m ∈ ms ∧ d = .tup [.str a, .str m]) ∨ ∃ s w : Str, (s = "on" ∨ s = "back") ∧ (w = "*" ∨ w ∈ ws) ∧ d = .tup [.str "step", .str s, .str w]
def sp_l_leaf : DSp := fun ds S Q _ => ∃ (p : Addr) (e0 : D) (ws ms : List Str) (n : Nat) (o : Ob), ds = [.ref p, nmsD e0 ws ms] ∧ Nms ws ms ∧ S p = some o ∧ FeedOb n o ∧ n < 2 ^ 90 ∧
  ∀ (d : D) (o' : Ob), IsLf ws ms d → FeedOb (n + 3) o' → Q d (upo S p o')
theorem sp_l_leaf_mono : SpMono sp_l_leaf := fun ds S Q Q' E E' k _ ⟨p, e0, ws, ms, n, o, h1, h2, h3, h4, h5, h⟩ => ⟨p, e0, ws, ms, n, o, h1, h2, h3, h4, h5, fun d o' a b => k _ _ (h d o' a b)⟩
/-- patterns of so much within one another -/
def IsPat (ws ms : List Str) : Nat → D → Prop
  | 0, d => IsLf ws ms d
  | n + 1, d => IsLf ws ms d ∨ (∃ e, d = .tup [.str "many", e] ∧ IsPat ws ms n e) ∨ ∃ (h : Str) (es : List D), d = .tup [.str h, .tup es] ∧ (h = "then" ∨ h = "either") ∧ es.length ≤ 3 ∧ ∀ e ∈ es, IsPat ws ms n e
theorem IsLf.pat {ws ms : List Str} {d : D} (h : IsLf ws ms d) : ∀ n, IsPat ws ms n d
  | 0 => h
  | _ + 1 => .inl h
def costP : Nat → Nat
  | 0 => 4
  | n + 1 => 5 + 3 * costP n
def sp_l_pattern (k : Nat) : DSp := fun ds S Q _ => ∃ (p : Addr) (e0 : D) (j : Nat) (ws ms : List Str) (n : Nat) (o : Ob), ds = [.ref p, nmsD e0 ws ms, .int (j : Nat)] ∧ Nms ws ms ∧ j ≤ k ∧ S p = some o ∧ FeedOb n o ∧ n + costP k < 2 ^ 90 ∧
  ∀ (d : D) (o' : Ob), IsPat ws ms k d → FeedOb (n + costP k) o' → Q d (upo S p o')
theorem sp_l_pattern_mono (k : Nat) : SpMono (sp_l_pattern k) := fun ds S Q Q' E E' kk _ ⟨p, e0, j, ws, ms, n, o, h1, h0, h2, h3, h4, h5, h⟩ => ⟨p, e0, j, ws, ms, n, o, h1, h0, h2, h3, h4, h5, fun d o' a b => kk _ _ (h d o' a b)⟩
def t_l_cell_at : DTS := (dSeq (dIf (dTest (dOp rLt (dVar 1) (dCB cLen (dCons (dVar 0) dNil))))
      (dRet (dOp dIxS (dVar 0) (dVar 1)))
      dNx)
    (dSeq (dAsg (dC (.int 0)) (dGN 2))
    (dSeq (dIf (dTest (dOp rGt (dCB cLen (dCons (dVar 0) dNil)) (dC (.int 0))))
      (dAsg (dOp dIxS (dVar 0) (dOp rMod (dVar 1) (dCB cLen (dCons (dVar 0) dNil)))) (dGN 2))
      dNx)
    (dRet (dOp dAddF (dOp dAddF (dOp dMul (dOp rMod (dVar 2) (dC (.int 1000003))) (dC (.int 48271))) (dOp dMul (dC (.int 7919)) (dVar 1))) (dC (.int 1)))))))
abbrev N_l_cell_at : List Str := ["_law_script", "_law_k", "_law_seed"]
def t_l_feed : DTS := (dRet (dDisp [("left", (dCB cMax2 (dCons (dC (.int 0)) (dCons (dOp rSub (dVar 0) (dOp rPow (dC (.int 10)) (dC (.int 18)))) dNil)))), ("seed", (dOp rMod (dVar 0) (dC (.int 1000003)))), ("drawn", (dC (.int 0)))]))
abbrev N_l_feed : List Str := ["_law_cell"]
def t_l_next : DTS := (dSeq (dPut (dVar 0) (dC (.str "drawn")) (dOp dAddF (dOp dIxS (dVar 0) (dC (.str "drawn"))) (dC (.int 1))))
    (dSeq (dIf (dTest (dOp rGt (dOp dIxS (dVar 0) (dC (.str "left"))) (dC (.int 0))))
      (dSeq (dAsg (dOp rMod (dOp dIxS (dVar 0) (dC (.str "left"))) (dVar 1)) (dGN 2))
    (dSeq (dPut (dVar 0) (dC (.str "left")) (dOp rFdiv (dOp dIxS (dVar 0) (dC (.str "left"))) (dVar 1)))
    (dRet (dVar 2))))
      dNx)
    (dSeq (dAsg (dOp rMod (dOp dMul (dOp dAddF (dOp dIxS (dVar 0) (dC (.str "seed"))) (dC (.int 1))) (dOp dAddF (dOp dMul (dOp dIxS (dVar 0) (dC (.str "drawn"))) (dOp dIxS (dVar 0) (dC (.str "drawn")))) (dC (.int 48271)))) (dC (.int 65537))) (dGN 3))
    (dSeq (dAsg (dOp rMod (dOp dAddF (dOp dMul (dVar 3) (dVar 3)) (dOp dMul (dC (.int 30269)) (dOp dIxS (dVar 0) (dC (.str "drawn"))))) (dC (.int 65521))) (dGN 4))
    (dRet (dOp rMod (dOp rMod (dOp dAddF (dOp dMul (dVar 4) (dVar 4)) (dOp dMul (dC (.int 40503)) (dVar 3))) (dC (.int 65519))) (dVar 1)))))))
abbrev N_l_next : List Str := ["_law_feed_here", "_law_many", "_law_found", "_law_one", "_law_two"]
def t_l_names : DTS := (dSeq (dAsg (dC (.str "abcdefghijklmnopqrstuvwxyz")) (dGN 2))
    (dSeq (dAsg (dBM "str" mJoin (dC (.str "")) (dCons (dFz (dLc (dRng1 (dCons (dC (.int 8)) dNil)) (dGN 9) dYes (dOp dIxS (dVar 2) (dCall sp_l_next (dCons (dVar 0) (dCons (dC (.int 26)) dNil)))) [9])) dNil)) (dGN 3))
    (dSeq (dAsg (dCall sp_l_next (dCons (dVar 0) (dCons (dC (.int 3)) dNil))) (dGN 4))
    (dSeq (dAsg (dCall sp_l_next (dCons (dVar 0) (dCons (dC (.int 8)) dNil))) (dGN 5))
    (dSeq (dIf (dTest (dOp (dEq false) (dVar 4) (dC (.int 0))))
      (dAsg (dLc (dRng1 (dCons (dC (.int 8)) dNil)) (dGN 9) dYes (dSlF (dVar 3) dNoP (dSoP (dOp dAddF (dVar 9) (dC (.int 1))))) [9]) (dGN 6))
      (dIf (dTest (dOp (dEq false) (dVar 4) (dC (.int 1))))
      (dAsg (dLst (dCons (dC (.str "on")) (dCons (dC (.str "back")) (dCons (dC (.str "at")) (dCons (dC (.str "off")) (dCons (dC (.str "stay")) (dCons (dC (.str "many")) (dCons (dC (.str "then")) (dCons (dC (.str "either")) dNil))))))))) (dGN 6))
      (dSeq (dAsg (dCall sp_l_next (dCons (dVar 0) (dCons (dOp dAddF (dVar 5) (dC (.int 1))) dNil))) (dGN 7))
    (dSeq (dAsg (dCall sp_l_next (dCons (dVar 0) (dCons (dC (.int 26)) dNil))) (dGN 8))
    (dSeq (dAsg (dLst dNil) (dGN 6))
    (dFor (dRng1 (dCons (dC (.int 8)) dNil)) (dGN 9)
      (dSeq (dAsg (dOp dIxS (dVar 2) (dOp rMod (dOp dAddF (dVar 8) (dOp dMul (dC (.int 5)) (dVar 9))) (dC (.int 26)))) (dGN 10))
    (dDrop (dBM "list" mAppend (dVar 6) (dCons (dOp dAddF (dOp dAddF (dSlF (dVar 3) dNoP (dSoP (dVar 7))) (dVar 10)) (dSlF (dVar 3) (dSoP (dOp dAddF (dVar 7) (dC (.int 1)))) (dSoP (dOp dAddF (dVar 5) (dC (.int 1)))))) dNil))))))))))
    (dRet (dSlF (dOp dAddF (dSlF (dVar 6) (dSoP (dVar 5)) dNoP) (dSlF (dVar 6) dNoP (dSoP (dVar 5)))) dNoP (dSoP (dVar 1)))))))))
abbrev N_l_names : List Str := ["_law_feed_here", "_law_many", "_law_letters", "_law_word", "_law_way", "_law_turn", "_law_names_here", "_law_place", "_law_start", "_law_k", "_law_sign"]
def t_l_leaf : DTS := (dSeq (dAsg (dCall sp_l_next (dCons (dVar 0) (dCons (dC (.int 8)) dNil))) (dGN 2))
    (dSeq (dIf (dTest (dOp (dEq false) (dVar 2) (dC (.int 0))))
      (dRet (dTup (dCons (dC (.str "stay")) dNil)))
      dNx)
    (dSeq (dIf (dTest (dOp rLt (dVar 2) (dC (.int 3))))
      (dRet (dTup (dCons (dOp dIxS (dLstF (dCons (dC (.str "at")) (dCons (dC (.str "off")) dNil))) (dOp rSub (dVar 2) (dC (.int 1)))) (dCons (dOp dIxS (dOp dIxS (dVar 1) (dC (.int 2))) (dCall sp_l_next (dCons (dVar 0) (dCons (dCB cLen (dCons (dOp dIxS (dVar 1) (dC (.int 2))) dNil)) dNil)))) dNil))))
      dNx)
    (dSeq (dAsg (dOp dIxS (dOp dAddF (dLstF (dCons (dC (.str "*")) dNil)) (dOp dIxS (dVar 1) (dC (.int 1)))) (dCall sp_l_next (dCons (dVar 0) (dCons (dOp dAddF (dC (.int 1)) (dCB cLen (dCons (dOp dIxS (dVar 1) (dC (.int 1))) dNil))) dNil)))) (dGN 3))
    (dRet (dTup (dCons (dC (.str "step")) (dCons (dOp dIxS (dLstF (dCons (dC (.str "on")) (dCons (dC (.str "on")) (dCons (dC (.str "back")) dNil)))) (dCall sp_l_next (dCons (dVar 0) (dCons (dC (.int 3)) dNil)))) (dCons (dVar 3) dNil)))))))))
abbrev N_l_leaf : List Str := ["_law_feed_here", "_law_names_here", "_law_way", "_law_word"]
def t_l_pattern (spR : DSp) : DTS := (dSeq (dAsg (dCall sp_l_next (dCons (dVar 0) (dCons (dC (.int 8)) dNil))) (dGN 3))
    (dSeq (dIf (dOr (dTest (dOp (dEq false) (dVar 2) (dC (.int 0)))) (dTest (dOp rLt (dVar 3) (dC (.int 2)))))
      (dRet (dCall sp_l_leaf (dCons (dVar 0) (dCons (dVar 1) dNil))))
      dNx)
    (dSeq (dIf (dTest (dOp rLt (dVar 3) (dC (.int 4))))
      (dRet (dTup (dCons (dC (.str "many")) (dCons (dCall spR (dCons (dVar 0) (dCons (dVar 1) (dCons (dOp rSub (dVar 2) (dC (.int 1))) dNil)))) dNil))))
      dNx)
    (dSeq (dAsg (dOp dIxS (dLstF (dCons (dC (.int 2)) (dCons (dC (.int 1)) (dCons (dC (.int 3)) (dCons (dC (.int 0)) (dCons (dC (.int 2)) (dCons (dC (.int 2)) dNil))))))) (dCall sp_l_next (dCons (dVar 0) (dCons (dC (.int 6)) dNil)))) (dGN 4))
    (dSeq (dAsg (dCB cTuple (dCons (dFz (dLc (dRng1 (dCons (dVar 4) dNil)) (dGN 6) dYes (dCall spR (dCons (dVar 0) (dCons (dVar 1) (dCons (dOp rSub (dVar 2) (dC (.int 1))) dNil)))) [6])) dNil)) (dGN 5))
    (dRet (dTup (dCons (dOp dIxS (dLstF (dCons (dC (.str "then")) (dCons (dC (.str "either")) dNil))) (dOp rMod (dVar 3) (dC (.int 2)))) (dCons (dVar 5) dNil)))))))))
abbrev N_l_pattern : List Str := ["_law_feed_here", "_law_names_here", "_law_deep", "_law_way", "_law_many", "_law_parts", "_law_k"]
theorem atI_map {ns : List Int} {k : Nat} (h : k < ns.length) : atI (ns.map D.int) (k : Int) = some (.int (ns.getD k 0)) := by
  refine atI_nat ?_
  simp [h]
theorem r_l_cell_at (ds S Q E) (h : sp_l_cell_at ds S Q E) : t_l_cell_at (dEnd Q E) (dstart N_l_cell_at ds) S := by
  obtain ⟨ns, k, rfl, h2, h⟩ := h
  have b1 : ∀ x : Int, Bd 20 (x % 1000003) := fun x => Bd.mod (by decide) (by unfold Bd; decide)
  have c1 := fun x => (b1 x).cm (show Bd 17 48271 by unfold Bd; decide)
  have c2 := (show Bd 17 7919 by unfold Bd; decide).cm (show Bd 100 (k : Int) by unfold Bd; omega)
  simp [t_l_cell_at, dstart]
  unfold cellZ at h
  by_cases h3 : k < ns.length
  · rw [if_pos h3] at h
    rw [if_pos h3, atI_map h3]
    exact .same h
  · rw [if_neg h3] at h
    rw [if_neg h3]
    by_cases h4 : 0 < ns.length
    · rw [if_pos h4] at h
      rw [if_pos h4]
      have h5 : k % ns.length < ns.length := Nat.mod_lt _ h4
      have e : ((k : Int) % (ns.length : Int)) = ((k % ns.length : Nat) : Int) := by omega
      rw [e, atI_map h5]
      simp [h4, c1, c2]
      exact .same (by simpa using h)
    · rw [if_neg h4] at h
      rw [if_neg h4]
      have c3 : CMulW 0 48271 := (show Bd 1 0 by unfold Bd; decide).cm (show Bd 17 48271 by unfold Bd; decide)
      simp [c3, c2]
      exact .same (by simpa using h)
theorem r_l_leaf (ds S Q E) (h : sp_l_leaf ds S Q E) : t_l_leaf (dEnd Q E) (dstart N_l_leaf ds) S := by
  obtain ⟨p, e0, ws, ms, n, o, rfl, nm, hp, fo, hn, h⟩ := h
  unfold t_l_leaf
  refine dSeq_gen fun R hR => ?_
  simp [dstart]
  refine ⟨p, 8, n, o, rfl, by decide, by decide, hp, fo, by omega, fun v o1 v0 v1 fo1 => ?_⟩
  subst hR
  by_cases c0 : v = 0
  · simp [c0]
    exact .same (h _ o1 (.inl rfl) (fo1.more (by omega)))
  by_cases c1 : v < 3
  · simp [c0, c1]
    refine opt_at (by omega) (by simp; omega) fun y hy => ?_
    refine ⟨p, ms.length, n + 1, o1, rfl, by have := nm.m1; omega, by have := nm.m8; omega, by simp, fo1, by omega, fun u o2 u0 u1 fo2 => ?_⟩
    simp
    refine opt_at u0 (by simpa using u1) fun z hz => ?_
    obtain ⟨m, hm, rfl⟩ := List.mem_map.mp hz
    refine .same (h _ o2 (.inr (.inl ?_)) (fo2.more (by omega)))
    simp at hy
    rcases hy with rfl | rfl
    · exact ⟨"at", m, .inl rfl, hm, rfl⟩
    · exact ⟨"off", m, .inr rfl, hm, rfl⟩
  · simp [c0, c1, catD]
    refine ⟨by have := nm.w8; omega, p, 1 + ws.length, n + 1, o1, rfl, by omega, by have := nm.w8; omega, by simp, fo1, by omega, fun u o2 u0 u1 fo2 => ?_⟩
    simp
    refine opt_at u0 (by simp; omega) fun z hz => ?_
    refine ⟨p, 3, n + 2, o2, rfl, by decide, by decide, by simp, fo2, by omega, fun u' o3 u0' u1' fo3 => ?_⟩
    simp
    refine opt_at u0' (by simpa using u1') fun y hy => ?_
    refine .same (h _ o3 (.inr (.inr ?_)) (fo3.more (by omega)))
    obtain ⟨w, hw, rfl⟩ : ∃ w : Str, (w = "*" ∨ w ∈ ws) ∧ z = .str w := by
      rcases List.mem_cons.mp hz with rfl | hz
      · exact ⟨"*", .inl rfl, rfl⟩
      · obtain ⟨w, hw, rfl⟩ := List.mem_map.mp hz
        exact ⟨w, .inr hw, rfl⟩
    simp at hy
    rcases hy with rfl | rfl
    · exact ⟨"on", w, .inl rfl, hw, rfl⟩
    · exact ⟨"back", w, .inr rfl, hw, rfl⟩
theorem r_l_pattern (k : Nat) (ds S Q E) (h : sp_l_pattern k ds S Q E) : t_l_pattern (prevSp sp_l_pattern k) (dEnd Q E) (dstart N_l_pattern ds) S := by
  obtain ⟨p, e0, j, ws, ms, n, o, rfl, nm, hj, hp, fo, hn, h⟩ := h
  have c4 : 4 ≤ costP k := by cases k <;> simp [costP]; omega
  unfold t_l_pattern
  refine dSeq_gen fun R hR => ?_
  simp [dstart]
  refine ⟨p, 8, n, o, rfl, by decide, by decide, hp, fo, by omega, fun v o1 v0 v1 fo1 => ?_⟩
  subst hR
  refine dSeq_gen fun R hR => ?_
  have leaf : sp_l_leaf [.ref p, nmsD e0 ws ms] (upo S p o1) (Rt Q) fun C fs S' => ∃ S'', Sub S'' S' ∧ E C fs S'' :=
    ⟨p, e0, ws, ms, n + 1, o1, rfl, nm, upo_same, fo1, by omega, fun d o' a b => .same (by rw [upo_upo]; exact h d o' (a.pat k) (b.more (by omega)))⟩
  by_cases c0 : j = 0
  · simp [c0]
    exact leaf
  by_cases c1 : v < 2
  · simp [c0, c1]
    exact leaf
  simp [c0, c1]
  subst hR
  obtain ⟨m, rfl⟩ : ∃ m, k = m + 1 := ⟨k - 1, by omega⟩
  have hc : costP (m + 1) = 5 + 3 * costP m := rfl
  have ej : (j : Int) - 1 = ((j - 1 : Nat) : Int) := by omega
  by_cases c2 : v < 4
  · simp [c2, ej]
    refine ⟨p, e0, j - 1, ws, ms, n + 1, o1, rfl, nm, by omega, by simp, fo1, by omega, fun d o' a b => ?_⟩
    simp
    exact .same (h _ o' (.inr (.inl ⟨d, rfl, a⟩)) (b.more (by omega)))
  simp [c2]
  refine ⟨p, 6, n + 1, o1, rfl, by decide, by decide, by simp, fo1, by omega, fun u o2 u0 u1 fo2 => ?_⟩
  simp
  refine opt_at u0 (by simpa using u1) fun y hy => ?_
  obtain ⟨M, hM, rfl⟩ : ∃ M : Nat, M ≤ 3 ∧ y = .int (M : Nat) := by
    simp only [List.mem_cons, List.not_mem_nil, or_false] at hy
    rcases hy with rfl | rfl | rfl | rfl | rfl | rfl
    · exact ⟨2, by decide, rfl⟩
    · exact ⟨1, by decide, rfl⟩
    · exact ⟨3, by decide, rfl⟩
    · exact ⟨0, by decide, rfl⟩
    · exact ⟨2, by decide, rfl⟩
    · exact ⟨2, by decide, rfl⟩
  simp
  refine ⟨by omega, ?_⟩
  refine lcF_inv (fun i acc S1 => acc.length = i ∧ (∀ e ∈ acc, IsPat ws ms m e) ∧ ∃ o3, S1 = upo S p o3 ∧ FeedOb (n + 2 + i * costP m) o3) ⟨rfl, (fun _ z => nomatch z), o2, rfl, fo2.more (by omega)⟩ (fun _ _ _ _ _ _ _ => trivial) ?_ (by simp [rngD]; omega) ?_
  · rintro i d acc S1 q N hd ⟨g1, g2, o3, rfl, fo3⟩ hq ha hN
    have hi : i < M := by
      have := (List.getElem?_eq_some_iff.mp hd).1
      simp [rngD] at this
      exact this
    have im : i * costP m + costP m ≤ 3 * costP m := by
      rw [← Nat.succ_mul]
      exact Nat.mul_le_mul_right _ (by omega)
    have npq : p ≠ q := fun z => by subst z; simp at hq
    simp [ej]
    refine ⟨p, e0, j - 1, ws, ms, n + 2 + i * costP m, o3, rfl, nm, by omega, by rw [upo_ne npq]; simp, fo3, by omega, fun d' o4 a b => ?_⟩
    rw [upo_comm npq.symm]
    simp
    refine ⟨ha, hN _ _ ?_ ⟨by simp [g1], fun z hz => ?_, o4, rfl, ?_⟩ (by simp)⟩
    · rw [upo_ne npq.symm]
      rw [upo_ne npq.symm] at hq
      exact hq
    · rcases List.mem_append.mp hz with z' | z'
      · exact g2 z z'
      · rw [List.mem_singleton.mp z']; exact a
    · rw [Nat.succ_mul, ← Nat.add_assoc]; exact b
  · rintro acc S1 ⟨g1, g2, o3, rfl, fo3⟩
    have g1' : acc.length = M := by rw [g1]; simp [rngD]
    have im : M * costP m ≤ 3 * costP m := Nat.mul_le_mul_right _ hM
    simp
    refine opt_at (by omega) (by simp; omega) fun y hy => ?_
    refine .same (h _ o3 (.inr (.inr ?_)) (fo3.more (by simp [rngD]; omega)))
    simp at hy
    rcases hy with rfl | rfl
    · exact ⟨"then", acc, rfl, .inl rfl, by omega, g2⟩
    · exact ⟨"either", acc, rfl, .inr rfl, by omega, g2⟩
end Sh
set_option maxRecDepth 100000
set_option maxHeartbeats 4000000
/-! ShP: what stands in a pattern. -/
namespace Sh
open PySem PySem.Spec L2 Dt
@[simp] theorem ptD_0 (p : Pt) : ∃ r, ptD p = .tup r := by cases p <;> exact ⟨_, rfl⟩
def sp_parts_of : DSp := fun ds S Q _ => ∃ p : Pt, ds = [ptD p] ∧ Q (.rol (ptDs p.kids)) S
def sp_all_parts : DSp := fun ds S Q _ => ∃ p : Pt, ds = [ptD p] ∧ p.all.length ≤ 100000 ∧ ∀ L : List Pt, L.Perm p.all → Q (.rol (ptDs L)) S
def sp_parts_in : DSp := fun ds S Q _ => ∃ p : Pt, ds = [ptD p] ∧ p.all.length ≤ 100000 ∧ Q (.int (p.all.length : Nat)) S
def sp_leaves_in : DSp := fun ds S Q _ => ∃ p : Pt, ds = [ptD p] ∧ p.all.length ≤ 100000 ∧ Q (.int ((p.all.filter Pt.isLeaf).length : Nat)) S
end Sh
namespace Dt
open PySem PySem.Spec L2
/-- the words of steps, the marks -/
def Pt.word? : Pt → Option Str
  | .step _ w => some w
  | _ => none
def Pt.mark? : Pt → Option Str
  | .mark _ m => some m
  | _ => none
def Pt.words (p : Pt) : List Str := (p.all.filterMap Pt.word?).filter fun w => !decide (w = "*")
def Pt.marks (p : Pt) : List Str := p.all.filterMap Pt.mark?
end Dt
namespace Sh
open PySem PySem.Spec L2 Dt
/-- new lists -/
def sp_words_in : DSp := fun ds S Q _ => ∃ p : Pt, ds = [ptD p] ∧ p.all.length ≤ 4000 ∧ p.okP Nm ∧ ∀ q, S q = none → Q (.ref q) (upo S q (.lst (ssD (p.words.map D.str))))
def sp_marks_in : DSp := fun ds S Q _ => ∃ p : Pt, ds = [ptD p] ∧ p.all.length ≤ 4000 ∧ p.okP Nm ∧ ∀ q, S q = none → Q (.ref q) (upo S q (.lst (ssD (p.marks.map D.str))))
def t_parts_of : DTS := (dSeq (dIf (dTest (dOp (dEq false) (dOp dIxS (dVar 0) (dC (.int 0))) (dC (.str "many"))))
      (dRet (dLstF (dCons (dOp dIxS (dVar 0) (dC (.int 1))) dNil)))
      dNx)
    (dSeq (dIf (dTest (dOp (dIn false) (dOp dIxS (dVar 0) (dC (.int 0))) (dTup (dCons (dC (.str "then")) (dCons (dC (.str "either")) dNil)))))
      (dRet (dCB cListF (dCons (dOp dIxS (dVar 0) (dC (.int 1))) dNil)))
      dNx)
    (dRet (dLstF dNil))))
abbrev N_parts_of : List Str := ["pattern"]
def t_all_parts : DTS := (dSeq (dAsg (dLst (dCons (dVar 0) dNil)) (dGN 1))
    (dSeq (dAsg (dC (.int 0)) (dGN 2))
    (dSeq (dWhile (dTest (dOp rLt (dVar 2) (dCB cLen (dCons (dVar 1) dNil))))
      (dSeq (dDrop (dBM "list" mExtend (dVar 1) (dCons (dCall sp_parts_of (dCons (dOp dIxS (dVar 1) (dVar 2)) dNil)) dNil)))
    (dAsg (dOp dAddF (dVar 2) (dC (.int 1))) (dGN 2))))
    (dRet (dVar 1)))))
abbrev N_all_parts : List Str := ["pattern", "found", "at"]
def t_parts_in : DTS := (dRet (dCB cLen (dCons (dCall sp_all_parts (dCons (dVar 0) dNil)) dNil)))
abbrev N_parts_in : List Str := ["pattern"]
def t_leaves_in : DTS := (dRet (dCB cLen (dCons (dFz (dLc (dSeqI (dCall sp_all_parts (dCons (dVar 0) dNil))) (dGN 1) (dTest (dOp (dIn false) (dOp dIxS (dVar 1) (dC (.int 0))) (dTup (dCons (dC (.str "stay")) (dCons (dC (.str "step")) (dCons (dC (.str "at")) (dCons (dC (.str "off")) dNil))))))) (dVar 1) [1])) dNil)))
abbrev N_leaves_in : List Str := ["pattern", "part"]
def t_words_in : DTS := (dSeq (dAsg (dFz (dLc (dSeqI (dCall sp_all_parts (dCons (dVar 0) dNil))) (dGN 2) (dTest (dOp (dEq false) (dOp dIxS (dVar 2) (dC (.int 0))) (dC (.str "step")))) (dOp dIxS (dVar 2) (dC (.int 2))) [2])) (dGN 1))
    (dRet (dSortSetM (dFz (dLc (dSeqI (dVar 1)) (dGN 3) (dTest (dOp (dEq true) (dVar 3) (dC (.str "*")))) (dVar 3) [3])))))
abbrev N_words_in : List Str := ["pattern", "words", "part", "word"]
def t_marks_in : DTS := (dRet (dSortSetM (dFz (dLc (dSeqI (dCall sp_all_parts (dCons (dVar 0) dNil))) (dGN 1) (dTest (dOp (dIn false) (dOp dIxS (dVar 1) (dC (.int 0))) (dTup (dCons (dC (.str "at")) (dCons (dC (.str "off")) dNil))))) (dOp dIxS (dVar 1) (dC (.int 1))) [1]))))
abbrev N_marks_in : List Str := ["pattern", "part"]
theorem ptDs_len (ps : List Pt) : (ptDs ps).length = ps.length := by rw [ptDs_map, List.length_map]
theorem ptDs_at {ps : List Pt} {j : Nat} (h : j < ps.length) : (ptDs ps)[j]? = some (ptD ps[j]) := by rw [ptDs_map, List.getElem?_map, List.getElem?_eq_getElem h]; rfl
theorem ptDs_app (ps qs : List Pt) : ptDs (ps ++ qs) = ptDs ps ++ ptDs qs := by simp [ptDs_map]
def hd0 (d : D) : D := match d with | .tup (x :: _) => x | _ => .non
def at1 (d : D) : D := match d with | .tup (_ :: x :: _) => x | _ => .non
def at2 (d : D) : D := match d with | .tup (_ :: _ :: x :: _) => x | _ => .non
def isStep (p : Pt) : Bool := match p with | .step _ _ => true | _ => false
def isMark (p : Pt) : Bool := match p with | .mark _ _ => true | _ => false
def theName (p : Pt) : Str := match p with | .step _ w => w | .mark _ m => m | _ => ""
/-! ### drawn patterns as trees -/
/-- how many a drawn pattern is of at most -/
def szP : Nat → Nat
  | 0 => 1
  | n + 1 => 1 + 3 * szP n
theorem deeps_le {b : Nat} : ∀ {ps : List Pt}, (∀ p ∈ ps, p.deep ≤ b) → Pt.deeps ps ≤ b
  | [], _ => by simp [Pt.deeps_nil]
  | p :: ps, h => by
    have h1 := h p (List.mem_cons_self ..)
    have h2 := deeps_le fun q hq => h q (List.mem_cons_of_mem _ hq)
    rw [Pt.deeps_cons]
    omega
theorem deeps_mem : ∀ {ps : List Pt} {p : Pt}, p ∈ ps → p.deep ≤ Pt.deeps ps
  | q :: ps, p, h => by
    rw [Pt.deeps_cons]
    rcases List.mem_cons.mp h with rfl | h
    · omega
    · have := deeps_mem h
      omega
end Sh
set_option maxRecDepth 100000
set_option maxHeartbeats 4000000
/-! ShM: machines: stands, moves; come_to, stepped. -/
namespace Sh
open PySem PySem.Spec L2 Dt
/-- a plain text -/
def okS (x : Str) : Prop := PyData.strOk x = true
theorem okS.sm {x : Str} {n : Nat} (h : okS x) : Sm n (.str x) := ⟨h, Nat.zero_le _⟩
theorem int_sm (i : Int) (n : Nat) : Sm n (.int i) := ⟨rfl, Nat.zero_le _⟩
theorem Nm.okS {x : Str} (h : Nm x) : okS x := nm_ok h
/-- a move -/
structure Mv where
  a : Nat
  p : Pt
  b : Nat
def mvD (m : Mv) : D := .tup [.int m.a, ptD m.p, .int m.b]
abbrev natsD (xs : List Nat) : List D := xs.map fun x : Nat => D.int (x : Int)
abbrev strsD (xs : List Str) : List D := xs.map D.str
structure OkMv (m : Mv) : Prop where
  leaf : m.p.isLeaf = true
  ok : m.p.okP okS
def mcD (x y z : D) (mv : List Mv) : D := .tup [x, y, z, .tup (mv.map mvD)]
def holdsP (ms : List Str) (p : Pt) : Bool := match p with
  | .stay => true
  | .mark b m => decide (m ∈ ms) == b
  | _ => false
def fitsP (side word : Str) (p : Pt) : Bool := match p with
  | .step b w => decide ((if b then "on" else "back" : Str) = side) && (decide (w = "*") || decide (w = word))
  | _ => false
/-- what is come to without steps -/
inductive Come (mv : List Mv) (ms : List Str) (st : List Nat) : Nat → Prop
  | start {x : Nat} : x ∈ st → Come mv ms st x
  | move {m : Mv} : m ∈ mv → Come mv ms st m.a → holdsP ms m.p = true → Come mv ms st m.b
/-- what is come to by a step -/
def ByStep (mv : List Mv) (st : List Nat) (side word : Str) (x : Nat) : Prop := ∃ m ∈ mv, m.a ∈ st ∧ fitsP side word m.p = true ∧ m.b = x
/-! rows of numbers -/
theorem natsD_mem {xs : List Nat} {x : Nat} : D.int (x : Int) ∈ natsD xs ↔ x ∈ xs := by
  rw [List.mem_map]
  exact ⟨fun ⟨y, h, e⟩ => by cases e; exact h, fun h => ⟨x, h, rfl⟩⟩
theorem natsD_ty (xs : List Nat) : ∀ d ∈ natsD xs, hasTy .int d = true := fun d hd => by
  obtain ⟨x, _, rfl⟩ := List.mem_map.mp hd
  rfl
theorem nats_sorted {L M : List Nat} (hL : L.Pairwise (· < ·)) (hM : M.Nodup) (h : ∀ x, x ∈ L ↔ x ∈ M) : srtD (natsD M) = natsD L := by
  have pm : M.Perm L := perm_of_mem hM (hL.imp fun {a b} z => Nat.ne_of_lt z) fun x => (h x).symm
  refine sorted_one (t := .int) (fun d hd => natsD_ty _ d (srt_mem.mp hd)) (srt_sorted _) ?_ ((srt_perm _).trans (pm.map _))
  rw [List.pairwise_map]
  exact hL.imp fun {a b} z => by
    rw [ltD_int]
    simp
    omega
/-! dicts as sets -/
def kset {κ : Type} (ks : List κ) : List (κ × D) := ks.map fun k => (k, .bl true)
section
variable {κ : Type} [DecidableEq κ]
theorem lk_in {ks : List κ} {k : κ} (h : k ∈ ks) : lk (kset ks) k = some (.bl true) := by
  induction ks with
  | nil => cases h
  | cons j ks ih =>
    show lk ((j, D.bl true) :: kset ks) k = _
    unfold lk
    by_cases e : j = k
    · rw [if_pos e]
    · rw [if_neg e]
      exact ih ((List.mem_cons.mp h).resolve_left fun z => e z.symm)
theorem lk_out {ks : List κ} {k : κ} (h : k ∉ ks) : lk (kset ks) k = none := by
  induction ks with
  | nil => rfl
  | cons j ks ih =>
    show lk ((j, D.bl true) :: kset ks) k = _
    unfold lk
    rw [if_neg fun e : j = k => h (e ▸ List.mem_cons_self)]
    exact ih fun z => h (List.mem_cons_of_mem _ z)
theorem pt_in {ks : List κ} {k : κ} (h : k ∈ ks) : pt (kset ks) k (.bl true) = kset ks := by
  unfold pt
  rw [lk_in h]
  simp only [Option.isSome_some, if_true]
  unfold kset
  rw [List.map_map]
  refine List.map_congr_left fun j _ => ?_
  show (if j = k then (j, D.bl true) else (j, D.bl true)) = _
  split <;> rfl
theorem pt_out {ks : List κ} {k : κ} (h : k ∉ ks) : pt (kset ks) k (.bl true) = kset (ks ++ [k]) := by
  unfold pt
  rw [lk_out h]
  simp [kset]
theorem kset_len (ks : List κ) : (kset ks).length = ks.length := by simp [kset]
end
abbrev nkeys (xs : List Nat) : List Key := xs.map fun x : Nat => Sum.inl (x : Int)
/-! specs -/
def sp_holds_at : DSp := fun ds S Q _ => ∃ (p : Pt) (ms : List Str), ds = [ptD p, .rol (strsD ms)] ∧ p.isLeaf = true ∧ p.okP okS ∧ (∀ m ∈ ms, okS m) ∧ Q (.bl (holdsP ms p)) S
def sp_is_step_by : DSp := fun ds S Q _ => ∃ (p : Pt) (side word : Str), ds = [ptD p, .str side, .str word] ∧ p.isLeaf = true ∧ Q (.bl (fitsP side word p)) S
def sp_come_to : DSp := fun ds S Q _ => ∃ (x y z : D) (mv : List Mv) (st : List Nat) (ms : List Str), ds = [mcD x y z mv, .tup (natsD st), .rol (strsD ms)] ∧ (∀ m ∈ mv, OkMv m) ∧ (∀ m ∈ ms, okS m) ∧ st.length + mv.length ≤ 100000 ∧
  ∀ L : List Nat, L.Pairwise (· < ·) → (∀ n, n ∈ L ↔ Come mv ms st n) → Q (.tup (natsD L)) S
def sp_stepped : DSp := fun ds S Q _ => ∃ (x y z : D) (mv : List Mv) (st : List Nat) (side word : Str), ds = [mcD x y z mv, .tup (natsD st), .str side, .str word] ∧ (∀ m ∈ mv, OkMv m) ∧ mv.length ≤ 100000 ∧
  ∀ L : List Nat, L.Pairwise (· < ·) → (∀ n, n ∈ L ↔ ByStep mv st side word n) → Q (.tup (natsD L)) S
def t_holds_at : DTS := (dSeq (dIf (dTest (dOp (dEq false) (dOp dIxS (dVar 0) (dC (.int 0))) (dC (.str "at"))))
      (dRet (dOp (dIn false) (dOp dIxS (dVar 0) (dC (.int 1))) (dVar 1)))
      dNx)
    (dSeq (dIf (dTest (dOp (dEq false) (dOp dIxS (dVar 0) (dC (.int 0))) (dC (.str "off"))))
      (dRet (dOp (dIn true) (dOp dIxS (dVar 0) (dC (.int 1))) (dVar 1)))
      dNx)
    (dRet (dOp (dEq false) (dOp dIxS (dVar 0) (dC (.int 0))) (dC (.str "stay"))))))
abbrev N_holds_at : List Str := ["leaf", "marks"]
def t_is_step_by : DTS := (dRet (dAndV (dOp (dEq false) (dOp dIxS (dVar 0) (dC (.int 0))) (dC (.str "step"))) (dAndV (dOp (dEq false) (dOp dIxS (dVar 0) (dC (.int 1))) (dVar 1)) (dOp (dIn false) (dOp dIxS (dVar 0) (dC (.int 2))) (dTup (dCons (dC (.str "*")) (dCons (dVar 2) dNil)))))))
abbrev N_is_step_by : List Str := ["leaf", "side", "word"]
def t_come_to : DTS := (dSeq (dAsg dDnK (dGN 3))
    (dSeq (dFor (dSeqI (dVar 1)) (dGN 4)
      (dPut (dVar 3) (dVar 4) (dC (.bl true))))
    (dSeq (dAsg (dCB cListA (dCons (dVar 3) dNil)) (dGN 5))
    (dSeq (dWhile (dTest (dOp (dEq true) (dVar 5) (dLstF dNil)))
      (dSeq (dAsg (dBM "list" mPop (dVar 5) dNil) (dGN 6))
    (dFor (dSeqI (dOp dIxS (dVar 0) (dC (.int 3)))) (dGTup 3 (dGCons (dGN 7) (dGCons (dGN 8) (dGCons (dGN 9) dGNil))))
      (dIf (dAnd (dTest (dOp (dEq false) (dVar 7) (dVar 6))) (dAnd (dTest (dOp (dIn true) (dVar 9) (dVar 3))) (dTest (dCall sp_holds_at (dCons (dVar 8) (dCons (dVar 2) dNil))))))
      (dSeq (dPut (dVar 3) (dVar 9) (dC (.bl true)))
    (dDrop (dBM "list" mAppend (dVar 5) (dCons (dVar 9) dNil))))
      dNx))))
    (dRet (dCB cTuple (dCons (dCB cSortAF (dCons (dVar 3) dNil)) dNil)))))))
abbrev N_come_to : List Str := ["machine", "stands", "marks", "met", "stand", "line", "here", "one", "leaf", "other"]
def t_stepped : DTS := (dSeq (dAsg dDnK (dGN 4))
    (dSeq (dFor (dSeqI (dOp dIxS (dVar 0) (dC (.int 3)))) (dGTup 3 (dGCons (dGN 5) (dGCons (dGN 6) (dGCons (dGN 7) dGNil))))
      (dIf (dAnd (dTest (dOp (dIn false) (dVar 5) (dVar 1))) (dTest (dCall sp_is_step_by (dCons (dVar 6) (dCons (dVar 2) (dCons (dVar 3) dNil))))))
      (dPut (dVar 4) (dVar 7) (dC (.bl true)))
      dNx))
    (dRet (dCB cTuple (dCons (dCB cSortAF (dCons (dVar 4) dNil)) dNil)))))
abbrev N_stepped : List Str := ["machine", "stands", "side", "word", "met", "one", "leaf", "other"]
theorem str_beq (a b : Str) : (a == b) = decide (a = b) := beq_dec a b
theorem mv_at {mv : List Mv} {i : Nat} {d : D} (h : (mv.map mvD)[i]? = some d) : ∃ hi : i < mv.length, d = mvD mv[i] := by
  obtain ⟨h1, h2⟩ := List.getElem?_eq_some_iff.mp h
  have hi : i < mv.length := by simpa using h1
  exact ⟨hi, by rw [← h2]; simp⟩
theorem take_mem {α : Type} {xs : List α} {i : Nat} (hi : i < xs.length) {x : α} : x ∈ xs.take (i + 1) ↔ x ∈ xs.take i ∨ x = xs[i] := by
  rw [List.take_succ, List.getElem?_eq_getElem hi, List.mem_append]
  simp
theorem atI_mc (x y z : D) (mv : List Mv) : atI [x, y, z, .tup (mv.map mvD)] 3 = some (.tup (mv.map mvD)) := atI_nat (j := 3) rfl
theorem natlist_sm (xs : List Nat) : ∀ e ∈ natsD xs, Sm 60 e := fun e he => by
  obtain ⟨x, _, rfl⟩ := List.mem_map.mp he
  exact int_sm _ _
theorem nodup_sub_len : ∀ {xs ys : List Nat}, xs.Nodup → (∀ x ∈ xs, x ∈ ys) → xs.length ≤ ys.length
  | [], _, _, _ => Nat.zero_le _
  | x :: xs, ys, h, k => by
    obtain ⟨h1, h2⟩ := List.nodup_cons.mp h
    have hx : x ∈ ys := k x (List.mem_cons_self ..)
    have := nodup_sub_len (ys := ys.erase x) h2 fun y hy => by
      have ne : y ≠ x := fun e => h1 (e ▸ hy)
      exact (List.mem_erase_of_ne ne).mpr (k y (List.mem_cons_of_mem _ hy))
    rw [List.length_erase_of_mem hx] at this
    have : 0 < ys.length := List.length_pos_of_mem hx
    rw [List.length_cons]
    omega
theorem inF_nat (m : Nat) (st : List Nat) : inF (.int m) (natsD st) = decide (m ∈ st) := by
  rw [inF_pl rfl (by simp [flD]) rfl (fun e he => (natlist_sm st e he).1)]
  exact decide_eq_decide.mpr natsD_mem
theorem add_nodup {met : List Nat} {b : Nat} (h : met.Nodup) : (if b ∈ met then met else met ++ [b]).Nodup := by
  split
  · exact h
  · rename_i hb
    rw [List.nodup_append]
    exact ⟨h, by simp, fun a ha c hc => by rw [List.mem_singleton.mp hc]; rintro rfl; exact hb ha⟩
theorem bystep_succ {mv : List Mv} {i : Nat} (hi : i < mv.length) {st : List Nat} {side word : Str} {n : Nat} : ByStep (mv.take (i + 1)) st side word n ↔ ByStep (mv.take i) st side word n ∨ (mv[i].a ∈ st ∧ fitsP side word mv[i].p = true ∧ n = mv[i].b) := by
  unfold ByStep
  constructor
  · rintro ⟨m, hm, h1, h2, h3⟩
    rcases (take_mem hi).mp hm with z | rfl
    · exact .inl ⟨m, z, h1, h2, h3⟩
    · exact .inr ⟨h1, h2, h3.symm⟩
  · rintro (⟨m, hm, h⟩ | ⟨h1, h2, h3⟩)
    · exact ⟨m, (take_mem hi).mpr (.inl hm), h⟩
    · exact ⟨_, (take_mem hi).mpr (.inr rfl), h1, h2, h3.symm⟩
end Sh
set_option maxRecDepth 100000
set_option maxHeartbeats 4000000
namespace Rc
open PySem PySem.Spec L2
open Sh
open Dt hiding nkeys
/-! ShPt: what is a pattern. -/
def nameB (w : Str) : Bool := decide (1 ≤ w.length) && decide (w.length ≤ 8) && w.cps.toList.all fun c => decide (c ∈ (Str.ofString "abcdefghijklmnopqrstuvwxyz").cps.toList)
def sp_is_name : DSp := fun ds S Q _ => ∃ w : Str, ds = [.str w] ∧ w.length ≤ 1000000 ∧ Q (.bl (nameB w)) S
def sp_is_one_of : DSp := fun ds S Q _ => ∃ (x : Str) (l : List Str) (d : D), ds = [.str x, d] ∧ (d = .rol (strsD l) ∨ d = .tup (strsD l)) ∧ okS x ∧ (∀ y ∈ l, okS y) ∧ Q (.bl (decide (x ∈ l))) S
def sp_is_word : DSp := fun ds S Q _ => ∃ w : Str, ds = [.str w] ∧ w.length ≤ 1000000 ∧ okS w ∧ Q (.bl (nameB w || decide (w = "*"))) S
def sp_is_leaf : DSp := fun ds S Q _ => ∃ p : Pt, ds = [ptD p] ∧ p.okP Nm ∧ Q (.bl p.isLeaf) S
/-- not too much right within one -/
def Pt.few (p : Pt) : Prop := ∀ q ∈ p.all, q.kids.length ≤ 39
def sp_parts_right : DSp := fun ds S Q _ => ∃ p : Pt, ds = [ptD p] ∧ p.okP Nm ∧ p.kids.length ≤ 39 ∧ Q (.rol (ptDs p.kids)) S
def sp_is_pattern : DSp := fun ds S Q _ => ∃ p : Pt, ds = [ptD p] ∧ p.okP Nm ∧ Pt.few p ∧ p.all.length ≤ 40 ∧ p.deep ≤ 10 ∧ Q (.bl true) S
theorem dSeqWhile_gen {c : DTT} {tb r : DTS} {A : DEnds} {τ : DSt} {S : DH} (h : ∀ B R, B = tb → R = r → dSeq (dWhile c B) R A τ S) : dSeq (dWhile c tb) r A τ S := h tb r rfl rfl
theorem deeps_mem {k : Pt} : ∀ {ps : List Pt}, k ∈ ps → k.deep ≤ Pt.deeps ps
  | p :: ps, h => by
    rw [Pt.deeps_cons]
    rcases List.mem_cons.mp h with rfl | z
    · omega
    · have := deeps_mem z
      omega
def t_is_name : DTS := (dSeq (dIf (dOr (dNot (dTest (dIsi "str" (dVar 0)))) (dOr (dTest (dOp rLt (dCB cLen (dCons (dVar 0) dNil)) (dC (.int 1)))) (dTest (dOp rGt (dCB cLen (dCons (dVar 0) dNil)) (dC (.int 8))))))
      (dRet (dC (.bl false)))
      dNx)
    (dRet (dCB cAll (dCons (dFz (dLc (dSeqI (dVar 0)) (dGN 1) dYes (dOp (dInS false) (dVar 1) (dC (.str "abcdefghijklmnopqrstuvwxyz"))) [1])) dNil))))
abbrev N_is_name : List Str := ["thing", "sign"]
def t_is_one_of : DTS := (dRet (dAndV (dIsi "str" (dVar 0)) (dOp (dIn false) (dVar 0) (dVar 1))))
abbrev N_is_one_of : List Str := ["thing", "some"]
def t_is_word : DTS := (dRet (dOrV (dCall sp_is_name (dCons (dVar 0) dNil)) (dAndV (dIsi "str" (dVar 0)) (dOp (dEq false) (dVar 0) (dC (.str "*"))))))
abbrev N_is_word : List Str := ["thing"]
def t_is_leaf : DTS := (dSeq (dIf (dOr (dNot (dTest (dIsi "tuple" (dVar 0)))) (dTest (dOp (dEq false) (dCB cLen (dCons (dVar 0) dNil)) (dC (.int 0)))))
      (dRet (dC (.bl false)))
      dNx)
    (dSeq (dIf (dTest (dCall sp_is_one_of (dCons (dOp dIxS (dVar 0) (dC (.int 0))) (dCons (dLstF (dCons (dC (.str "stay")) dNil)) dNil))))
      (dRet (dOp (dEq false) (dCB cLen (dCons (dVar 0) dNil)) (dC (.int 1))))
      dNx)
    (dSeq (dIf (dTest (dCall sp_is_one_of (dCons (dOp dIxS (dVar 0) (dC (.int 0))) (dCons (dLstF (dCons (dC (.str "step")) dNil)) dNil))))
      (dRet (dAndV (dOp (dEq false) (dCB cLen (dCons (dVar 0) dNil)) (dC (.int 3))) (dAndV (dCall sp_is_one_of (dCons (dOp dIxS (dVar 0) (dC (.int 1))) (dCons (dC (.tup [.str "on", .str "back"])) dNil))) (dCall sp_is_word (dCons (dOp dIxS (dVar 0) (dC (.int 2))) dNil)))))
      dNx)
    (dRet (dAndV (dCall sp_is_one_of (dCons (dOp dIxS (dVar 0) (dC (.int 0))) (dCons (dLstF (dCons (dC (.str "at")) (dCons (dC (.str "off")) dNil))) dNil))) (dAndV (dOp (dEq false) (dCB cLen (dCons (dVar 0) dNil)) (dC (.int 2))) (dCall sp_is_name (dCons (dOp dIxS (dVar 0) (dC (.int 1))) dNil))))))))
abbrev N_is_leaf : List Str := ["thing"]
def t_parts_right : DTS := (dSeq (dIf (dTest (dCall sp_is_leaf (dCons (dVar 0) dNil)))
      (dRet (dLstF dNil))
      dNx)
    (dSeq (dIf (dOr (dNot (dTest (dIsi "tuple" (dVar 0)))) (dTest (dOp (dEq true) (dCB cLen (dCons (dVar 0) dNil)) (dC (.int 2)))))
      (dRet (dC .non))
      dNx)
    (dSeq (dIf (dTest (dCall sp_is_one_of (dCons (dOp dIxS (dVar 0) (dC (.int 0))) (dCons (dLstF (dCons (dC (.str "many")) dNil)) dNil))))
      (dRet (dLstF (dCons (dOp dIxS (dVar 0) (dC (.int 1))) dNil)))
      dNx)
    (dSeq (dIf (dOr (dNot (dTest (dCall sp_is_one_of (dCons (dOp dIxS (dVar 0) (dC (.int 0))) (dCons (dLstF (dCons (dC (.str "then")) (dCons (dC (.str "either")) dNil))) dNil))))) (dNot (dTest (dIsi "tuple" (dOp dIxS (dVar 0) (dC (.int 1)))))))
      (dRet (dC .non))
      dNx)
    (dSeq (dIf (dTest (dOp rGt (dCB cLen (dCons (dOp dIxS (dVar 0) (dC (.int 1))) dNil)) (dC (.int 39))))
      (dRet (dC .non))
      dNx)
    (dRet (dCB cListAF (dCons (dOp dIxS (dVar 0) (dC (.int 1))) dNil))))))))
abbrev N_parts_right : List Str := ["thing"]
def t_is_pattern : DTS := (dSeq (dAsg (dLst (dCons (dTup (dCons (dVar 0) (dCons (dC (.int 1)) dNil))) dNil)) (dGN 1))
    (dSeq (dAsg (dC (.int 0)) (dGN 2))
    (dSeq (dWhile (dTest (dOp rGt (dCB cLen (dCons (dVar 1) dNil)) (dC (.int 0))))
      (dSeq (dAsg (dBM "list" mPop (dVar 1) dNil) (dGTupA 2 (dGCons (dGN 3) (dGCons (dGN 4) dGNil))))
    (dSeq (dAsg (dOp dAddF (dVar 2) (dC (.int 1))) (dGN 2))
    (dSeq (dAsg (dCall sp_parts_right (dCons (dVar 3) dNil)) (dGN 5))
    (dSeq (dIf (dOr (dTest (dOp (dIsN false) (dVar 5) (dC .non))) (dOr (dTest (dOp rGt (dVar 4) (dC (.int 10)))) (dTest (dOp rGt (dVar 2) (dC (.int 40))))))
      (dRet (dC (.bl false)))
      dNx)
    (dDrop (dBM "list" mExtend (dVar 1) (dCons (dFz (dLc (dSeqI (dVar 5)) (dGN 6) dYes (dTup (dCons (dVar 6) (dCons (dOp dAddF (dVar 4) (dC (.int 1))) dNil))) [6])) dNil))))))))
    (dRet (dC (.bl true))))))
abbrev N_is_pattern : List Str := ["thing", "left", "count", "part", "deep", "some", "one"]
end Rc
set_option maxRecDepth 100000
set_option maxHeartbeats 4000000
namespace Dt
open PySem PySem.Spec L2 PySem.W PyProof.Rows
section
variable {X : Cx} {pins : List (Addr × Obj)} {σ : L2.St} {H : Hp} {s : Shared} {a : Addr} {u : HO}
theorem LeH.thaw {H' : Hp} (le : LeH H H') (e : H a = some u) (mu : Mut (some u)) {v : HO} : LeH H (upd H' a v) :=
  ⟨fun p xs z => by rw [upd_ne (fun q => by rw [q, e] at z; cases z; exact mu)]; exact le.tup p xs z, fun p o w z => by rw [upd_ne (fun q => by rw [q, e] at z; cases z; exact mu)]; exact le.fz p o w z⟩
theorem LeW.thaw {o : Obj} (e : H a = some (.frz o u)) (mu : Mut (some u)) (nl : ∀ xs, u ≠ .lst xs) {v : HO} : LeW H (upd H a v) :=
  ⟨fun p xs z => by rw [upd_ne (fun q => by rw [q, e] at z; cases z)]; exact z, fun p o xs z => by rw [upd_ne (fun q => by rw [q, e] at z; cases z; exact nl _ rfl)]; exact z, fun p o xs z => by rw [upd_ne (fun q => by rw [q, e] at z; cases z; exact mu)]; exact z⟩
/-- the keys of the locked dict at d, as a row -/
def Itz (d : Addr) (o : Obj) (u : HO) (xs : List V) : It :=
  ⟨fun i H => H d = some (.frz o u) ∧ i < xs.length, fun i H x H' => H' = H ∧ xs[i]? = some x, fun i H => H d = some (.frz o u) ∧ xs.length ≤ i⟩
/-- for x in d: d is not written in the meantime -/
def iZ (X : Cx) (td : TE) : TI := fun σ H R => td σ H fun x H1 => ∃ d ob ks, x = .ref d ∧ ROb X.w X.K H1 d ob ∧ keysO ob = some ks ∧
  ∀ o u xs, H1 d = some u → Mut (some u) → RDs X.K H1 ks xs → (∀ o' u', X.H_0 d ≠ some (.frz o' u')) → R (Itz d o u xs) (upd H1 d (.frz o u))
end
section
variable {X : Cx} {elt tg iter : Expr} {ifs : List Expr} {scope : Scope} {own : List (Str × Nat)} {pos spos py : Pos} {g : DTG} {tt : DTT} {te tl : DTE}
/-- [.. for x in d if ..], d a dict that is not written in the meantime (nor read) -/
@[simp] def dLcK (tl : DTE) (g : DTG) (tt : DTT) (te : DTE) (vs : List Nat) : DTE := fun E τ S Q => tl E τ S fun d S1 => match d with
  | .ref a => (match S1 a with
    | some ob => opt (keysO ob) fun ks => ∀ p, S1 p = none → dLcL g tt te DW0 (wipeD τ vs) (fun _ => True) p (fun S' => Q (.ref p) (upo S' a ob)) ks (upo (delo S1 a) p (.lst []))
    | none => False)
  | _ => False
/-- what the comprehension leaves, ahead of the thaw -/
def QZ (X : Cx) (Q : VK) : VK := fun v H' => ∃ (a : Addr) (o : Obj) (u : HO), H' a = some (.frz o u) ∧ (∀ o' u', X.H_0 a ≠ some (.frz o' u')) ∧ Q v (upd H' a u)
end
end Dt
set_option maxRecDepth 100000
set_option maxHeartbeats 4000000
namespace Dt
open PySem PySem.Spec L2 PyProof.Rows
section
variable {X : Cx}
/-! ### count, index, remove: plain data -/
def mCount : RMD := fun d ds S Q => ∃ (y : D) (xs : List D), ds = [y] ∧ seqD S d = some xs ∧ Sm 60 y ∧ (∀ x ∈ xs, Sm 60 x) ∧ Q (.int (xs.count y : Nat)) S
def mIndex : RMD := fun d ds S Q => ∃ (y : D) (xs : List D) (j : Nat), ds = [y] ∧ seqD S d = some xs ∧ Sm 60 y ∧ (∀ x ∈ xs, Sm 60 x) ∧ xs[j]? = some y ∧ (∀ m, m < j → xs[m]? ≠ some y) ∧ Q (.int j) S
def mRemove : RMD := fun d ds S Q => mLst ds d S fun xs up => ∃ (y : D) (j : Nat), ds = [y] ∧ Sm 60 y ∧ (∀ x ∈ xs, Sm 60 x) ∧ xs[j]? = some y ∧ (∀ m, m < j → xs[m]? ≠ some y) ∧ Q .non (up (xs.eraseIdx j))
@[simp] def mClear : RMD := fun d ds S Q => mLst ds d S fun xs up => match ds with | [] => Q .non (up []) | _ => False
@[simp] def mPopAt : RMD := fun d ds S Q => mLst ds d S fun xs up => match ds with | [.int i] => (-(2 ^ 63) ≤ i ∧ i < 2 ^ 63) ∧ opt (seqIndex? i xs.length) fun k => opt xs[k]? fun y => Q y (up (xs.eraseIdx k)) | _ => False
/-! ### texts -/
@[simp] def mSplit : RMD := fun d ds S Q => match d, ds with | .str a, [.str b] => (b.length == 0) = false ∧ a.length + 2 ≤ sizeLine ∧ newO S (.lst ((Txt.split a b).map D.str)) fun p S' => Q (.ref p) S' | _, _ => False
@[simp] def cStr : RCD := fun ds S Q => match ds with | [.int i] => i.natAbs.log2 < 1920 ∧ Q (.str (toString i)) S | [.str a] => Q (.str a) S | _ => False
@[simp] def cIntS : RCD := fun ds S Q => match ds with | [.int i] => Q (.int i) S | [.bl b] => Q (.int (if b then 1 else 0)) S | [.str a] => a.length ≤ 640 ∧ opt (PySem.intText? a) fun n => Q (.int n) S | _ => False
end
section
variable {X : Cx} {tg l : Expr} {tl : DTE} {p pos : Pos}
@[simp] def dRev (tl : DTE) : DTI := fun E τ S R => tl E τ S fun d S1 => match d with
  | .tup ds => R (fun _ => True) ds.reverse S1
  | .rol ds => R (fun _ => True) ds.reverse S1
  | .ref a => (match S1 a with | some (.lst ds) => R (fun S => S a = some (.lst ds)) ds.reverse S1 | _ => False)
  | _ => False
/-! ### e[::-1] of a list -/
@[simp] def dRevL (tl : DTE) : DTE := fun E τ S Q => tl E τ S fun d S1 => opt (seqD S1 d) fun xs => newO S1 (.lst xs.reverse) fun p S' => Q (.ref p) S'
@[simp] def dRevLF (tl : DTE) : DTE := fun E τ S Q => tl E τ S fun d S1 => opt (seqD S1 d) fun xs => Q (.rol xs.reverse) S1
/-! ### tuple(reversed(e)), e a list -/
@[simp] def dTupRev (tl : DTE) : DTE := fun E τ S Q => tl E τ S fun d S1 => opt (seqD S1 d) fun xs => Q (.tup xs.reverse) S1
end
end Dt
set_option maxRecDepth 100000
set_option maxHeartbeats 4000000
namespace Dt
open PySem PySem.Spec L2 PyProof.Rows
section
variable {prog : Program} {w : World} {A : Around} {E : Value → Shared → Prop} {s : Shared} {R : Result → Shared → Prop}
end
section
variable {prog : Program} {w : World} {A : Around} {E : Value → Shared → Prop} {s : Shared} {R : Result → Shared → Prop}
end
section
variable {X : Cx} {l : Expr} {tl : DTE} {te : TE} {p p2 pos pos2 : Pos}
/-- tuple(reversed(x)), x a list or a tuple -/
def tTupRevA (K : PySem.W.Frag) (te : TE) : TE := fun σ H Q => te σ H fun v H1 => ∃ (a : Addr) (xs : List V), v = .ref a ∧ SqT K H1 a xs ∧ ∀ q, H1 q = none → Q (.ref q) (upd H1 q (.tup xs.reverse))
@[simp] def dTupRevT (tl : DTE) : DTE := fun E τ S Q => tl E τ S fun d S1 => match d with | .tup xs => Q (.tup xs.reverse) S1 | _ => False
end
end Dt
set_option maxRecDepth 100000
set_option maxHeartbeats 4000000
namespace Dt
open PySem PySem.Spec L2 PyProof.Rows
section
variable {prog : Program} {w : World} {A : Around} {E : Value → Shared → Prop} {s : Shared} {R : Result → Shared → Prop}
end
section
variable {X : Cx} {l : Expr} {tl : DTE} {te : TE} {p p2 pos pos2 : Pos}
/-- list(reversed(x)), x a tuple -/
def tLstRevA (K : PySem.W.Frag) (te : TE) : TE := fun σ H Q => te σ H fun v H1 => ∃ (a : Addr) (xs : List V), v = .ref a ∧ SqT K H1 a xs ∧ ∀ q, H1 q = none → Q (.ref q) (upd H1 q (.lst xs.reverse))
@[simp] def dLstRevT (tl : DTE) : DTE := fun E τ S Q => tl E τ S fun d S1 => match d with | .tup xs => newO S1 (.lst xs.reverse) fun p S' => Q (.ref p) S' | _ => False
@[simp] def dLstRevTF (tl : DTE) : DTE := fun E τ S Q => tl E τ S fun d S1 => match d with | .tup xs => Q (.rol xs.reverse) S1 | _ => False
end
end Dt
set_option maxRecDepth 100000
set_option maxHeartbeats 4000000
/-! DatE: exceptions: made, raised, caught, asked. -/
namespace Dt
open PySem PySem.Spec L2 PyProof.Rows
/-! ### an exception that is being made -/
/-- the base's __init__ is ValueError's -/
structure BaseI (K : PySem.W.Frag) (B : Addr) : Prop where
  rd : PySem.W.readsIn K B (.type "type") = true
  ga : PySem.W.specialIn K (.ref B) "__getattribute__" = some (some (.builtin "type.__getattribute__"))
  ini : PySem.W.findCls K (.ref B) (.type "type") "__init__" = some (.val (.builtin "ValueError.__init__"))
/-- B.__init__(self, ..) -/
@[simp] def dVeI (C : Addr) (t : DTA) : DTE := fun E τ S Q => t E τ S fun ds S1 => match ds with
  | .ref a :: ws => ws.length ≤ 1000 ∧ S1 a = some (.ex0 C) ∧ Q .non S1
  | _ => False
/-- self.f = e -/
def dPutXK (C : Addr) (f : Str) (y : D) (N : DH → Prop) : D → DH → Prop := fun d S2 => match d with
  | .ref a => (match S2 a with
    | some (.ex0 C') => C' = C ∧ newO S2 (.xm [(f, y)]) fun dx S3 => N (upo S3 a (.ex1 C dx))
    | some (.ex1 C' dx) => C' = C ∧ (match S2 dx with | some (.xm fs) => fs.length ≤ 900 ∧ N (upo S2 dx (.xm ((f, y) :: fs))) | _ => False)
    | _ => False)
  | _ => False
@[simp] def dPutX (C : Addr) (f : Str) (to te : DTE) : DTS := fun A τ S => te A.xe τ S fun y S1 => to A.xe τ S1 (dPutXK C f y (A.nx τ))
section
variable {X : Cx} {B C : Addr} {o e : Expr} {es : List Expr} {x f : Str} {t : DTA} {to te : DTE} {p p' p1 p2 pos : Pos}
end
/-! ### C(..), an exception -/
section
variable {X : Cx} {pins : List (Addr × Obj)} {σ : L2.St}
variable {k : Nat} {fI C : Addr} {fd : FuncData} {ps : List Str} {sp : DSp} {s : Shared}
end
/-! ### what is known of such a class -/
def xfactB (K : PySem.W.Frag) (C fI : Addr) (fl : List Str) : Bool :=
  decide (PySem.W.findIn K (.ref C) "__setattr__" = some (some (.builtin "object.__setattr__"))) && (decide (PySem.W.subIn K (.ref C) (.type "BaseException") = some true) && (decide (PySem.W.typeIn K (.ref C) = some (.type "type")) && (PySem.W.keepIn K (.ref C) &&
  (decide (PySem.W.findIn K (.ref C) "__init__" = some (some (.ref fI))) && (decide (PySem.W.typeIn K (.ref fI) = some (.type "function")) && (decide (PySem.W.findIn K (.ref C) "__getattribute__" = some (some (.builtin "BaseException.__getattribute__"))) && (decide (PySem.W.findIn K (.ref C) "__getattr__" = some none) &&
  (PySem.W.hasDictIn K C && (decide (PySem.W.findIn K (.ref C) "__class__" = some (some (.builtin "object.__class__"))) && (decide (PySem.W.specialIn K (.builtin "object.__class__") "__get__" = some (some (.builtin "getset_descriptor.__get__"))) && (decide (PySem.W.takesIn K (.builtin "object.__class__") = some true) &&
  (decide (PySem.W.mroIn K C (.type "object") = some true) && fl.all fun f => decide (PySem.W.findIn K (.ref C) f = some none)))))))))))))
/-- an own class of exceptions: fI its __init__, fl its fields -/
structure ExT (K : PySem.W.Frag) (C fI : Addr) (fl : List Str) : Prop where
  oc : OexC K C
  ini : PySem.W.findIn K (.ref C) "__init__" = some (some (.ref fI))
  ty : PySem.W.typeIn K (.ref fI) = some (.type "function")
  xf : XfC K C
  ec : ExcC K C
  no : ∀ f ∈ fl, NoAttr K C f
def basefB (K : PySem.W.Frag) (B : Addr) : Bool := PySem.W.readsIn K B (.type "type") && (decide (PySem.W.specialIn K (.ref B) "__getattribute__" = some (some (.builtin "type.__getattribute__"))) && decide (PySem.W.findIn K (.ref B) "__init__" = some (some (.builtin "ValueError.__init__"))))
/-- isinstance of such exceptions: the answers by their class -/
def kitfB (K : PySem.W.Frag) (c : Value) (subs : List (Addr × Bool)) : Bool := subs.all fun p => decide (PySem.W.kitOne K (.ref p.1) c = some p.2)
def kitsB (K : PySem.W.Frag) (cs : List Value) (subs : List (Addr × Bool)) : Bool := subs.all fun p => decide (PySem.W.kitAny K (.ref p.1) cs = some p.2)
/-- except c: the answers by their class -/
def exmfB (K : PySem.W.Frag) (c : Value) (subs : List (Addr × Bool)) : Bool := subs.all fun p => decide (PySem.W.exmOne K (.ref p.1) c = some p.2)
/-! ### raise C(..), C(..) as a value -/
@[simp] def dRaise (C : Addr) (sp : DSp) (t : DTA) : DTS := fun A τ S => t A.xe τ S fun ds S1 => ds.length ≤ 1000 ∧ ∀ a, S1 a = none → sp (.ref a :: ds) (upo S1 a (.ex0 C))
  (fun d S' => d = .non ∧ ∃ dx fs, dx ≠ a ∧ S' a = some (.ex1 C dx) ∧ S' dx = some (.xm fs) ∧ A.xe C fs τ (delo (delo S' a) dx)) fun _ _ _ => False
@[simp] def dMakeX (C : Addr) (sp : DSp) (t : DTA) : DTE := fun E τ S Q => t E τ S fun ds S1 => ds.length ≤ 1000 ∧ ∀ a, S1 a = none → sp (.ref a :: ds) (upo S1 a (.ex0 C))
  (fun d S' => d = .non ∧ ∃ dx fs, dx ≠ a ∧ S' a = some (.ex1 C dx) ∧ S' dx = some (.xm fs) ∧ Q (.ref a) (upo (upo (delo (delo S' a) dx) dx (.xd fs)) a (.exc C dx))) fun _ _ _ => False
section
variable {X : Cx} {k : Nat} {fI C : Addr} {fd : FuncData} {ps fl : List Str} {sp : DSp} {x : Str} {e : Expr} {es : List Expr} {t : DTA} {p pos pos' : Pos}
end
/-! ### asking an exception -/
def dFldXK (Cs : List Addr) (f : Str) (Q : DK) : DK := fun d S1 => match d with
  | .ref a => (match S1 a with
    | some (.exc C dd) => C ∈ Cs ∧ (match S1 dd with | some (.xd fs) => opt (fs.lookup f) fun v => Q v S1 | _ => False)
    | _ => False)
  | _ => False
/-- e.f -/
@[simp] def dFldX (Cs : List Addr) (f : Str) (te : DTE) : DTE := fun E τ S Q => te E τ S (dFldXK Cs f Q)
/-- isinstance(e, c): the answers by e's class -/
def dIsEK (subs : List (Addr × Bool)) (Q : DK) : DK := fun d S1 => match d with
  | .ref a => (match S1 a with | some (.exc C dd) => (∃ fs, S1 dd = some (.xd fs)) ∧ ∃ b, (C, b) ∈ subs ∧ Q (.bl b) S1 | _ => False)
  | _ => False
@[simp] def dIsE (subs : List (Addr × Bool)) (te : DTE) : DTE := fun E τ S Q => te E τ S (dIsEK subs Q)
section
variable {X : Cx} {pins : List (Addr × Obj)} {σ : L2.St} {H : Hp} {s : Shared} {a C dd : Addr}
end
section
variable {X : Cx} {e : Expr} {te : DTE} {f x : Str} {p p2 pos : Pos} {Cs : List Addr} {subs : List (Addr × Bool)} {C : Addr}
def rIsX (K : PySem.W.Frag) (c : V) (cv : Value) : List V → Hp → VK → Prop := fun xs H Q => ∃ (a C dd : Addr) (fs : List (Str × V)) (b : Bool), xs = [.ref a, c] ∧ ExcC K C ∧ H a = some (excHO C dd a) ∧ H dd = some (.xd fs) ∧ PySem.W.kitOne K (.ref C) cv = some b ∧ Q (.bl b) H
/-- class names, one by one -/
@[simp] def dCs (cs : List Addr) : DTA := fun _ _ S Q => Q (cs.map D.ref) S
def rIsXs (K : PySem.W.Frag) (cs : List Addr) : List V → Hp → VK → Prop := fun xs H Q => ∃ (a C dd : Addr) (fs : List (Str × V)) (b : Bool) (tp : Addr), xs = [.ref a, .ref tp] ∧ ExcC K C ∧ H a = some (excHO C dd a) ∧ H dd = some (.xd fs) ∧ SqT K H tp (cs.map V.ref) ∧ PySem.W.kitAny K (.ref C) (cs.map Value.ref) = some b ∧ Q (.bl b) H
end
/-! ### defs that may be called where an exception is handled -/
structure DFnT (P : Program) (w : World) (K : PySem.W.Frag) (mg : Str → Option Value) (base : Heap) (k : Nat) (f : Addr) (fd : FuncData) (ps : List Str) (sp : DSp) : Prop where
  mono : ∀ ds S (Q Q' : DK) (E E' : DXK), (∀ d S', Q d S' → Q' d S') → (∀ C fs S', E C fs S' → E' C fs S') → sp ds S Q E → sp ds S Q' E'
  len : ∀ ds S Q E, sp ds S Q E → ds.length = ps.length
  run : ∀ (A : Around) (outer : List Env) (s : Shared) (H : Hp) (args : Args) (us : List Value) (vs : List V) (Q : VK) (E : XK), L2H.RoomH k A → A.guards = some [] → Env0 P w K mg base A outer s H → BindsTo s fd args (ps.zip us) → Vals vs us →
    upSp w K sp vs H Q E → codeAny (model P w) A (.call (.ref f) args) (CR (L2.CX P w) outer P w H s Q E) s
/-- the context of a def's body, an exception handled ahead of it or not -/
def cxN (P : Program) (w : World) (K : PySem.W.Frag) (mg : Str → Option Value) (base : Heap) (N : List Str) (qual : Str) (scope : Scope) (f : Addr) (cd : Value) (A : Around) (outer : List Env) (s : Shared) (H : Hp) (E : XK) : Cx :=
  { cxOf (L2.CX P w) P w K mg base N qual scope f cd A outer s H E with calm := false }
section
variable {X : Cx} {k : Nat} {f : Addr} {fd : FuncData} {ps : List Str} {sp : DSp} {x : Str} {p pos : Pos} {e : Expr} {es : List Expr} {t : DTA}
end
/-! ### try: body / except x as n: suite -/
section
variable {X : Cx} {pins : List (Addr × Obj)} {σ : L2.St} {H : Hp} {s : Shared}
end
/-- the ends of a suite that has an exception's name in slot i -/
def sufA (A : DEnds) (i : Nat) : DEnds where
  nx := fun τ S => A.nx (τ.set i none) S
  rt := A.rt
  bk := fun τ S => A.bk (τ.set i none) S
  ct := fun τ S => A.ct (τ.set i none) S
@[simp] theorem sufA_nx (A : DEnds) (i : Nat) (τ : DSt) (S : DH) : (sufA A i).nx τ S = A.nx (τ.set i none) S := rfl
@[simp] theorem sufA_rt (A : DEnds) (i : Nat) : (sufA A i).rt = A.rt := rfl
/-- what a try's body wishes of an exception: subs says which classes the clause takes -/
def tryX (subs : List (Addr × Bool)) (i : Nat) (ts : DTS) (A : DEnds) : DW := fun C fs τ S => ∃ b, (C, b) ∈ subs ∧ (b = true → ∀ a dd, S a = none → S dd = none → a ≠ dd → ts (sufA A i) (τ.set i (some (.ref a))) (upo (upo S dd (.xd fs)) a (.exc C dd))) ∧ (b = false → A.xe C fs τ S)
@[simp] def dTry (subs : List (Addr × Bool)) (i : Nat) (tb ts : DTS) : DTS := fun A τ S => tb { A with xe := tryX subs i ts A } τ S
section
variable {X : Cx} {x n : Str} {c : Value} {i : Nat} {body suite : List Stmt} {b₀ : Stmt} {np pos pos' : Pos} {tb ts : DTS} {subs : List (Addr × Bool)}
end
/-! ### small things -/
theorem _root_.L2H.RoomH.units {A : Around} {k : Nat} (hr : L2H.RoomH k A) : A.units + 64 < cLine := by
  have := hr.un
  omega
def basexB (K : PySem.W.Frag) (B : Addr) : Bool := PySem.W.readsIn K B (.type "type") && (decide (PySem.W.specialIn K (.ref B) "__getattribute__" = some (some (.builtin "type.__getattribute__"))) &&
  match PySem.W.findCls K (.ref B) (.type "type") "__init__" with | some (.val v) => decide (v = .builtin "ValueError.__init__") | _ => false)
section
variable {K : PySem.W.Frag} {f : Str} {C fI : Addr} {fl : List Str} {Cs : List Addr} {b : Bool} {subs : List (Addr × Bool)}
end
/-- d[k] of a written dict of texts' -/
def dKixK (tbl : List (Str × D)) (Q : DK) : DK := fun d S => match d with | .str z => opt (tbl.lookup z) fun y => Q y S | _ => False
@[simp] def dKix (tbl : List (Str × D)) (tk : DTE) : DTE := fun E τ S Q => tk E τ S (dKixK tbl Q)
/-- what a written dict holds -/
structure KTbl (K : PySem.W.Frag) (w : World) (a : Addr) (tbl : List (Str × D)) : Prop where
  at_ : ∀ z y, tbl.lookup z = some y → ∃ v, KDct K w a z v ∧ ∀ H, RD K H y v
section
variable {X : Cx} {x : Str} {a : Addr} {tbl : List (Str × D)} {b : Expr} {tb : DTE} {p pos : Pos}
end
/-! count, index of truths in a list of truths -/
def mCountB : RMD := fun d ds S Q => ∃ (y : Bool) (xs : List Bool), ds = [.bl y] ∧ seqD S d = some (xs.map .bl) ∧ Q (.int (xs.count y : Nat)) S
def mIndexB : RMD := fun d ds S Q => ∃ (y : Bool) (xs : List Bool) (j : Nat), ds = [.bl y] ∧ seqD S d = some (xs.map .bl) ∧ xs[j]? = some y ∧ (∀ m, m < j → xs[m]? ≠ some y) ∧ Q (.int j) S
section
variable {X : Cx}
/-- str(x), x an int, a text or a tuple of data -/
@[simp] def cStrG : RCD := fun ds S Q => match ds with
  | [.int i] => i.natAbs.log2 < 1920 ∧ Q (.str (toString i)) S
  | [.str a] => Q (.str a) S
  | [.tup xs] => cRepr [.tup xs] S Q
  | _ => False
end
end Dt
set_option maxRecDepth 100000
set_option maxHeartbeats 4000000
namespace Rc
open PySem PySem.Spec L2
open Sh
open Dt hiding nkeys
/-! ShBk: patterns backwards. -/
mutual
def bk : Pt → Pt
  | .step b w => .step (!b) w
  | .seq b ps => .seq b (if b then (bks ps).reverse else bks ps)
  | .many p => .many (bk p)
  | .stay => .stay
  | .mark b m => .mark b m
def bks : List Pt → List Pt
  | [] => []
  | p :: ps => bk p :: bks ps
end
def sp_backwards (k : Nat) : DSp := fun ds S Q _ => ∃ p : Pt, ds = [ptD p] ∧ p.deep ≤ k + 1 ∧ (∀ q ∈ p.all, q.kids.length ≤ 1000) ∧ Q (ptD (bk p)) S
theorem kids_few {n : Nat} {p q : Pt} (h : ∀ r ∈ p.all, r.kids.length ≤ n) (hq : q ∈ p.kids) : ∀ r ∈ q.all, r.kids.length ≤ n := fun r hr => h r (by
  rw [Pt.all_kids]
  exact List.mem_cons_of_mem _ (List.mem_flatMap.mpr ⟨q, hq, hr⟩))
def t_backwards (spR : DSp) : DTS := (dSeq (dIf (dTest (dOp (dEq false) (dOp dIxS (dVar 0) (dC (.int 0))) (dC (.str "step"))))
      (dRet (dTup (dCons (dC (.str "step")) (dCons (dKix [("on", .str "back"), ("back", .str "on")] (dOp dIxS (dVar 0) (dC (.int 1)))) (dCons (dOp dIxS (dVar 0) (dC (.int 2))) dNil)))))
      dNx)
    (dSeq (dIf (dTest (dOp (dEq false) (dOp dIxS (dVar 0) (dC (.int 0))) (dC (.str "many"))))
      (dRet (dTup (dCons (dC (.str "many")) (dCons (dCall spR (dCons (dOp dIxS (dVar 0) (dC (.int 1))) dNil)) dNil))))
      dNx)
    (dSeq (dIf (dTest (dOp (dEq false) (dOp dIxS (dVar 0) (dC (.int 0))) (dC (.str "then"))))
      (dRet (dTup (dCons (dC (.str "then")) (dCons (dCB cTuple (dCons (dFz (dLc (dRev (dOp dIxS (dVar 0) (dC (.int 1)))) (dGN 1) dYes (dCall spR (dCons (dVar 1) dNil)) [1])) dNil)) dNil))))
      dNx)
    (dSeq (dIf (dTest (dOp (dEq false) (dOp dIxS (dVar 0) (dC (.int 0))) (dC (.str "either"))))
      (dRet (dTup (dCons (dC (.str "either")) (dCons (dCB cTuple (dCons (dFz (dLc (dSeqI (dOp dIxS (dVar 0) (dC (.int 1)))) (dGN 1) dYes (dCall spR (dCons (dVar 1) dNil)) [1])) dNil)) dNil))))
      dNx)
    (dRet (dVar 0))))))
abbrev N_backwards : List Str := ["pattern", "one"]
end Rc
set_option maxRecDepth 100000
set_option maxHeartbeats 4000000
namespace Sh
open PySem PySem.Spec L2 Dt Sh
theorem upo_swap {S : DH} {p q : Addr} {o o' u : Ob} (h : p ≠ q) : upo (upo (upo S p o) q u) p o' = upo (upo S p o') q u := by
  rw [upo_comm h.symm, upo_upo]
theorem come_src {mv : List Mv} {ms : List Str} {st : List Nat} {n : Nat} (h : Come mv ms st n) : n ∈ st ++ mv.map (·.b) := by
  cases h with
  | start h => exact List.mem_append_left _ h
  | move h _ _ => exact List.mem_append_right _ (List.mem_map.mpr ⟨_, h, rfl⟩)
theorem come_len {mv : List Mv} {ms : List Str} {st met : List Nat} (nd : met.Nodup) (h : ∀ n ∈ met, Come mv ms st n) : met.length ≤ st.length + mv.length := by
  have := nodup_sub_len nd fun n hn => come_src (h n hn)
  simpa using this
theorem come_iff {mv : List Mv} {ms : List Str} {st met : List Nat} (h1 : ∀ n ∈ met, Come mv ms st n) (h2 : ∀ n ∈ st, n ∈ met) (h3 : ∀ m ∈ mv, m.a ∈ met → holdsP ms m.p = true → m.b ∈ met) (n : Nat) : n ∈ met ↔ Come mv ms st n := by
  refine ⟨h1 n, fun h => ?_⟩
  induction h with
  | start h => exact h2 _ h
  | move hm _ hh ih => exact h3 _ hm ih hh
end Sh
set_option maxRecDepth 100000
set_option maxHeartbeats 4000000
namespace ShB
open PySem PySem.Spec L2 Dt Sh
/-! ShB: what the laws k30 to k43 have: draws, leaves, machines. -/
def sp_l_cell_at : DSp := fun ds S Q _ => ∃ (ns : List Int) (k : Nat), ds = [.rol (ns.map D.int), .int k] ∧ Q (.int (ns.getD k 0)) S
theorem sp_l_cell_at_mono : SpMono sp_l_cell_at := fun ds S Q Q' E E' k _ ⟨a, b, h1, h⟩ => ⟨a, b, h1, k _ _ h⟩
def sp_l_draws : DSp := fun ds S Q _ => ∃ (c : Int) (zs : List Nat), ds = [.int c, .rol (natsD zs)] ∧ zs.length ≤ 100000 ∧ (∀ z ∈ zs, 1 ≤ z ∧ z ≤ 1000000) ∧
  ∀ rs : List Nat, rs.length = zs.length → (∀ i, i < zs.length → rs.getD i 0 < zs.getD i 0) → Q (.rol (natsD rs)) S
theorem sp_l_draws_mono : SpMono sp_l_draws := fun ds S Q Q' E E' k _ ⟨a, b, h1, h2, h3, h⟩ => ⟨a, b, h1, h2, h3, fun rs e1 e2 => k _ _ (h rs e1 e2)⟩
def bWords : List Str := ["a", "ab", "stay"]
def bMarks : List Str := ["a", "many"]
def sp_l_words : DSp := fun ds S Q _ => ds = [] ∧ Q (.rol (strsD bWords)) S
theorem sp_l_words_mono : SpMono sp_l_words := fun ds S Q Q' E E' k _ ⟨h1, h⟩ => ⟨h1, k _ _ h⟩
def sp_l_marks : DSp := fun ds S Q _ => ds = [] ∧ Q (.rol (strsD bMarks)) S
theorem sp_l_marks_mono : SpMono sp_l_marks := fun ds S Q Q' E E' k _ ⟨h1, h⟩ => ⟨h1, k _ _ h⟩
/-- a leaf of these laws -/
def LfB (p : Pt) : Prop := p = .stay ∨ (∃ b w, p = .step b w ∧ (w = "*" ∨ w ∈ bWords)) ∨ ∃ b m, p = .mark b m ∧ m ∈ bMarks
def sp_l_leaf : DSp := fun ds S Q _ => ∃ (i j : Nat), ds = [.int i, .int j] ∧ i < 5 ∧ ∀ p, LfB p → Q (ptD p) S
theorem sp_l_leaf_mono : SpMono sp_l_leaf := fun ds S Q Q' E E' k _ ⟨a, b, h1, h2, h⟩ => ⟨a, b, h1, h2, fun p hp => k _ _ (h p hp)⟩
/-- a machine of plain data -/
structure Mc where
  n : Nat
  b : Nat
  es : List Nat
  mv : List Mv
def machD (M : Mc) : D := mcD (.int M.n) (.int M.b) (.tup (natsD M.es)) M.mv
structure OkMc (M : Mc) : Prop where
  b : M.b < M.n
  es : M.es.Pairwise (· < ·)
  esn : ∀ e ∈ M.es, e < M.n
  mv : (M.mv.map mvD).Pairwise fun x y => ltD x y = true
  mvn : ∀ m ∈ M.mv, m.a < M.n ∧ m.b < M.n ∧ m.p.isLeaf = true ∧ m.p.okP Nm
theorem LfB.leaf {p : Pt} (h : LfB p) : p.isLeaf = true := by
  rcases h with rfl | ⟨b, w, rfl, _⟩ | ⟨b, w, rfl, _⟩ <;> rfl
theorem bWords_nm : ∀ w ∈ bWords, Nm w := by
  intro w h
  simp [bWords] at h
  rcases h with rfl | rfl | rfl <;> refine ⟨by decide +kernel, by decide +kernel, by decide +kernel⟩
theorem bMarks_nm : ∀ w ∈ bMarks, Nm w := by
  intro w h
  simp [bMarks] at h
  rcases h with rfl | rfl <;> refine ⟨by decide +kernel, by decide +kernel, by decide +kernel⟩
theorem LfB.ok {p : Pt} (h : LfB p) : p.okP Nm := by
  rcases h with rfl | ⟨b, w, rfl, hw⟩ | ⟨b, w, rfl, hw⟩ <;> intro q hq <;> simp [Pt.all] at hq <;> subst hq
  · trivial
  · exact hw.imp id (bWords_nm w)
  · exact bMarks_nm w hw
theorem okP_imp {P P' : Str → Prop} (k : ∀ x, P x → P' x) {p : Pt} (h : p.okP P) : p.okP P' := fun q hq => by
  have := h q hq
  cases q with
  | step b w => exact this.imp id (k _)
  | mark b m => exact k _ this
  | _ => trivial
theorem OkMc.mvs {M : Mc} (h : OkMc M) : ∀ m ∈ M.mv, OkMv m := fun m hm => ⟨(h.mvn m hm).2.2.1, okP_imp (fun _ => Nm.okS) (h.mvn m hm).2.2.2⟩
def sp_l_machine : DSp := fun ds S Q _ => ∃ (c : Int) (m : Nat), ds = [.int c, .int m] ∧ 1 ≤ m ∧ m ≤ 50 ∧
  ∀ M : Mc, OkMc M → M.n ≤ m → M.mv.length ≤ 3 * m → (∀ x ∈ M.mv, LfB x.p) → Q (machD M) S
def sp_l_still : DSp := fun ds S Q _ => ∃ (x y z : D) (mv : List Mv) (st : List Nat) (ms : List Str), ds = [mcD x y z mv, .rol (natsD st), .rol (strsD ms)] ∧ (∀ m ∈ mv, OkMv m) ∧ (∀ m ∈ ms, okS m) ∧ st.length + mv.length ≤ 100000 ∧ st.Nodup ∧
  ∀ L : List Nat, L.Nodup → (∀ n, n ∈ L ↔ Come mv ms st n) → Q (.rol (natsD L)) S
theorem sp_l_still_mono : SpMono sp_l_still := fun ds S Q Q' E E' k _ ⟨x, y, z, mv, st, ms, h1, h2, h3, h4, h5, h⟩ => ⟨x, y, z, mv, st, ms, h1, h2, h3, h4, h5, fun L a b => k _ _ (h L a b)⟩
def sp_l_by : DSp := fun ds S Q _ => ∃ (x y z : D) (mv : List Mv) (st : List Nat) (side word : Str) (d : D), ds = [mcD x y z mv, d, .str side, .str word] ∧ (d = .rol (natsD st) ∨ d = .tup (natsD st)) ∧ (∀ m ∈ mv, OkMv m) ∧ mv.length ≤ 100000 ∧
  ∀ L : List Nat, L.Nodup → (∀ n, n ∈ L ↔ ByStep mv st side word n) → Q (.rol (natsD L)) S
theorem sp_l_by_mono : SpMono sp_l_by := fun ds S Q Q' E E' k _ ⟨x, y, z, mv, st, side, word, d, h1, h2, h3, h4, h⟩ => ⟨x, y, z, mv, st, side, word, d, h1, h2, h3, h4, fun L a b => k _ _ (h L a b)⟩
def t_l_cell_at : DTS := (dSeq (dIf (dTest (dOp rLt (dVar 1) (dCB cLen (dCons (dVar 0) dNil))))
      (dRet (dOp dIxS (dVar 0) (dVar 1)))
      dNx)
    (dRet (dC (.int 0))))
abbrev N_l_cell_at : List Str := ["_law_script", "_law_k"]
def t_l_draws : DTS := (dSeq (dAsg (dLst dNil) (dGN 2))
    (dSeq (dAsg (dOp rSub (dVar 0) (dOp rPow (dC (.int 10)) (dC (.int 18)))) (dGN 3))
    (dSeq (dFor (dRng1 (dCons (dCB cLen (dCons (dVar 1) dNil)) dNil)) (dGN 4)
      (dSeq (dAsg (dOp rMod (dOp dMul (dOp dAddF (dOp rMod (dVar 0) (dC (.int 1000003))) (dC (.int 1))) (dOp dAddF (dOp dMul (dVar 4) (dVar 4)) (dC (.int 48271)))) (dC (.int 65537))) (dGN 5))
    (dSeq (dAsg (dOp rMod (dOp dMul (dOp dAddF (dOp dAddF (dOp dMul (dVar 5) (dVar 5)) (dOp dMul (dC (.int 7919)) (dVar 4))) (dC (.int 11))) (dC (.int 30269))) (dC (.int 999983))) (dGN 5))
    (dSeq (dIf (dTest (dOp rGe (dVar 0) (dOp rPow (dC (.int 10)) (dC (.int 18)))))
      (dAsg (dVar 3) (dGN 5))
      dNx)
    (dSeq (dDrop (dBM "list" mAppend (dVar 2) (dCons (dOp rMod (dVar 5) (dOp dIxS (dVar 1) (dVar 4))) dNil)))
    (dAsg (dOp rFdiv (dVar 3) (dOp dIxS (dVar 1) (dVar 4))) (dGN 3)))))))
    (dRet (dVar 2)))))
abbrev N_l_draws : List Str := ["_law_cell", "_law_sizes", "_law_found", "_law_figures", "_law_k", "_law_mixed"]
def t_l_words : DTS := (dRet (dLstF (dCons (dC (.str "a")) (dCons (dC (.str "ab")) (dCons (dC (.str "stay")) dNil)))))
abbrev N_l_words : List Str := []
def t_l_marks : DTS := (dRet (dLstF (dCons (dC (.str "a")) (dCons (dC (.str "many")) dNil))))
abbrev N_l_marks : List Str := []
def t_l_still : DTS := (dSeq (dAsg (dCB cListA (dCons (dVar 1) dNil)) (dGN 3))
    (dSeq (dAsg (dC (.int 0)) (dGN 4))
    (dSeq (dWhile (dTest (dOp rLt (dVar 4) (dCB cLen (dCons (dVar 3) dNil))))
      (dSeq (dFor (dSeqI (dOp dIxS (dVar 0) (dC (.int 3)))) (dGTup 3 (dGCons (dGN 5) (dGCons (dGN 6) (dGCons (dGN 7) dGNil))))
      (dIf (dAnd (dTest (dOp (dEq false) (dVar 5) (dOp dIxS (dVar 3) (dVar 4)))) (dAnd (dTest (dOp (dIn true) (dVar 7) (dVar 3))) (dTest (dOp (dEq true) (dOp dIxS (dVar 6) (dC (.int 0))) (dC (.str "step"))))))
      (dIf (dOr (dTest (dOp (dEq false) (dOp dIxS (dVar 6) (dC (.int 0))) (dC (.str "stay")))) (dTest (dOp (dEq false) (dOp (dIn false) (dOp dIxS (dVar 6) (dC (.int 1))) (dVar 2)) (dOp (dEq false) (dOp dIxS (dVar 6) (dC (.int 0))) (dC (.str "at"))))))
      (dDrop (dBM "list" mAppend (dVar 3) (dCons (dVar 7) dNil)))
      dNx)
      dNx))
    (dAsg (dOp dAddF (dVar 4) (dC (.int 1))) (dGN 4))))
    (dRet (dVar 3)))))
abbrev N_l_still : List Str := ["_law_machine_here", "_law_stands", "_law_marks_here", "_law_found", "_law_at", "_law_one", "_law_leaf_here", "_law_other"]
def t_l_by : DTS := (dSeq (dAsg (dLst dNil) (dGN 4))
    (dSeq (dFor (dSeqI (dOp dIxS (dVar 0) (dC (.int 3)))) (dGTup 3 (dGCons (dGN 5) (dGCons (dGN 6) (dGCons (dGN 7) dGNil))))
      (dIf (dAnd (dTest (dOp (dIn false) (dVar 5) (dVar 1))) (dAnd (dTest (dOp (dEq false) (dOp dIxS (dVar 6) (dC (.int 0))) (dC (.str "step")))) (dAnd (dTest (dOp (dEq false) (dOp dIxS (dVar 6) (dC (.int 1))) (dVar 2))) (dTest (dOp (dIn false) (dOp dIxS (dVar 6) (dC (.int 2))) (dTup (dCons (dC (.str "*")) (dCons (dVar 3) dNil))))))))
      (dIf (dTest (dOp (dIn true) (dVar 7) (dVar 4)))
      (dDrop (dBM "list" mAppend (dVar 4) (dCons (dVar 7) dNil)))
      dNx)
      dNx))
    (dRet (dVar 4))))
abbrev N_l_by : List Str := ["_law_machine_here", "_law_stands", "_law_side", "_law_word", "_law_found", "_law_one", "_law_leaf_here", "_law_other"]
def t_l_right : DTS := (dSeq (dIf (dOr (dNot (dTest (dIsi "tuple" (dVar 0)))) (dTest (dOp (dEq true) (dCB cListAF (dCons (dVar 0) dNil)) (dCB cSortAF (dCons (dVar 1) dNil)))))
      (dRet (dC (.bl false)))
      dNx)
    (dRet (dOp (dEq false) (dFz (dLc (dSeqI (dVar 0)) (dGN 2) (dTest (dIsi "bool" (dVar 2))) (dVar 2) [2])) (dLstF dNil))))
abbrev N_l_right : List Str := ["_law_found", "_law_due", "_law_stand"]
def t_l_leaf : DTS := (dSeq (dIf (dTest (dOp (dEq false) (dVar 0) (dC (.int 0))))
      (dRet (dTup (dCons (dC (.str "stay")) dNil)))
      dNx)
    (dSeq (dIf (dTest (dOp rLt (dVar 0) (dC (.int 3))))
      (dRet (dTup (dCons (dC (.str "step")) (dCons (dOp dIxS (dLstF (dCons (dC (.str "on")) (dCons (dC (.str "back")) dNil))) (dOp rMod (dVar 1) (dC (.int 2)))) (dCons (dOp dIxS (dOp dAddF (dCall sp_l_words dNil) (dLstF (dCons (dC (.str "*")) dNil))) (dOp rMod (dOp rFdiv (dVar 1) (dC (.int 2))) (dC (.int 4)))) dNil)))))
      dNx)
    (dRet (dTup (dCons (dOp dIxS (dLstF (dCons (dC (.str "at")) (dCons (dC (.str "off")) dNil))) (dOp rSub (dVar 0) (dC (.int 3)))) (dCons (dOp dIxS (dCall sp_l_marks dNil) (dOp rMod (dVar 1) (dC (.int 2)))) dNil))))))
abbrev N_l_leaf : List Str := ["_law_way", "_law_number"]
def t_l_machine : DTS := (dSeq (dAsg (dCall sp_l_draws (dCons (dVar 0) (dCons (dOp dAddF (dLstF (dCons (dVar 1) (dCons (dVar 1) (dCons (dC (.int 8)) (dCons (dOp dMul (dC (.int 3)) (dVar 1)) dNil))))) (dFz (dOp dMul (dOp dMul (dLst (dCons (dVar 1) (dCons (dC (.int 5)) (dCons (dC (.int 16)) (dCons (dVar 1) dNil))))) (dC (.int 3))) (dVar 1)))) dNil))) (dGN 2))
    (dSeq (dAsg (dOp dAddF (dC (.int 1)) (dOp dIxS (dVar 2) (dC (.int 0)))) (dGN 3))
    (dSeq (dAsg (dFz (dLc (dRng1 (dCons (dVar 3) dNil)) (dGN 11) (dTest (dOp (dEq false) (dOp rMod (dOp rFdiv (dOp dIxS (dVar 2) (dC (.int 2))) (dOp dIxS (dLstF (dCons (dC (.int 1)) (dCons (dC (.int 2)) (dCons (dC (.int 4)) dNil)))) (dOp rMod (dVar 11) (dC (.int 3))))) (dC (.int 2))) (dC (.int 1)))) (dVar 11) [11])) (dGN 4))
    (dSeq (dAsg dDnN (dGN 5))
    (dSeq (dFor (dRng1 (dCons (dOp dIxS (dVar 2) (dC (.int 3))) dNil)) (dGN 6)
      (dSeq (dAsg (dSlF (dVar 2) (dSoP (dOp dAddF (dC (.int 4)) (dOp dMul (dC (.int 4)) (dVar 6)))) (dSoP (dOp dAddF (dC (.int 8)) (dOp dMul (dC (.int 4)) (dVar 6))))) (dGTupA 4 (dGCons (dGN 7) (dGCons (dGN 8) (dGCons (dGN 9) (dGCons (dGN 10) dGNil))))))
    (dPut (dVar 5) (dTup (dCons (dOp rMod (dVar 7) (dVar 3)) (dCons (dCall sp_l_leaf (dCons (dVar 8) (dCons (dVar 9) dNil))) (dCons (dOp rMod (dVar 10) (dVar 3)) dNil)))) (dC (.bl true)))))
    (dRet (dTup (dCons (dVar 3) (dCons (dOp rMod (dOp dIxS (dVar 2) (dC (.int 1))) (dVar 3)) (dCons (dCB cTuple (dCons (dVar 4) dNil)) (dCons (dCB cTuple (dCons (dCB cSortAF (dCons (dVar 5) dNil)) dNil)) dNil)))))))))))
abbrev N_l_machine : List Str := ["_law_cell", "_law_most", "_law_ds", "_law_many", "_law_ends", "_law_moves", "_law_j", "_law_one", "_law_way", "_law_number", "_law_other", "_law_stand"]
theorem rng_get {n i : Nat} {d : D} (h : (rngD 0 n)[i]? = some d) : i < n ∧ d = .int i := by
  unfold rngD at h
  rw [List.getElem?_map] at h
  by_cases hi : i < n
  · rw [List.getElem?_range hi] at h
    simp at h
    exact ⟨hi, h.symm⟩
  · rw [List.getElem?_eq_none (by simpa using Nat.not_lt.mp hi)] at h
    simp at h
theorem rng_len (lo : Int) (n : Nat) : (rngD lo n).length = n := by simp [rngD]
theorem atI_nats {xs : List Nat} {i : Nat} (h : i < xs.length) : atI (natsD xs) (i : Int) = some (.int (xs.getD i 0 : Nat)) := by
  refine atI_nat (j := i) ?_
  simp [h]
theorem r_l_cell_at (ds S Q E) (h : sp_l_cell_at ds S Q E) : t_l_cell_at (dEnd Q E) (dstart N_l_cell_at ds) S := by
  obtain ⟨ns, k, rfl, h⟩ := h
  simp [t_l_cell_at, dstart]
  split
  · rename_i hk
    rw [atI_map (by omega)]
    simp
    exact .same h
  · rename_i hk
    rw [List.getD_eq_getElem?_getD, List.getElem?_eq_none (by omega)] at h
    exact .same h
theorem r_l_words (ds S Q E) (h : sp_l_words ds S Q E) : t_l_words (dEnd Q E) (dstart N_l_words ds) S := by
  obtain ⟨rfl, h⟩ := h
  simp [t_l_words, dstart]
  exact .same h
theorem r_l_marks (ds S Q E) (h : sp_l_marks ds S Q E) : t_l_marks (dEnd Q E) (dstart N_l_marks ds) S := by
  obtain ⟨rfl, h⟩ := h
  simp [t_l_marks, dstart]
  exact .same h
theorem r_l_draws (ds S Q E) (h : sp_l_draws ds S Q E) : t_l_draws (dEnd Q E) (dstart N_l_draws ds) S := by
  obtain ⟨c, zs, rfl, h1, h2, h⟩ := h
  unfold t_l_draws
  refine dSeq_gen fun R hR => ?_
  simp [dstart]
  intro p hp
  subst hR
  have c0 : CPow 10 18 := by unfold CPow; decide
  refine dSeq_gen fun R hR => ?_
  simp [c0]
  subst hR
  refine dSeqFor_gen fun B R hB hR => ?_
  simp
  refine ⟨by omega, ?_⟩
  refine loop_inv (fun i τ S' => ∃ (rs : List Nat) (f : Int) (x4 x5 : Option D), τ = [some (.int c), some (.rol (natsD zs)), some (.ref p), some (.int f), x4, x5] ∧ S' = upo S p (.lst (natsD rs)) ∧ rs.length = i ∧ ∀ j, j < i → rs.getD j 0 < zs.getD j 0) ⟨[], _, none, none, rfl, rfl, rfl, by simp⟩ (fun _ _ _ _ _ => trivial) ?_ ?_
  · rintro i d τ S1 N hd ⟨rs, f, x4, x5, rfl, rfl, hl, hj⟩ hN
    obtain ⟨hi, rfl⟩ := rng_get hd
    subst hB
    have hz := h2 _ (List.getElem_mem hi)
    have hgz : zs.getD i 0 = zs[i] := by simp [hi]
    have b0 : Bd 17 (i : Int) := by unfold Bd; omega
    have b1 : Bd 20 (c % 1000003 + 1) := by unfold Bd; omega
    have b2 : Bd 35 ((i : Int) * i + 48271) := Bd.add (b0.mul b0) (show Bd 34 48271 by unfold Bd; decide)
    have b3 : ∀ x : Int, Bd 17 (x % 65537) := fun x => Bd.mod (by decide) (by unfold Bd; decide)
    have b4 : ∀ x : Int, Bd 36 (x % 65537 * (x % 65537) + 7919 * i + 11) := fun x => Bd.add (Bd.add ((b3 x).mul (b3 x)) (((show Bd 13 7919 by unfold Bd; decide).mul b0).mono (by decide))) (show Bd 35 11 by unfold Bd; decide)
    have c1 := b0.cm b0
    have c2 := b1.cm b2
    have c3 := fun x => (b3 x).cm (b3 x)
    have c4 := (show Bd 13 7919 by unfold Bd; decide).cm b0
    have c5 := fun x => (b4 x).cm (show Bd 15 30269 by unfold Bd; decide)
    have c6 : CDivW f (zs[i] : Nat) := wide_div (by omega) (b := 20) (by omega) (by decide) (by decide)
    have cp : (0 : Int) < (zs[i] : Nat) := by omega
    have fin : ∀ (x : Int) (y : Option D), N [some (.int c), some (.rol (natsD zs)), some (.ref p), some (.int (f / (zs[i] : Nat))), some (.int i), y] (upo S p (.lst (natsD rs ++ [.int (x % (zs[i] : Nat))]))) := fun x y => by
      obtain ⟨r, hr⟩ := Int.eq_ofNat_of_zero_le (Int.emod_nonneg x (show ((zs[i] : Nat) : Int) ≠ 0 by omega))
      have hr2 := Int.emod_lt_of_pos x cp
      rw [hr] at hr2 ⊢
      refine hN _ _ ⟨rs ++ [r], _, _, _, rfl, by simp, by simp [hl], fun j hj' => ?_⟩
      by_cases e : j < i
      · have := hj j e
        simp at this
        simp [List.getElem?_append_left (show j < rs.length by omega), this]
      · have e : j = rs.length := by omega
        subst e
        simp [hl, hi] at hr2 ⊢
        omega
    have ix := atI_nats hi
    rw [hgz] at ix
    simp only [natsD] at ix
    simp [c1, c2, c3, c4, c5, c0]
    split
    · simp [ix, cp, c6]
      exact ⟨by omega, by omega, fin _ _⟩
    · simp [ix, cp, c6]
      exact ⟨by omega, by omega, fin _ _⟩
  · rintro τ S1 ⟨rs, f, x4, x5, rfl, rfl, hl, hj⟩
    simp only [rng_len] at hl hj
    subst hR
    simp
    exact .rol (by simp) hp (Sub.new hp) (h rs hl hj)

theorem r_l_leaf (ds S Q E) (h : sp_l_leaf ds S Q E) : t_l_leaf (dEnd Q E) (dstart N_l_leaf ds) S := by
  obtain ⟨i, j, rfl, hi, h⟩ := h
  simp [t_l_leaf, dstart]
  by_cases c0 : i = 0
  · simp [c0]
    exact .same (h .stay (.inl rfl))
  have c2 : CDivW j 2 := wide_div (by decide) (b := 3) (by decide) (by decide) (by decide)
  by_cases c1 : (i : Int) < 3
  · simp [c0, c1, sp_l_words, bWords, catD, c2]
    refine opt_at (by omega) (by simp; omega) fun y hy => ?_
    refine opt_at (by omega) (by simp; omega) fun z hz => ?_
    simp at hy hz
    obtain ⟨b, rfl⟩ : ∃ b : Bool, y = .str (if b then "on" else "back") := by
      rcases hy with rfl | rfl
      · exact ⟨true, rfl⟩
      · exact ⟨false, rfl⟩
    obtain ⟨w, hw, rfl⟩ : ∃ w : Str, (w = "*" ∨ w ∈ bWords) ∧ z = .str w := by
      rcases hz with rfl | rfl | rfl | rfl <;> exact ⟨_, by simp [bWords], rfl⟩
    exact .same (h (.step b w) (.inr (.inl ⟨b, w, rfl, hw⟩)))
  · simp [c0, c1, sp_l_marks, bMarks]
    refine opt_at (by omega) (by simp; omega) fun y hy => ?_
    refine opt_at (by omega) (by simp; omega) fun z hz => ?_
    simp at hy hz
    obtain ⟨b, rfl⟩ : ∃ b : Bool, y = .str (if b then "at" else "off") := by
      rcases hy with rfl | rfl
      · exact ⟨true, rfl⟩
      · exact ⟨false, rfl⟩
    obtain ⟨w, hw, rfl⟩ : ∃ w : Str, w ∈ bMarks ∧ z = .str w := by
      rcases hz with rfl | rfl <;> exact ⟨_, by simp [bMarks], rfl⟩
    exact .same (h (.mark b w) (.inr (.inr ⟨b, w, rfl, hw⟩)))
theorem perm_map_ex {α β : Type} {f : α → β} {x y : List β} (h : x.Perm y) : ∀ {l : List α}, y = l.map f → ∃ l2 : List α, l2.Perm l ∧ x = l2.map f := by
  induction h with
  | nil => intro l e; cases l with | nil => exact ⟨[], .refl _, rfl⟩ | cons a l => cases e
  | cons a h ih =>
    intro l e
    cases l with
    | nil => cases e
    | cons b l =>
      simp at e
      obtain ⟨l2, p, e2⟩ := ih e.2
      exact ⟨b :: l2, p.cons _, by simp [e.1, e2]⟩
  | swap a b l' =>
    intro l e
    match l, e with
    | c :: d :: l, e => simp at e; exact ⟨d :: c :: l, .swap _ _ _, by simp [e]⟩
  | trans h1 h2 ih1 ih2 =>
    intro l e
    obtain ⟨l2, p, e2⟩ := ih2 e
    obtain ⟨l3, p3, e3⟩ := ih1 e2
    exact ⟨l3, p3.trans p, e3⟩
theorem okT_mv {m : Mv} (h : m.p.isLeaf = true) : okT (mvD m) = true := by
  obtain ⟨a, p, b⟩ := m
  cases p with
  | stay => rfl
  | step c w => cases c <;> rfl
  | mark c w => cases c <;> rfl
  | many p => cases h
  | seq c p => cases h
abbrev mvTy : Ty := .tup [.int, .hom1 .str, .int]
theorem mv_ty {m : Mv} (h : OkMv m) : hasTy mvTy (mvD m) = true := by
  obtain ⟨a, p, b⟩ := m
  obtain ⟨h1, h2⟩ := h
  have := h2 _ (Pt.self_all _)
  have s1 : PyData.strOk (Str.ofString "stay") = true := ok_lit _
  have s2 : PyData.strOk (Str.ofString "step") = true := ok_lit _
  have s3 : PyData.strOk (Str.ofString "at") = true := ok_lit _
  have s4 : PyData.strOk (Str.ofString "off") = true := ok_lit _
  have s5 : PyData.strOk (Str.ofString "on") = true := ok_lit _
  have s6 : PyData.strOk (Str.ofString "back") = true := ok_lit _
  have s7 : PyData.strOk (Str.ofString "*") = true := ok_lit _
  cases p with
  | stay => simp [hasTy, hasTys, mvD, ptD, s1]
  | step c w =>
    have hw : PyData.strOk w = true := this.elim (fun e => e ▸ s7) id
    clear this
    cases c <;> simp [hasTy, hasTys, mvD, ptD, s2, s5, s6, hw]
  | mark c w =>
    have hw : PyData.strOk w = true := this
    clear this
    cases c <;> simp [hasTy, hasTys, mvD, ptD, s3, s4, hw]
  | many p => cases h1
  | seq c p => cases h1
theorem srt_strict {t : Ty} {ds : List D} (ht : ∀ d ∈ ds, hasTy t d = true) (nd : ds.Nodup) : (srtD ds).Pairwise fun x y => ltD x y = true := by
  have h1 := srt_sorted ds
  have h2 : (srtD ds).Nodup := (srt_perm ds).nodup_iff.mpr nd
  have h3 : ∀ d ∈ srtD ds, hasTy t d = true := fun d hd => ht d (srt_mem.mp hd)
  revert h1 h2 h3
  generalize srtD ds = l
  intro h1 h2 h3
  induction l with
  | nil => exact .nil
  | cons a l ih =>
    rw [List.pairwise_cons] at h1 ⊢
    rw [List.nodup_cons] at h2
    refine ⟨fun b hb => ?_, ih h1.2 h2.2 fun d hd => h3 d (List.mem_cons_of_mem _ hd)⟩
    by_cases e : ltD a b = true
    · exact e
    · exact absurd (ltD_tri (h3 a (List.mem_cons_self ..)) (h3 b (List.mem_cons_of_mem _ hb)) (by simpa using e) (h1.1 b hb)) fun e' => h2.1 (e' ▸ hb)
end ShB
set_option maxRecDepth 100000
set_option maxHeartbeats 4000000
namespace ShB
open PySem PySem.Spec L2 Dt Sh
end ShB
set_option maxRecDepth 100000
set_option maxHeartbeats 4000000
namespace ShB
open PySem PySem.Spec L2 Dt Sh
theorem bystep_take {mv : List Mv} {st : List Nat} {side word : Str} {n : Nat} : ByStep (mv.take mv.length) st side word n ↔ ByStep mv st side word n := by rw [List.take_length]
theorem inF2 (w word : Str) : inF (.str w) [.str "*", .str word] = (decide (w = "*") || decide (w = word)) := by
  simp [inF, eqF]
  rw [str_beq, str_beq]
  congr 1 <;> exact decide_eq_decide.mpr eq_comm
@[simp] theorem dInQ_nat {neg : Bool} {m : Nat} {st : List Nat} {S : DH} {Q : DK} : dInQ neg (.int m) (natsD st) S Q = Q (.bl (if neg then !decide (m ∈ st) else decide (m ∈ st))) S := by
  rw [dInQ_fl rfl (by simp [flD]), inF_nat]
theorem r_l_by (ds S Q E) (h : sp_l_by ds S Q E) : t_l_by (dEnd Q E) (dstart N_l_by ds) S := by
  obtain ⟨x, y, z, mv, st, side, word, d, rfl, hd, h1, h2, h⟩ := h
  unfold t_l_by
  refine dSeq_gen fun R hR => ?_
  simp [dstart]
  intro p hp
  subst hR
  refine dSeqFor_gen fun B R hB hR => ?_
  simp [mcD, atI_mc]
  refine loop_inv (fun i τ S' => ∃ (met : List Nat) (x5 x6 x7 : Option D), τ = [some (mcD x y z mv), some d, some (.str side), some (.str word), some (.ref p), x5, x6, x7] ∧ S' = upo S p (.lst (natsD met)) ∧ met.Nodup ∧ met.length ≤ i ∧ ∀ n, n ∈ met ↔ ByStep (mv.take i) st side word n) ⟨[], none, none, none, rfl, rfl, .nil, Nat.le_refl _, fun n => by simp [ByStep]⟩ (fun _ _ _ _ _ => trivial) ?_ ?_
  · rintro i d' τ S1 N hd' ⟨met, x5, x6, x7, rfl, rfl, nd, hl, hm⟩ hN
    obtain ⟨hi, rfl⟩ := mv_at hd'
    clear hd'
    have ok := h1 _ (List.getElem_mem hi)
    have nx := fun n => bystep_succ hi (st := st) (side := side) (word := word) (n := n)
    generalize em : mv[i] = m at ok nx
    have no : ¬ (m.a ∈ st ∧ fitsP side word m.p = true) → N [some (mcD x y z mv), some d, some (.str side), some (.str word), some (.ref p), some (D.int ↑m.a), some (ptD m.p), some (D.int ↑m.b)] (upo S p (.lst (natsD met))) := fun hno =>
      hN _ _ ⟨met, _, _, _, rfl, rfl, nd, by omega, fun n => by rw [nx, hm]; exact ⟨.inl, fun z => z.elim id fun z => absurd ⟨z.1, z.2.1⟩ hno⟩⟩
    have yes : m.a ∈ st → fitsP side word m.p = true → m.b ∉ met → N [some (mcD x y z mv), some d, some (.str side), some (.str word), some (.ref p), some (D.int ↑m.a), some (ptD m.p), some (D.int ↑m.b)] (upo S p (.lst (natsD met ++ [.int m.b]))) := fun a f b =>
      hN _ _ ⟨met ++ [m.b], _, _, _, rfl, by simp, by have := add_nodup (b := m.b) nd; rwa [if_neg b] at this, by simp; omega, fun n => by
        rw [nx, ← hm]; simp; exact ⟨fun z => z.imp id fun z => ⟨a, f, z⟩, fun z => z.imp id fun z => z.2.2⟩⟩
    have al : m.a ∈ st → fitsP side word m.p = true → m.b ∈ met → N [some (mcD x y z mv), some d, some (.str side), some (.str word), some (.ref p), some (D.int ↑m.a), some (ptD m.p), some (D.int ↑m.b)] (upo S p (.lst (natsD met))) := fun a f b =>
      hN _ _ ⟨met, _, _, _, rfl, rfl, nd, by omega, fun n => by
        rw [nx, hm]; exact ⟨.inl, fun z => z.elim id fun z => by rw [z.2.2, ← hm]; exact b⟩⟩
    simp [mvD]
    subst hB
    have pl : pl (D.int (m.b : Int)) = true := rfl
    have lf := ok.leaf
    clear ok nx em
    obtain ⟨ma, q, mb⟩ := m
    simp only at no yes al lf ⊢
    cases q with
    | stay => rcases hd with rfl | rfl <;> simp [inF_nat, ptD] <;> exact no fun z => by simp [fitsP] at z
    | mark b w => cases b <;> rcases hd with rfl | rfl <;> simp [inF_nat, ptD] <;> exact no fun z => by simp [fitsP] at z
    | step b w =>
      simp only [fitsP, ptD] at no yes al ⊢
      generalize (if b = true then Str.ofString "on" else Str.ofString "back" : Str) = sd at no yes al ⊢
      by_cases h1 : ma ∈ st
      · by_cases h2 : sd = side
        · by_cases h3 : w = Str.ofString "*" ∨ w = word
          · by_cases h4 : mb ∈ met
            · have := al h1 (by simpa [h2] using h3) h4
              rcases hd with rfl | rfl <;> simp [h1, h2, h3, h4, inF_nat, inF2] <;> simpa [h2] using this
            · have := yes h1 (by simpa [h2] using h3) h4
              rcases hd with rfl | rfl <;> simp [h1, h2, h3, h4, inF_nat, inF2] <;> exact ⟨by omega, by simpa [h2] using this⟩
          · have := no fun z => h3 (by simpa [h2] using z.2)
            rcases hd with rfl | rfl <;> simp [h1, h2, h3, inF_nat, inF2] <;> simpa [h2] using this
        · have := no fun z => h2 (by have := z.2; simp at this; exact this.1)
          rcases hd with rfl | rfl <;> simp [h1, h2, inF_nat, inF2] <;> simpa [h2] using this
      · have := no fun z => h1 z.1
        rcases hd with rfl | rfl <;> simp [h1, inF_nat, inF2] <;> simpa using this
    | many q => cases lf
    | seq b q => cases lf
  · rintro τ S1 ⟨met, x5, x6, x7, rfl, rfl, nd, hl, hm⟩
    subst hR
    simp
    exact .rol (by simp) hp (Sub.new hp) (h met nd fun n => by rw [hm, List.length_map, bystep_take])
end ShB
set_option maxRecDepth 100000
set_option maxHeartbeats 4000000
namespace ShB
open PySem PySem.Spec L2 Dt Sh
theorem inF_strs {w : Str} {ms : List Str} : inF (.str w) (strsD ms) = decide (w ∈ ms) := by
  induction ms with
  | nil => simp [inF]
  | cons a ms ih =>
    simp only [strsD, List.map_cons, inF, List.any_cons] at ih ⊢
    rw [ih]
    simp [eqF]
    rw [str_beq]
    by_cases e : a = w
    · simp [e]
    · simp [e, Ne.symm e]
@[simp] theorem dInQ_strs {neg : Bool} {w : Str} {ms : List Str} {S : DH} {Q : DK} : dInQ neg (.str w) (strsD ms) S Q = Q (.bl (if neg then !decide (w ∈ ms) else decide (w ∈ ms))) S := by
  rw [dInQ_fl rfl (by simp [flD]), inF_strs]
theorem take_succ_mem {xs : List Nat} {i n : Nat} (h : i < xs.length) : n ∈ xs.take (i + 1) ↔ n ∈ xs.take i ∨ n = xs.getD i 0 := by
  rw [take_mem h]; simp [h]
theorem dSeqWhile_gen {c : DTT} {tb r : DTS} {A : DEnds} {τ : DSt} {S : DH} (h : ∀ B R, B = tb → R = r → dSeq (dWhile c B) R A τ S) : dSeq (dWhile c tb) r A τ S := h tb r rfl rfl
theorem r_l_still (ds S Q E) (h : sp_l_still ds S Q E) : t_l_still (dEnd Q E) (dstart N_l_still ds) S := by
  obtain ⟨x, y, z, mv, st, ms, rfl, h1, h2, hl, hnd, h⟩ := h
  unfold t_l_still
  refine dSeq_gen fun R hR => ?_
  simp [dstart]
  intro p hp
  subst hR
  refine dSeq_gen fun R hR => ?_
  simp
  subst hR
  refine dSeqWhile_gen fun B R hB hR => ?_
  simp
  let I : DSt → DH → Prop := fun τ S' => ∃ (L : List Nat) (k : Nat) (x5 x6 x7 : Option D), τ = [some (mcD x y z mv), some (.rol (natsD st)), some (.rol (strsD ms)), some (.ref p), some (.int k), x5, x6, x7] ∧ S' = upo S p (.lst (natsD L)) ∧ k ≤ L.length ∧ L.Nodup ∧ (∀ n ∈ L, Come mv ms st n) ∧ (∀ n ∈ st, n ∈ L) ∧ ∀ m ∈ mv, m.a ∈ L.take k → holdsP ms m.p = true → m.b ∈ L
  refine while_inv I (fun τ S' => match (τ[4]? : Option (Option D)) with | some (some (.int k)) => st.length + mv.length - k.toNat | _ => 0) ⟨st, 0, none, none, none, rfl, rfl, Nat.zero_le _, hnd, fun n hn => .start hn, fun n hn => hn, by simp⟩ ?_
  rintro τ S1 N ⟨L, k, x5, x6, x7, rfl, rfl, hk, nd, hc, hst, hcl⟩ hN
  have hml := come_len nd hc
  simp
  split
  · rename_i hk2
    subst hB
    refine dSeqFor_gen fun B R2 hB hR2 => ?_
    simp [mcD, atI_mc]
    have hN2 : ∀ τ' S', I τ' S' → (match (τ'[4]? : Option (Option D)) with | some (some (.int k)) => st.length + mv.length - k.toNat | _ => 0) < st.length + mv.length - k → N τ' S' := fun τ' S' a b => hN τ' S' a (by simpa using b)
    clear hN
    obtain ⟨v, hv⟩ : ∃ v, L[k]? = some v := ⟨_, List.getElem?_eq_getElem hk2⟩
    have hvL : v ∈ L := List.mem_of_getElem? hv
    refine loop_inv (fun i τ S' => ∃ (L2 : List Nat) (x5 x6 x7 : Option D), τ = [some (mcD x y z mv), some (.rol (natsD st)), some (.rol (strsD ms)), some (.ref p), some (.int k), x5, x6, x7] ∧ S' = upo S p (.lst (natsD L2)) ∧ (∃ add, L2 = L ++ add) ∧ L2.Nodup ∧ (∀ n ∈ L2, Come mv ms st n) ∧ ∀ m ∈ mv.take i, m.a = v → holdsP ms m.p = true → m.b ∈ L2) ⟨L, x5, x6, x7, rfl, rfl, ⟨[], by simp⟩, nd, hc, by simp⟩ (fun _ _ _ _ _ => trivial) ?_ ?_
    · rintro i d τ S1 N hd ⟨L2, x5, x6, x7, rfl, rfl, ⟨add, e2⟩, nd2, hc2, hm2⟩ hN
      obtain ⟨hi, rfl⟩ := mv_at hd
      clear hd
      have hmem := List.getElem_mem hi
      have ok := h1 _ hmem
      have hml2 := come_len nd2 hc2
      have tk := fun m' => take_mem hi (x := m')
      have hix : atI (natsD L2) (k : Int) = some (.int v) := atI_nat (by rw [List.getElem?_map, e2, List.getElem?_append_left hk2, hv]; rfl)
      generalize em : mv[i] = m at ok hmem tk
      have stay : ¬ (m.a = v ∧ m.b ∉ L2 ∧ holdsP ms m.p = true) → N [some (mcD x y z mv), some (.rol (natsD st)), some (.rol (strsD ms)), some (.ref p), some (.int k), some (.int m.a), some (ptD m.p), some (.int m.b)] (upo S p (.lst (natsD L2))) := fun no =>
        hN _ _ ⟨L2, _, _, _, rfl, rfl, ⟨add, e2⟩, nd2, hc2, fun m' hm' ha hh => ((tk m').mp hm').elim (fun z => hm2 m' z ha hh) fun e => by
          subst e
          exact Classical.byContradiction fun nb => no ⟨ha, nb, hh⟩⟩
      have yes : m.a = v → m.b ∉ L2 → holdsP ms m.p = true → L2.length < 16777216 ∧ N [some (mcD x y z mv), some (.rol (natsD st)), some (.rol (strsD ms)), some (.ref p), some (.int k), some (.int m.a), some (ptD m.p), some (.int m.b)] (upo S p (.lst (natsD L2 ++ [.int m.b]))) := fun ha hb hh =>
        ⟨by omega, hN _ _ ⟨L2 ++ [m.b], _, _, _, rfl, by simp, ⟨add ++ [m.b], by simp [e2]⟩, by have := add_nodup (b := m.b) nd2; rwa [if_neg hb] at this, fun n hn => by
          simp at hn
          exact hn.elim (hc2 n) fun e => e ▸ .move hmem (ha ▸ hc v hvL) hh, fun m' hm' ha' hh' => by
          rcases (tk m').mp hm' with z | z
          · simp [hm2 m' z ha' hh']
          · simp [z]⟩⟩
      have lf := ok.leaf
      clear ok tk em hmem
      obtain ⟨ma, q, mb⟩ := m
      simp only at stay yes lf
      simp [mvD]
      subst hB
      simp only [natsD] at hix
      cases q with
      | stay =>
        simp [ptD, holdsP, hix] at stay yes ⊢
        by_cases ha : ma = v
        · by_cases hb : mb ∈ L2
          · simp [ha, hb] at stay ⊢; exact stay
          · simp [ha, hb] at yes ⊢; exact yes
        · have : ¬ (ma : Int) = v := by omega
          simp [this, ha] at stay ⊢; exact stay
      | mark b w =>
        have hold : holdsP ms (.mark b w) = (decide (w ∈ ms) == b) := rfl
        simp only [hold] at stay yes
        by_cases ha : ma = v
        · subst ha
          by_cases hb : mb ∈ L2
          · have := stay fun z => z.2.1 hb
            cases b <;> simp [ptD, hix, hb] at this ⊢ <;> exact this
          · cases b <;> by_cases hw : w ∈ ms <;> simp [ptD, hix, hb, hw] at stay yes ⊢
            · exact stay
            · exact yes
            · exact yes
            · exact stay
        · have := stay fun z => ha z.1
          have hz : ¬ (ma : Int) = v := by omega
          cases b <;> simp [ptD, hix, hz] at this ⊢ <;> exact this
      | step b w =>
        simp [ptD, holdsP, hix] at stay ⊢
        by_cases ha : ma = v
        · by_cases hb : mb ∈ L2
          · simp [ha, hb]; subst ha; exact stay
          · simp [ha, hb]; subst ha; exact stay
        · have : ¬ (ma : Int) = v := by omega
          first | exact stay | (simp [ha]; exact stay) | (simp [this]; exact stay)
      | many q => cases lf
      | seq b q => cases lf
    · rintro τ S1 ⟨L2, x5, x6, x7, rfl, rfl, ⟨add, e2⟩, nd2, hc2, hm2⟩
      simp only [List.length_map, List.take_length] at hm2
      subst hR2
      have : k < st.length + mv.length := by omega
      simp
      refine hN2 _ _ ⟨L2, k + 1, _, _, _, rfl, rfl, by rw [e2]; simp; omega, nd2, hc2, fun n hn => by rw [e2]; exact List.mem_append_left _ (hst n hn), ?_⟩ (by simp; exact Nat.sub_lt_sub_left this (Nat.lt_succ_self k))
      intro m hm ha hh
      rw [take_succ_mem (by rw [e2]; simp; omega)] at ha
      rw [e2, List.take_append_of_le_length (by omega)] at ha
      rcases ha with ha | ha
      · rw [e2]; exact List.mem_append_left _ (hcl m hm ha hh)
      · refine hm2 m hm ?_ hh
        rw [ha]
        simp [List.getElem?_append_left hk2, hv]
  · rename_i hk2
    subst hR
    simp
    refine .rol (by simp) hp (Sub.new hp) (h L nd fun n => ?_)
    refine come_iff hc hst (fun m hm ha => hcl m hm ?_) n
    rwa [List.take_of_length_le (by omega)]
end ShB
set_option maxRecDepth 100000
set_option maxHeartbeats 4000000
namespace Sh
open PySem PySem.Spec L2 Dt Sh
theorem perm_map_ex {α β : Type} {f : α → β} {x y : List β} (h : x.Perm y) : ∀ {l : List α}, y = l.map f → ∃ l2 : List α, l2.Perm l ∧ x = l2.map f := by
  induction h with
  | nil => intro l e; cases l with | nil => exact ⟨[], .refl _, rfl⟩ | cons a l => cases e
  | cons a h ih =>
    intro l e
    cases l with
    | nil => cases e
    | cons b l =>
      simp at e
      obtain ⟨l2, p, e2⟩ := ih e.2
      exact ⟨b :: l2, p.cons _, by simp [e.1, e2]⟩
  | swap a b l' =>
    intro l e
    match l, e with
    | c :: d :: l, e => simp at e; exact ⟨d :: c :: l, .swap _ _ _, by simp [e]⟩
  | trans h1 h2 ih1 ih2 =>
    intro l e
    obtain ⟨l2, p, e2⟩ := ih2 e
    obtain ⟨l3, p3, e3⟩ := ih1 e2
    exact ⟨l3, p3.trans p, e3⟩
theorem srt_strict {t : Ty} {ds : List D} (ht : ∀ d ∈ ds, hasTy t d = true) (nd : ds.Nodup) : (srtD ds).Pairwise fun x y => ltD x y = true := by
  have h1 := srt_sorted ds
  have h2 : (srtD ds).Nodup := (srt_perm ds).nodup_iff.mpr nd
  have h3 : ∀ d ∈ srtD ds, hasTy t d = true := fun d hd => ht d (srt_mem.mp hd)
  revert h1 h2 h3
  generalize srtD ds = l
  intro h1 h2 h3
  induction l with
  | nil => exact .nil
  | cons a l ih =>
    rw [List.pairwise_cons] at h1 ⊢
    rw [List.nodup_cons] at h2
    refine ⟨fun b hb => ?_, ih h1.2 h2.2 fun d hd => h3 d (List.mem_cons_of_mem _ hd)⟩
    by_cases e : ltD a b = true
    · exact e
    · exact absurd (ltD_tri (h3 a (List.mem_cons_self ..)) (h3 b (List.mem_cons_of_mem _ hb)) (by simpa using e) (h1.1 b hb)) fun e' => h2.1 (e' ▸ hb)
end Sh
set_option maxRecDepth 100000
set_option maxHeartbeats 4000000
namespace Rc
open PySem PySem.Spec L2
open Sh
open Dt hiding nkeys
/-! ShC: the draws of the laws k60-k75. -/
/-- the feed -/
def FeedC (n : Nat) (o : Ob) : Prop := ∃ (cs : List Int) (a l : Int), o = .dK [(.inr "cells", .rol (cs.map D.int)), (.inr "at", .int a), (.inr "left", .int l)] ∧ 0 ≤ a ∧ a ≤ n ∧ 0 ≤ l
theorem FeedC.more {n m : Nat} {o : Ob} (h : FeedC n o) (l : n ≤ m) : FeedC m o := by
  obtain ⟨cs, a, k, rfl, h1, h2, h3⟩ := h
  exact ⟨cs, a, k, rfl, h1, by omega, h3⟩
theorem FeedC.nl {n : Nat} {o : Ob} (h : FeedC n o) {q : Addr} {S : DH} (e : S q = some o) : ∀ ds, S q ≠ some (.lst ds) := fun ds z => by
  obtain ⟨cs, a, k, rfl, _⟩ := h
  rw [e] at z
  cases z
def sp_l_feed : DSp := fun ds S Q _ => ∃ ns : List Int, ds = [.rol (ns.map D.int)] ∧ ns.length ≤ 63 ∧ ∀ p o, S p = none → FeedC 0 o → Q (.ref p) (upo S p o)
def sp_l_draw : DSp := fun ds S Q _ => ∃ (p : Addr) (m n : Nat) (o : Ob), ds = [.ref p, .int (m : Nat)] ∧ 0 < m ∧ m < 1000000 ∧ S p = some o ∧ FeedC n o ∧ n < 2 ^ 90 ∧
  ∀ (v : Nat) o', v < m → FeedC (n + 1) o' → Q (.int (v : Nat)) (upo S p o')
def cNames : List (List Str) := [["a", "ab", "abc", "b", "ba", "bab", "c"], ["on", "back", "at", "stay", "many", "then", "tie"], ["k", "w", "xxxxxxxx", "xxxxxxx", "m", "q", "z"]]
def sp_l_names : DSp := fun ds S Q _ => ∃ (p : Addr) (m n : Nat) (o : Ob), ds = [.ref p, .int (m : Nat)] ∧ m ≤ 7 ∧ S p = some o ∧ FeedC n o ∧ n < 2 ^ 80 ∧
  ∀ (ys : List Str) (o' : Ob), ys.length = m → (∀ y ∈ ys, Nm y) → ys.Nodup → FeedC (n + 2) o' → Q (.rol (strsD ys)) (upo S p o')
/-- a pattern over these words and marks -/
def OkC (ws ms : List Str) (p : Pt) : Prop := ∀ q ∈ p.all, match q with | .step _ w => w = "*" ∨ w ∈ ws | .mark _ m => m ∈ ms | .seq _ ps => ps.length ≤ 4 | _ => True
def sp_l_leaf : DSp := fun ds S Q _ => ∃ (p : Addr) (ws ms : List Str) (n : Nat) (o : Ob), ds = [.ref p, .rol (strsD ws), .rol (strsD ms)] ∧ ws.length ≤ 100 ∧ ms.length ≤ 100 ∧ (∀ m ∈ ms, Nm m) ∧ S p = some o ∧ FeedC n o ∧ n < 2 ^ 80 ∧
  ∀ (t : Pt) (o' : Ob), t.isLeaf = true → OkC ws ms t → FeedC (n + 2) o' → Q (ptD t) (upo S p o')
theorem sp_l_leaf_mono : SpMono sp_l_leaf := fun ds S Q Q' E E' k _ ⟨p, ws, ms, n, o, h1, h2, h3, h4, h5, h6, h7, h⟩ => ⟨p, ws, ms, n, o, h1, h2, h3, h4, h5, h6, h7, fun t o' a b c => k _ _ (h t o' a b c)⟩
/-- what a pattern is drawn from: a bag, of which each part takes one -/
def sp_l_pattern (k : Nat) : DSp := fun ds S Q _ => ∃ (p q : Addr) (ws ms : List Str) (j b n : Nat) (o : Ob), ds = [.ref p, .rol (strsD ws), .rol (strsD ms), .ref q, .int (j : Nat)] ∧ ws.length ≤ 100 ∧ ms.length ≤ 100 ∧ (∀ m ∈ ms, Nm m) ∧ j ≤ k ∧ S p = some o ∧ FeedC n o ∧ 1 ≤ b ∧ b ≤ 1000 ∧ S q = some (.lst [.int (b : Nat)]) ∧ n + 4 * b < 2 ^ 80 ∧
  ∀ (t : Pt) (o' : Ob) (c : Nat), OkC ws ms t → t.deep ≤ k + 1 → t.all.length + c = b → FeedC (n + 4 * (b - c)) o' → Q (ptD t) (upo (upo S p o') q (.lst [.int (c : Nat)]))
theorem sp_l_pattern_mono (k : Nat) : SpMono (sp_l_pattern k) := fun ds S Q Q' E E' kk _ ⟨p, q, ws, ms, j, b, n, o, h1, h2, h3, h4, h5, h6, h7, h8, h9, h10, h11, h⟩ => ⟨p, q, ws, ms, j, b, n, o, h1, h2, h3, h4, h5, h6, h7, h8, h9, h10, h11, fun t o' c a1 a2 a3 a4 => kk _ _ (h t o' c a1 a2 a3 a4)⟩
def t_l_feed : DTS := (dRet (dDisp [("cells", (dCB cListAF (dCons (dSlF (dVar 0) dNoP (dSoP (dC (.int 63)))) dNil))), ("at", (dC (.int 0))), ("left", (dC (.int 0)))]))
abbrev N_l_feed : List Str := ["_law_script"]
def t_l_draw : DTS := (dSeq (dIf (dTest (dOp rGt (dOp dIxS (dVar 0) (dC (.str "left"))) (dC (.int 0))))
      (dSeq (dAsg (dOp rMod (dOp dIxS (dVar 0) (dC (.str "left"))) (dVar 1)) (dGN 2))
    (dSeq (dPut (dVar 0) (dC (.str "left")) (dOp rFdiv (dOp dIxS (dVar 0) (dC (.str "left"))) (dVar 1)))
    (dRet (dVar 2))))
      dNx)
    (dSeq (dAsg (dOp dIxS (dVar 0) (dC (.str "at"))) (dGN 3))
    (dSeq (dPut (dVar 0) (dC (.str "at")) (dOp dAddF (dVar 3) (dC (.int 1))))
    (dSeq (dAsg (dVar 3) (dGN 4))
    (dSeq (dIf (dTest (dOp (dEq true) (dOp dIxS (dVar 0) (dC (.str "cells"))) (dLstF dNil)))
      (dAsg (dOp dIxS (dOp dIxS (dVar 0) (dC (.str "cells"))) (dOp rMod (dVar 3) (dCB cLen (dCons (dOp dIxS (dVar 0) (dC (.str "cells"))) dNil)))) (dGN 4))
      dNx)
    (dSeq (dIf (dTest (dOp rGe (dVar 4) (dOp rPow (dC (.int 10)) (dC (.int 18)))))
      (dSeq (dPut (dVar 0) (dC (.str "left")) (dOp rFdiv (dVar 4) (dVar 1)))
    (dRet (dOp rMod (dVar 4) (dVar 1))))
      dNx)
    (dSeq (dAsg (dOp rMod (dOp dMul (dOp dAddF (dOp dAddF (dOp dAddF (dOp rMod (dVar 4) (dC (.int 1000003))) (dOp dMul (dOp dMul (dC (.int 7)) (dVar 3)) (dVar 3))) (dOp dMul (dC (.int 31)) (dVar 3))) (dC (.int 1))) (dC (.int 48271))) (dC (.int 999983))) (dGN 5))
    (dSeq (dAsg (dOp rMod (dOp dMul (dOp dAddF (dOp dMul (dVar 5) (dVar 5)) (dVar 3)) (dC (.int 30269))) (dC (.int 2147483629))) (dGN 5))
    (dRet (dOp rMod (dOp rFdiv (dVar 5) (dC (.int 7))) (dVar 1)))))))))))
abbrev N_l_draw : List Str := ["_law_feed_here", "_law_many", "_law_found", "_law_at", "_law_cell", "_law_number"]
def t_l_names : DTS := (dSeq (dAsg (dLst (dCons (dLstF (dCons (dC (.str "a")) (dCons (dC (.str "ab")) (dCons (dC (.str "abc")) (dCons (dC (.str "b")) (dCons (dC (.str "ba")) (dCons (dC (.str "bab")) (dCons (dC (.str "c")) dNil)))))))) (dCons (dLstF (dCons (dC (.str "on")) (dCons (dC (.str "back")) (dCons (dC (.str "at")) (dCons (dC (.str "stay")) (dCons (dC (.str "many")) (dCons (dC (.str "then")) (dCons (dC (.str "tie")) dNil)))))))) dNil))) (dGN 2))
    (dSeq (dDrop (dBM "list" mAppend (dVar 2) (dCons (dLstF (dCons (dC (.str "k")) (dCons (dC (.str "w")) (dCons (dC (.str "xxxxxxxx")) (dCons (dC (.str "xxxxxxx")) (dCons (dC (.str "m")) (dCons (dC (.str "q")) (dCons (dC (.str "z")) dNil)))))))) dNil)))
    (dSeq (dAsg (dOp dIxS (dVar 2) (dCall sp_l_draw (dCons (dVar 0) (dCons (dC (.int 3)) dNil)))) (dGN 3))
    (dSeq (dAsg (dCall sp_l_draw (dCons (dVar 0) (dCons (dC (.int 7)) dNil))) (dGN 4))
    (dRet (dSlF (dOp dAddF (dSlF (dVar 3) (dSoP (dVar 4)) dNoP) (dSlF (dVar 3) dNoP (dSoP (dVar 4)))) dNoP (dSoP (dVar 1))))))))
abbrev N_l_names : List Str := ["_law_feed_here", "_law_many", "_law_some", "_law_names_here", "_law_at"]
def t_l_leaf : DTS := (dSeq (dAsg (dCall sp_l_draw (dCons (dVar 0) (dCons (dC (.int 9)) dNil))) (dGN 3))
    (dSeq (dIf (dTest (dOp (dEq false) (dVar 3) (dC (.int 0))))
      (dRet (dTup (dCons (dC (.str "stay")) dNil)))
      dNx)
    (dSeq (dIf (dAnd (dTest (dOp rLt (dVar 3) (dC (.int 3)))) (dTest (dOp (dEq true) (dVar 2) (dLstF dNil))))
      (dRet (dTup (dCons (dOp dIxS (dLstF (dCons (dC (.str "at")) (dCons (dC (.str "off")) dNil))) (dOp rSub (dVar 3) (dC (.int 1)))) (dCons (dOp dIxS (dVar 2) (dCall sp_l_draw (dCons (dVar 0) (dCons (dCB cLen (dCons (dVar 2) dNil)) dNil)))) dNil))))
      dNx)
    (dRet (dTup (dCons (dC (.str "step")) (dCons (dOp dIxS (dLstF (dCons (dC (.str "on")) (dCons (dC (.str "on")) (dCons (dC (.str "back")) dNil)))) (dOp rMod (dVar 3) (dC (.int 3)))) (dCons (dOp dIxS (dOp dAddF (dVar 1) (dLstF (dCons (dC (.str "*")) dNil))) (dCall sp_l_draw (dCons (dVar 0) (dCons (dOp dAddF (dCB cLen (dCons (dVar 1) dNil)) (dC (.int 1))) dNil)))) dNil))))))))
abbrev N_l_leaf : List Str := ["_law_feed_here", "_law_words", "_law_marks", "_law_way"]
def t_l_pattern (spR : DSp) : DTS := (dSeq (dPut (dVar 3) (dC (.int 0)) (dOp rSub (dOp dIxS (dVar 3) (dC (.int 0))) (dC (.int 1))))
    (dSeq (dAsg (dCall sp_l_draw (dCons (dVar 0) (dCons (dC (.int 8)) dNil))) (dGN 5))
    (dSeq (dIf (dOr (dTest (dOp rLt (dVar 5) (dC (.int 3)))) (dOr (dTest (dOp rLt (dOp dIxS (dVar 3) (dC (.int 0))) (dC (.int 1)))) (dTest (dOp (dEq false) (dVar 4) (dC (.int 0))))))
      (dRet (dCall sp_l_leaf (dCons (dVar 0) (dCons (dVar 1) (dCons (dVar 2) dNil)))))
      dNx)
    (dSeq (dIf (dTest (dOp (dEq false) (dVar 5) (dC (.int 3))))
      (dRet (dTup (dCons (dC (.str "many")) (dCons (dCall spR (dCons (dVar 0) (dCons (dVar 1) (dCons (dVar 2) (dCons (dVar 3) (dCons (dOp rSub (dVar 4) (dC (.int 1))) dNil)))))) dNil))))
      dNx)
    (dSeq (dAsg (dLst dNil) (dGN 6))
    (dSeq (dFor (dRng1 (dCons (dOp dIxS (dLstF (dCons (dC (.int 2)) (dCons (dC (.int 3)) (dCons (dC (.int 0)) (dCons (dC (.int 1)) (dCons (dC (.int 2)) (dCons (dC (.int 2)) (dCons (dC (.int 4)) (dCons (dC (.int 3)) dNil))))))))) (dCall sp_l_draw (dCons (dVar 0) (dCons (dC (.int 8)) dNil)))) dNil)) (dGN 7)
      (dIf (dTest (dOp rGt (dOp dIxS (dVar 3) (dC (.int 0))) (dC (.int 0))))
      (dDrop (dBM "list" mAppend (dVar 6) (dCons (dCall spR (dCons (dVar 0) (dCons (dVar 1) (dCons (dVar 2) (dCons (dVar 3) (dCons (dOp rSub (dVar 4) (dC (.int 1))) dNil)))))) dNil)))
      dNx))
    (dRet (dTup (dCons (dOp dIxS (dLstF (dCons (dC (.str "then")) (dCons (dC (.str "either")) dNil))) (dOp rMod (dVar 5) (dC (.int 2)))) (dCons (dCB cTuple (dCons (dVar 6) dNil)) dNil))))))))))
abbrev N_l_pattern : List Str := ["_law_feed_here", "_law_words", "_law_marks", "_law_bag", "_law_deep", "_law_way", "_law_some", "_law_k"]
theorem leaf_okc {ws ms : List Str} {t : Pt} (hl : t.isLeaf = true) (h : match t with | .step _ w => w = "*" ∨ w ∈ ws | .mark _ m => m ∈ ms | _ => True) : OkC ws ms t := fun q hq => by
  cases t <;> simp [Pt.all, Pt.isLeaf] at hq hl <;> subst hq <;> first | exact h | trivial
theorem r_l_leaf (ds S Q E) (h : sp_l_leaf ds S Q E) : t_l_leaf (dEnd Q E) (dstart N_l_leaf ds) S := by
  obtain ⟨p, ws, ms, n, o, rfl, hw, hm, hmn, hp, fo, hn, h⟩ := h
  unfold t_l_leaf
  refine dSeq_gen fun R hR => ?_
  simp [dstart]
  refine ⟨p, 9, n, o, rfl, by decide, by decide, hp, fo, by omega, fun v o1 v1 fo1 => ?_⟩
  subst hR
  refine dSeqIf_gen fun A B R hA hB hR => ?_
  simp
  by_cases c0 : v = 0
  · subst hA
    simp [c0]
    exact .same (h .stay o1 rfl (leaf_okc rfl trivial) (fo1.more (by omega)))
  · subst hB
    simp [c0]
    subst hR
    refine dSeqIf_gen fun A B R hA hB hR => ?_
    have tail : R (dEnd Q E) [some (.ref p), some (.rol (strsD ws)), some (.rol (strsD ms)), some (.int (v : Nat))] (upo S p o1) := by
      subst hR
      simp [catD]
      refine opt_at (by omega) (by simp; omega) fun d hd => ?_
      obtain ⟨b, rfl⟩ : ∃ b : Bool, d = .str (if b then "on" else "back") := by
        simp at hd
        rcases hd with rfl | rfl
        · exact ⟨true, rfl⟩
        · exact ⟨false, rfl⟩
      refine ⟨by omega, p, ws.length + 1, n + 1, o1, by simp, by omega, by omega, by simp, fo1, by omega, fun u o2 u1 fo2 => ?_⟩
      refine opt_at (by omega) (by simp; omega) fun z hz => ?_
      obtain ⟨w, hw, rfl⟩ : ∃ w : Str, (w = "*" ∨ w ∈ ws) ∧ z = .str w := by
        rcases List.mem_append.mp hz with hz | hz
        · obtain ⟨w, hw, rfl⟩ := List.mem_map.mp hz
          exact ⟨w, .inr hw, rfl⟩
        · exact ⟨"*", .inl rfl, List.mem_singleton.mp hz⟩
      rw [upo_upo]
      exact .same (h (.step b w) o2 rfl (leaf_okc rfl hw) (fo2.more (by omega)))
    simp
    by_cases c1 : (v : Int) < 3
    · simp [c1]
      refine dEq_sm (Sm_rol.mpr fun d hd => ?_) (Sm_rol.mpr fun d hd => nomatch hd) ?_
      · obtain ⟨i, hi, rfl⟩ := List.mem_map.mp hd
        exact Sm_str.mpr (nm_ok (hmn i hi))
      · by_cases hc : ms = []
        · subst hc
          simp
          subst hB
          simp
          exact tail
        · simp [hc]
          subst hA
          simp
          refine opt_at (by omega) (by simp; omega) fun d hd => ?_
          obtain ⟨b, rfl⟩ : ∃ b : Bool, d = .str (if b then "at" else "off") := by
            simp at hd
            rcases hd with rfl | rfl
            · exact ⟨true, rfl⟩
            · exact ⟨false, rfl⟩
          have hl0 : 0 < ms.length := List.length_pos_iff.mpr hc
          refine ⟨p, ms.length, n + 1, o1, rfl, hl0, by omega, by simp, fo1, by omega, fun u o2 u1 fo2 => ?_⟩
          refine opt_at (by omega) (by simp; omega) fun z hz => ?_
          obtain ⟨m, hm, rfl⟩ := List.mem_map.mp hz
          rw [upo_upo]
          exact .same (h (.mark b m) o2 rfl (leaf_okc rfl hm) (fo2.more (by omega)))
    · simp [c1]
      subst hB
      simp
      exact tail
theorem OkC.many {ws ms : List Str} {t : Pt} (h : OkC ws ms t) : OkC ws ms (.many t) := fun q hq => by
  rw [Pt.all_many] at hq
  rcases List.mem_cons.mp hq with rfl | z
  · trivial
  · exact h q z
theorem OkC.seq {ws ms : List Str} {b : Bool} {ts : List Pt} (hl : ts.length ≤ 4) (h : ∀ t ∈ ts, OkC ws ms t) : OkC ws ms (.seq b ts) := fun q hq => by
  rw [Pt.all_seq, Pt.alls_flat] at hq
  rcases List.mem_cons.mp hq with rfl | z
  · exact hl
  · obtain ⟨t, ht, z⟩ := List.mem_flatMap.mp z
    exact h t ht q z
theorem deeps_le {ts : List Pt} {k : Nat} (h : ∀ t ∈ ts, t.deep ≤ k) : Pt.deeps ts ≤ k := by
  induction ts with
  | nil => exact Nat.zero_le _
  | cons t ts ih =>
    rw [Pt.deeps_cons]
    have := h t List.mem_cons_self
    have := ih fun u hu => h u (List.mem_cons_of_mem _ hu)
    omega
theorem leaf_all {t : Pt} (h : t.isLeaf = true) : t.all.length = 1 ∧ t.deep = 1 := by
  cases t <;> simp [Pt.isLeaf] at h <;> exact ⟨rfl, rfl⟩
theorem r_l_pattern (k : Nat) (ds S Q E) (h : sp_l_pattern k ds S Q E) : t_l_pattern (prevSp sp_l_pattern k) (dEnd Q E) (dstart N_l_pattern ds) S := by
  obtain ⟨p, q, ws, ms, j, b, n, o, rfl, hw, hm, hmn, hj, hp, fo, hb1, hb2, hq, hn, h⟩ := h
  have npq : p ≠ q := fun z => by subst z; exact fo.nl hp _ hq
  unfold t_l_pattern
  refine dSeq_gen fun R hR => ?_
  simp [dstart, hq]
  have eb : (b : Int) - 1 = ((b - 1 : Nat) : Int) := by omega
  rw [eb, show ixN 1 0 = some 0 from rfl]
  simp
  subst hR
  refine dSeq_gen fun R hR => ?_
  simp
  refine ⟨p, 8, n, o, by simp, by decide, by decide, by rw [upo_ne npq]; exact hp, fo, by omega, fun v o1 v1 fo1 => ?_⟩
  rw [upo_comm npq.symm]
  subst hR
  refine dSeqIf_gen fun A B R hA hB hR => ?_
  have leaf : A { nx := R (dEnd Q E), rt := Rt Q, xe := fun C fs x S' => ∃ S'', Dt.Sub S'' S' ∧ E C fs S'' } [some (.ref p), some (.rol (strsD ws)), some (.rol (strsD ms)), some (.ref q), some (.int (j : Nat)), some (.int (v : Nat)), none, none] (upo (upo S p o1) q (.lst [.int ((b - 1 : Nat) : Int)])) := by
    subst hA
    simp
    refine ⟨p, ws, ms, n + 1, o1, rfl, hw, hm, hmn, by rw [upo_ne npq]; simp, fo1, by omega, fun t o2 hl ho fo2 => ?_⟩
    obtain ⟨l1, l2⟩ := leaf_all hl
    rw [upo_comm npq.symm, upo_upo]
    exact .same (h t o2 (b - 1) ho (by omega) (by omega) (fo2.more (by omega)))
  simp
  split
  · exact leaf
  rename_i v3
  split
  · exact leaf
  rename_i b2
  split
  · exact leaf
  rename_i j0
  clear leaf
  subst hB
  simp
  subst hR
  obtain ⟨m, rfl⟩ : ∃ m, k = m + 1 := ⟨k - 1, by omega⟩
  have ej : (j : Int) - 1 = ((j - 1 : Nat) : Int) := by omega
  refine dSeqIf_gen fun A B R hA hB hR => ?_
  simp
  by_cases c2 : (v : Int) = 3
  · subst hA
    simp [c2, ej]
    refine ⟨p, q, ws, ms, j - 1, b - 1, n + 1, o1, by simp [ej], hw, hm, hmn, by omega, by rw [upo_ne npq]; simp, fo1, by omega, by omega, by simp, by omega, fun t o2 c a1 a2 a3 a4 => ?_⟩
    rw [upo_comm npq.symm, upo_upo, upo_upo]
    exact .same (h (.many t) o2 c a1.many (by rw [Pt.deep_many]; omega) (by rw [Pt.all_many, List.length_cons]; omega) (a4.more (by omega)))
  · subst hB
    simp [c2]
    subst hR
    refine dSeq_gen fun R hR => ?_
    simp
    intro s hs
    have nps : p ≠ s := fun z => by subst z; rw [upo_ne npq] at hs; simp at hs
    have nqs : q ≠ s := fun z => by subst z; simp at hs
    have hs' : S s = none := by rw [upo_ne nqs.symm, upo_ne nps.symm] at hs; exact hs
    subst hR
    refine dSeqFor_gen fun B R hB hR => ?_
    simp
    refine ⟨p, 8, n + 1, o1, by simp, by decide, by decide, by rw [upo_ne nps, upo_ne npq]; simp, fo1, by omega, fun u o2 u1 fo2 => ?_⟩
    rw [upo_comm nps.symm, upo_comm npq.symm, upo_upo]
    refine opt_at (by omega) (by simp; omega) fun d hd => ?_
    obtain ⟨M, hM, rfl⟩ : ∃ M : Nat, M ≤ 4 ∧ d = .int (M : Nat) := by
      simp only [List.mem_cons, List.not_mem_nil, or_false] at hd
      rcases hd with rfl | rfl | rfl | rfl | rfl | rfl | rfl | rfl
      · exact ⟨2, by decide, rfl⟩
      · exact ⟨3, by decide, rfl⟩
      · exact ⟨0, by decide, rfl⟩
      · exact ⟨1, by decide, rfl⟩
      · exact ⟨2, by decide, rfl⟩
      · exact ⟨2, by decide, rfl⟩
      · exact ⟨4, by decide, rfl⟩
      · exact ⟨3, by decide, rfl⟩
    simp
    refine ⟨by omega, ?_⟩
    refine loop_inv (fun i τ S' => ∃ (ts : List Pt) (c : Nat) (o3 : Ob) (x7 : Option D), τ = [some (.ref p), some (.rol (strsD ws)), some (.rol (strsD ms)), some (.ref q), some (.int (j : Nat)), some (.int (v : Nat)), some (.ref s), x7] ∧
      S' = upo (upo (upo S p o3) q (.lst [.int (c : Nat)])) s (.lst (ptDs ts)) ∧ ts.length ≤ i ∧ (Pt.alls ts).length + c = b - 1 ∧ FeedC (n + 2 + 4 * (b - 1 - c)) o3 ∧ (∀ t ∈ ts, OkC ws ms t) ∧ ∀ t ∈ ts, t.deep ≤ m + 1)
      ⟨[], b - 1, o2, none, rfl, rfl, Nat.le_refl _, by simp [Pt.alls], fo2.more (by omega), (fun _ z => nomatch z), fun _ z => nomatch z⟩ (fun _ _ _ _ _ => trivial) ?_ ?_
    · rintro i d τ S1 N hd ⟨ts, c, o3, x7, rfl, rfl, g1, g2, fo3, g4, g5⟩ hN
      obtain ⟨hi, rfl⟩ : i < M ∧ d = .int (i : Nat) := by
        have h1 := (List.getElem?_eq_some_iff.mp hd).1
        simp [rngD] at h1 hd
        exact ⟨h1, by rw [List.getElem?_eq_getElem (by simpa using h1)] at hd; simp at hd; exact hd.symm⟩
      subst hB
      have e0 : upo (upo (upo S p o3) q (.lst [.int (c : Nat)])) s (.lst (ptDs ts)) q = some (.lst [.int (c : Nat)]) := by rw [upo_ne nqs]; simp
      simp [e0, ej]
      split
      · rename_i hc
        refine ⟨p, q, ws, ms, j - 1, c, n + 2 + 4 * (b - 1 - c), o3, by simp [ej], hw, hm, hmn, by omega, by rw [upo_ne nps, upo_ne npq]; simp, fo3, by omega, by omega, e0, by omega, fun t o4 c' a1 a2 a3 a4 => ?_⟩
        rw [upo_comm nps.symm, upo_comm npq.symm, upo_upo, upo_comm nqs.symm, upo_upo]
        have hd1 := ptDs_len ts
        have hd2 := Pt.all_pos t
        simp [upo_upo]
        refine ⟨by omega, hN _ _ ⟨ts ++ [t], c', o4, _, rfl, by rw [ptDs_app]; rfl, by simp; omega, ?_, a4.more (by omega), fun z hz => ?_, fun z hz => ?_⟩⟩
        · rw [Pt.alls_flat, List.flatMap_append, ← Pt.alls_flat]
          simp
          omega
        · rcases List.mem_append.mp hz with hz | hz
          · exact g4 z hz
          · rw [List.mem_singleton.mp hz]; exact a1
        · rcases List.mem_append.mp hz with hz | hz
          · exact g5 z hz
          · rw [List.mem_singleton.mp hz]; exact a2
      · exact hN _ _ ⟨ts, c, o3, _, rfl, rfl, by omega, g2, fo3, g4, g5⟩
    · rintro τ S1 ⟨ts, c, o3, x7, rfl, rfl, g1, g2, fo3, g4, g5⟩
      have hM' : ts.length ≤ M := by simpa [rngD] using g1
      subst hR
      simp
      refine opt_at (by omega) (by simp; omega) fun d hd => ?_
      obtain ⟨bb, rfl⟩ : ∃ bb : Bool, d = .str (if bb then "then" else "either") := by
        simp at hd
        rcases hd with rfl | rfl
        · exact ⟨true, rfl⟩
        · exact ⟨false, rfl⟩
      refine .keep (S := upo (upo S p o3) q (.lst [.int (c : Nat)])) (Sub.new (by rw [upo_ne nqs.symm, upo_ne nps.symm]; exact hs')) ?_
      exact h (.seq bb ts) o3 c (OkC.seq (by omega) g4) (by rw [Pt.deep_seq]; have := deeps_le g5; omega) (by rw [Pt.all_seq, List.length_cons]; omega) (fo3.more (by omega))
end Rc
set_option maxRecDepth 100000
set_option maxHeartbeats 4000000
namespace Rm
open PySem PySem.Spec L2
open Rc
open ShB hiding N_l_leaf dSeqWhile_gen r_l_leaf sp_l_leaf sp_l_leaf_mono t_l_leaf
open Sh hiding N_l_cell_at N_l_feed N_l_leaf N_l_names N_l_pattern deeps_le deeps_mem perm_map_ex r_l_cell_at r_l_leaf r_l_pattern sp_l_leaf sp_l_leaf_mono sp_l_names sp_l_pattern sp_l_pattern_mono srt_strict t_l_cell_at t_l_feed t_l_leaf t_l_names t_l_pattern
open Dt hiding nkeys sp_l_cell_at sp_l_cell_at_mono sp_l_feed
/-! ShMk: machines of patterns. -/
open Classical in
/-- a move more, where it is not there -/
noncomputable def addM (K : List Mv) (x : Mv) : List Mv := if x ∈ K then K else K ++ [x]
theorem addM_nd {K : List Mv} {x : Mv} (h : K.Nodup) : (addM K x).Nodup := by
  unfold addM
  split
  · exact h
  · rename_i hx
    exact List.nodup_append.mpr ⟨h, List.nodup_cons.mpr ⟨List.not_mem_nil, .nil⟩, fun a ha b hb e => hx (by rw [← List.mem_singleton.mp hb, ← e]; exact ha)⟩
theorem addM_mem {K : List Mv} {x y : Mv} : y ∈ addM K x ↔ y ∈ K ∨ y = x := by
  unfold addM
  split
  · rename_i hx
    exact ⟨.inl, fun h => h.elim id fun e => e ▸ hx⟩
  · simp
theorem addM_len {K : List Mv} {x : Mv} : (addM K x).length ≤ K.length + 1 := by
  unfold addM
  split <;> simp
mutual
/-- how a pattern is laid from a stand to another: the next stand, the moves -/
noncomputable def layP : Pt → Nat → Nat → Nat × List Mv → Nat × List Mv
  | .seq true [], a, b, s => (s.1, addM s.2 ⟨a, .stay, b⟩)
  | .seq true (p :: ps), a, b, s => layR (p :: ps) a b s
  | .seq false ps, a, b, s => layA ps a b s
  | .many p, a, b, s => layP p s.1 s.1 (s.1 + 1, addM (addM s.2 ⟨a, .stay, s.1⟩) ⟨s.1, .stay, b⟩)
  | .stay, a, b, s => (s.1, addM s.2 ⟨a, .stay, b⟩)
  | .step o w, a, b, s => (s.1, addM s.2 ⟨a, .step o w, b⟩)
  | .mark o m, a, b, s => (s.1, addM s.2 ⟨a, .mark o m, b⟩)
noncomputable def layA : List Pt → Nat → Nat → Nat × List Mv → Nat × List Mv
  | [], _, _, s => s
  | p :: ps, a, b, s => layA ps a b (layP p a b s)
noncomputable def layR : List Pt → Nat → Nat → Nat × List Mv → Nat × List Mv
  | [], _, _, s => s
  | [p], a, b, s => layP p a b s
  | p :: q :: ps, a, b, s => layR (q :: ps) s.1 b (layP p a s.1 (s.1 + 1, s.2))
end
section
variable (C : Addr)
/-- the maker at m, its moves in l -/
def mkS (S : DH) (m l : Addr) (s : Nat × List Mv) : DH := upo (upo S m (.ins C [("size", .int (s.1 : Nat)), ("laid", .ref l)])) l (.dN (kset (s.2.map mvD)))
def sp_Maker_init : DSp := fun ds S Q _ => ∃ m : Addr, ds = [.ref m] ∧ S m = some (.ins C []) ∧ ∀ l, S l = none → Q .non (mkS C S m l (2, []))
theorem sp_Maker_init_mono : SpMono (sp_Maker_init C) := fun ds S Q Q' E E' k _ ⟨m, h1, h2, h⟩ => ⟨m, h1, h2, fun l a => k _ _ (h l a)⟩
/-- what a maker's deeds ask -/
structure MkOk (S0 : DH) (m l : Addr) (s : Nat × List Mv) : Prop where
  ne : m ≠ l
  nd : s.2.Nodup
  lf : ∀ x ∈ s.2, x.p.isLeaf = true
def sp_Maker_fresh : DSp := fun ds S Q _ => ∃ (S0 : DH) (m l : Addr) (s : Nat × List Mv), ds = [.ref m] ∧ S = mkS C S0 m l s ∧ m ≠ l ∧ s.1 ≤ 1000000 ∧ Q (.int (s.1 : Nat)) (mkS C S0 m l (s.1 + 1, s.2))
theorem sp_Maker_fresh_mono : SpMono (sp_Maker_fresh C) := fun ds S Q Q' E E' k _ ⟨S0, m, l, s, h1, h2, h3, h4, h⟩ => ⟨S0, m, l, s, h1, h2, h3, h4, k _ _ h⟩
def sp_Maker_lay (k : Nat) : DSp := fun ds S Q _ => ∃ (S0 : DH) (m l : Addr) (s : Nat × List Mv) (t : Pt) (a b : Nat), ds = [.ref m, ptD t, .int (a : Nat), .int (b : Nat)] ∧ S = mkS C S0 m l s ∧ MkOk S0 m l s ∧ (t.deep ≤ k ∧ k ≤ 20 ∧ t.okP Nm) ∧ s.1 + 2 * t.all.length ≤ 100000 ∧ s.2.length + 3 * t.all.length ≤ 100000 ∧ (∀ q ∈ t.all, q.kids.length ≤ 1000) ∧
  Q .non (mkS C S0 m l (layP t a b s))
theorem sp_Maker_lay_mono (k : Nat) : SpMono (sp_Maker_lay C k) := fun ds S Q Q' E E' kk _ ⟨S0, m, l, s, t, a, b, h1, h2, h3, h4, h5, h6, h7, h⟩ => ⟨S0, m, l, s, t, a, b, h1, h2, h3, h4, h5, h6, h7, kk _ _ h⟩
def sp_Maker_lay_row (k : Nat) : DSp := fun ds S Q _ => ∃ (S0 : DH) (m l : Addr) (s : Nat × List Mv) (ps : List Pt) (a b : Nat), ds = [.ref m, .tup (ptDs ps), .int (a : Nat), .int (b : Nat)] ∧ S = mkS C S0 m l s ∧ MkOk S0 m l s ∧ ((∀ t ∈ ps, t.deep ≤ k ∧ t.okP Nm) ∧ k ≤ 20) ∧ s.1 + 2 * (Pt.alls ps).length + 2 ≤ 100000 ∧ s.2.length + 3 * (Pt.alls ps).length + 3 ≤ 100000 ∧ ps.length ≤ 1000 ∧ (∀ t ∈ ps, ∀ q ∈ t.all, q.kids.length ≤ 1000) ∧
  Q .non (mkS C S0 m l (layP (.seq true ps) a b s))
theorem sp_Maker_lay_row_mono (k : Nat) : SpMono (sp_Maker_lay_row C k) := fun ds S Q Q' E E' kk _ ⟨S0, m, l, s, ps, a, b, h1, h2, h3, h4, h5, h6, h7, h8, h⟩ => ⟨S0, m, l, s, ps, a, b, h1, h2, h3, h4, h5, h6, h7, h8, kk _ _ h⟩
end
/-- what laying keeps -/
structure LayBd (s r : Nat × List Mv) (n m : Nat) : Prop where
  nd : s.2.Nodup → r.2.Nodup
  lf : (∀ x ∈ s.2, x.p.isLeaf = true) → ∀ x ∈ r.2, x.p.isLeaf = true
  up : s.1 ≤ r.1
  b1 : r.1 ≤ s.1 + n
  b2 : r.2.length ≤ s.2.length + m
theorem LayBd.trans {s r q : Nat × List Mv} {n m n' m' : Nat} (h : LayBd s r n m) (g : LayBd r q n' m') : LayBd s q (n + n') (m + m') :=
  ⟨fun z => g.nd (h.nd z), fun z => g.lf (h.lf z), Nat.le_trans h.up g.up, by have := h.b1; have := g.b1; omega, by have := h.b2; have := g.b2; omega⟩
theorem LayBd.refl (s : Nat × List Mv) : LayBd s s 0 0 := ⟨id, id, Nat.le_refl _, Nat.le_refl _, Nat.le_refl _⟩
theorem LayBd.more {s r : Nat × List Mv} {n m n' m' : Nat} (h : LayBd s r n m) (l : n ≤ n') (l' : m ≤ m') : LayBd s r n' m' := ⟨h.nd, h.lf, h.up, by have := h.b1; omega, by have := h.b2; omega⟩
theorem lay_one {s : Nat × List Mv} {x : Mv} (hx : x.p.isLeaf = true) : LayBd s (s.1, addM s.2 x) 0 1 :=
  ⟨addM_nd, fun h y hy => by rcases addM_mem.mp hy with hy | rfl; exact h y hy; exact hx, Nat.le_refl _, by simp, by have := addM_len (K := s.2) (x := x); simp; omega⟩
theorem lay_fresh (s : Nat × List Mv) : LayBd s (s.1 + 1, s.2) 1 0 := ⟨id, id, Nat.le_succ _, Nat.le_refl _, Nat.le_refl _⟩
theorem ptInd {P : Pt → Prop} (h1 : P .stay) (h2 : ∀ b w, P (.step b w)) (h3 : ∀ b m, P (.mark b m)) (h4 : ∀ b ps, (∀ p ∈ ps, P p) → P (.seq b ps)) (h5 : ∀ p, P p → P (.many p)) : ∀ p : Pt, P p := by
  intro p
  induction hn : p.all.length using Nat.strongRecOn generalizing p with
  | ind n ih =>
    subst hn
    cases p with
    | stay => exact h1
    | step b w => exact h2 b w
    | mark b m => exact h3 b m
    | seq b ps =>
      refine h4 b ps fun q hq => ih q.all.length ?_ q rfl
      rw [Pt.all_seq, List.length_cons, Pt.alls_flat]
      have : q.all.length ≤ (ps.flatMap Pt.all).length := by
        obtain ⟨a, c, rfl⟩ := List.append_of_mem hq
        simp
        omega
      omega
    | many q => exact h5 q (ih q.all.length (by rw [Pt.all_many, List.length_cons]; omega) q rfl)
theorem layP_bd : ∀ (t : Pt) (a b : Nat) (s : Nat × List Mv), LayBd s (layP t a b s) (t.all.length - 1) (3 * t.all.length) := by
  refine ptInd ?_ ?_ ?_ ?_ ?_
  · intro a b s; exact (lay_one (x := ⟨a, .stay, b⟩) rfl).more (Nat.zero_le _) (by simp [Pt.all])
  · intro o w a b s; exact (lay_one (x := ⟨a, .step o w, b⟩) rfl).more (Nat.zero_le _) (by simp [Pt.all])
  · intro o w a b s; exact (lay_one (x := ⟨a, .mark o w, b⟩) rfl).more (Nat.zero_le _) (by simp [Pt.all])
  · intro o ps ih a b s
    rw [Pt.all_seq, List.length_cons]
    cases o
    · have go : ∀ (xs : List Pt) (s : Nat × List Mv), (∀ x ∈ xs, x ∈ ps) → LayBd s (layA xs a b s) (Pt.alls xs).length (3 * (Pt.alls xs).length) := by
        intro xs
        induction xs with
        | nil => intro s _; exact .refl s
        | cons x xs ihx =>
          intro s hx
          rw [Pt.alls_cons, List.length_append]
          exact ((ih x (hx x List.mem_cons_self) a b s).trans (ihx _ fun z hz => hx z (List.mem_cons_of_mem _ hz))).more (by omega) (by omega)
      exact (go ps s fun _ z => z).more (by omega) (by omega)
    · have go : ∀ (xs : List Pt) (a : Nat) (s : Nat × List Mv), (∀ x ∈ xs, x ∈ ps) → LayBd s (layR xs a b s) (Pt.alls xs).length (3 * (Pt.alls xs).length) := by
        intro xs
        induction xs with
        | nil => intro a s _; exact .refl s
        | cons x xs ihx =>
          intro a s hx
          rw [Pt.alls_cons, List.length_append]
          have h0 : 1 ≤ x.all.length := Pt.all_pos x
          cases xs with
          | nil => exact (ih x (hx x List.mem_cons_self) a b s).more (by omega) (by omega)
          | cons y ys =>
            have h1 := ih x (hx x List.mem_cons_self) a s.1 (s.1 + 1, s.2)
            have h2 := ihx s.1 (layP x a s.1 (s.1 + 1, s.2)) fun z hz => hx z (List.mem_cons_of_mem _ hz)
            exact (((lay_fresh s).trans h1).trans h2).more (by omega) (by omega)
      cases ps with
      | nil => exact (lay_one (x := ⟨a, .stay, b⟩) rfl).more (by omega) (by omega)
      | cons x xs => exact (go (x :: xs) a s fun _ z => z).more (by omega) (by omega)
  · intro p ih a b s
    rw [Pt.all_many, List.length_cons]
    have h0 : 1 ≤ p.all.length := Pt.all_pos p
    have h1 := ih s.1 s.1 (s.1 + 1, addM (addM s.2 ⟨a, .stay, s.1⟩) ⟨s.1, .stay, b⟩)
    exact ((((lay_fresh s).trans (lay_one (x := ⟨a, .stay, s.1⟩) rfl)).trans (lay_one (x := ⟨s.1, .stay, b⟩) rfl)).trans h1).more (by omega) (by omega)
theorem alls_take {ps : List Pt} {j : Nat} (hj : j < ps.length) : (Pt.alls (ps.take (j + 1))).length = (Pt.alls (ps.take j)).length + ps[j].all.length := by
  rw [Pt.alls_flat, Pt.alls_flat, List.take_succ, List.getElem?_eq_getElem hj, List.flatMap_append, List.length_append]
  simp
theorem alls_take_le {ps : List Pt} (j : Nat) : (Pt.alls (ps.take j)).length ≤ (Pt.alls ps).length := by
  rw [Pt.alls_flat, Pt.alls_flat]
  conv => rhs; rw [← List.take_append_drop j ps, List.flatMap_append, List.length_append]
  omega
def t_Maker_init (C_Maker : Addr) : DTS := (dSeq (dPutF C_Maker "size" (dVar 0) (dC (.int 2)))
    (dPutF C_Maker "laid" (dVar 0) dDnN))
abbrev N_Maker_init : List Str := ["self"]
def t_Maker_fresh (C_Maker : Addr) : DTS := (dSeq (dPutF C_Maker "size" (dVar 0) (dOp dAddF (dFld C_Maker "size" (dVar 0)) (dC (.int 1))))
    (dRet (dOp rSub (dFld C_Maker "size" (dVar 0)) (dC (.int 1)))))
abbrev N_Maker_fresh : List Str := ["self"]
def t_Maker_lay (C_Maker : Addr) (spR spM : DSp) : DTS := (dIf (dTest (dOp (dIn false) (dOp dIxS (dVar 1) (dC (.int 0))) (dC (.tup [.str "stay", .str "step", .str "at", .str "off"]))))
      (dPut (dFld C_Maker "laid" (dVar 0)) (dTup (dCons (dVar 2) (dCons (dVar 1) (dCons (dVar 3) dNil)))) (dC (.bl true)))
      (dIf (dTest (dOp (dEq false) (dOp dIxS (dVar 1) (dC (.int 0))) (dC (.str "either"))))
      (dFor (dSeqI (dOp dIxS (dVar 1) (dC (.int 1)))) (dGN 4)
      (dDrop (dMeth C_Maker "lay" spR (dVar 0) (dCons (dVar 4) (dCons (dVar 2) (dCons (dVar 3) dNil))))))
      (dIf (dTest (dOp (dEq false) (dOp dIxS (dVar 1) (dC (.int 0))) (dC (.str "many"))))
      (dSeq (dAsg (dMeth C_Maker "fresh" (sp_Maker_fresh C_Maker) (dVar 0) dNil) (dGN 5))
    (dSeq (dPut (dFld C_Maker "laid" (dVar 0)) (dTup (dCons (dVar 2) (dCons (dTup (dCons (dC (.str "stay")) dNil)) (dCons (dVar 5) dNil)))) (dC (.bl true)))
    (dSeq (dPut (dFld C_Maker "laid" (dVar 0)) (dTup (dCons (dVar 5) (dCons (dTup (dCons (dC (.str "stay")) dNil)) (dCons (dVar 3) dNil)))) (dC (.bl true)))
    (dDrop (dMeth C_Maker "lay" spR (dVar 0) (dCons (dOp dIxS (dVar 1) (dC (.int 1))) (dCons (dVar 5) (dCons (dVar 5) dNil))))))))
      (dDrop (dMeth C_Maker "lay_row" spM (dVar 0) (dCons (dOp dIxS (dVar 1) (dC (.int 1))) (dCons (dVar 2) (dCons (dVar 3) dNil))))))))
abbrev N_Maker_lay : List Str := ["self", "pattern", "one", "other", "part", "middle"]
def t_Maker_lay_row (C_Maker : Addr) (spR : DSp) : DTS := (dSeq (dIf (dTest (dOp (dEq false) (dVar 1) (dTup dNil)))
      (dPut (dFld C_Maker "laid" (dVar 0)) (dTup (dCons (dVar 2) (dCons (dTup (dCons (dC (.str "stay")) dNil)) (dCons (dVar 3) dNil)))) (dC (.bl true)))
      dNx)
    (dSeq (dAsg (dVar 2) (dGN 4))
    (dFor (dRng1 (dCons (dCB cLen (dCons (dVar 1) dNil)) dNil)) (dGN 5)
      (dSeq (dAsg (dVar 3) (dGN 6))
    (dSeq (dIf (dTest (dOp rLt (dVar 5) (dOp rSub (dCB cLen (dCons (dVar 1) dNil)) (dC (.int 1)))))
      (dAsg (dMeth C_Maker "fresh" (sp_Maker_fresh C_Maker) (dVar 0) dNil) (dGN 6))
      dNx)
    (dSeq (dDrop (dMeth C_Maker "lay" spR (dVar 0) (dCons (dOp dIxS (dVar 1) (dVar 5)) (dCons (dVar 4) (dCons (dVar 6) dNil)))))
    (dAsg (dVar 6) (dGN 4))))))))
abbrev N_Maker_lay_row : List Str := ["self", "parts", "one", "other", "here", "place", "there"]
def t_machine_of (C_Maker : Addr) : DTS := (dSeq (dAsg (dMake C_Maker (sp_Maker_init C_Maker) dNil) (dGN 1))
    (dSeq (dDrop (dMeth C_Maker "lay" (sp_Maker_lay C_Maker 3) (dVar 1) (dCons (dVar 0) (dCons (dC (.int 0)) (dCons (dC (.int 1)) dNil)))))
    (dRet (dTup (dCons (dFld C_Maker "size" (dVar 1)) (dCons (dC (.int 0)) (dCons (dTup (dCons (dC (.int 1)) dNil)) (dCons (dCB cTuple (dCons (dCB cSortAF (dCons (dFld C_Maker "laid" (dVar 1)) dNil)) dNil)) dNil))))))))
abbrev N_machine_of : List Str := ["pattern", "maker"]
section
variable {C : Addr}
theorem r_Maker_init (ds S Q E) (h : sp_Maker_init C ds S Q E) : t_Maker_init C (dEnd Q E) (dstart N_Maker_init ds) S := by
  obtain ⟨m, rfl, hm, h⟩ := h
  simp [t_Maker_init, dstart, hm, putFD]
  intro l hl
  have ne : m ≠ l := fun z => by subst z; simp at hl
  have hl' : S l = none := by rw [upo_ne ne.symm] at hl; exact hl
  rw [upo_ne ne]
  simp [putFD]
  have := h l hl'
  unfold mkS at this
  rw [upo_comm ne.symm, upo_upo]
  exact .same this
theorem mkS_m {S0 : DH} {m l : Addr} {s : Nat × List Mv} (ne : m ≠ l) : mkS C S0 m l s m = some (.ins C [("size", .int (s.1 : Nat)), ("laid", .ref l)]) := by unfold mkS; rw [upo_ne ne]; simp
theorem mkS_l {S0 : DH} {m l : Addr} {s : Nat × List Mv} : mkS C S0 m l s l = some (.dN (kset (s.2.map mvD))) := by unfold mkS; simp
theorem mkS_put {S0 : DH} {m l : Addr} {s : Nat × List Mv} {K : List Mv} : upo (mkS C S0 m l s) l (.dN (kset (K.map mvD))) = mkS C S0 m l (s.1, K) := by unfold mkS; rw [upo_upo]
theorem r_Maker_fresh (ds S Q E) (h : sp_Maker_fresh C ds S Q E) : t_Maker_fresh C (dEnd Q E) (dstart N_Maker_fresh ds) S := by
  obtain ⟨S0, m, l, s, rfl, rfl, ne, hs, h⟩ := h
  simp [t_Maker_fresh, dstart, mkS_m ne, putFD]
  unfold mkS at h ⊢
  rw [upo_comm ne.symm, upo_upo]
  exact .same h
@[simp] theorem lk_laid (a b : D) : List.lookup (Str.ofString "laid") [(Str.ofString "size", a), (Str.ofString "laid", b)] = some b := by
  have e : (Str.ofString "laid" == Str.ofString "size") = false := by decide +kernel
  simp [List.lookup, e]
theorem ptD_inj : ∀ p q : Pt, ptD p = ptD q → p = q := by
  refine ptInd ?_ ?_ ?_ ?_ ?_
  · intro q h
    cases q with
    | stay => rfl
    | mark b m => cases b <;> simp [ptD] at h
    | seq b m => cases b <;> simp [ptD] at h
    | _ => simp [ptD] at h
  · intro b w q h
    cases q with
    | step b' w' => cases b <;> cases b' <;> simp [ptD] at h ⊢ <;> exact h
    | mark b' m => cases b' <;> simp [ptD] at h
    | seq b' m => cases b' <;> simp [ptD] at h
    | _ => simp [ptD] at h
  · intro b w q h
    cases q with
    | mark b' w' => cases b <;> cases b' <;> simp [ptD] at h ⊢ <;> exact h
    | seq b' m => cases b <;> cases b' <;> simp [ptD] at h
    | _ => cases b <;> simp [ptD] at h
  · intro b ps ih q h
    have go : ∀ (xs ys : List Pt), (∀ x ∈ xs, x ∈ ps) → ptDs xs = ptDs ys → xs = ys := by
      intro xs
      induction xs with
      | nil => intro ys _ e; cases ys with | nil => rfl | cons y ys => simp [ptDs] at e
      | cons x xs ihx =>
        intro ys hx e
        cases ys with
        | nil => simp [ptDs] at e
        | cons y ys =>
          simp only [ptDs, List.cons.injEq] at e
          rw [ih x (hx x List.mem_cons_self) y e.1, ihx ys (fun z hz => hx z (List.mem_cons_of_mem _ hz)) e.2]
    cases q with
    | seq b' qs => cases b <;> cases b' <;> simp [ptD] at h ⊢ <;> exact go ps qs (fun _ z => z) h
    | mark b' w' => cases b <;> cases b' <;> simp [ptD] at h
    | _ => cases b <;> simp [ptD] at h
  · intro p ih q h
    cases q with
    | many q => simp [ptD] at h ⊢; exact ih q h
    | mark b' w' => cases b' <;> simp [ptD] at h
    | seq b' w' => cases b' <;> simp [ptD] at h
    | _ => simp [ptD] at h
theorem mvD_inj {x y : Mv} (h : mvD x = mvD y) : x = y := by
  obtain ⟨a, p, b⟩ := x
  obtain ⟨a', p', b'⟩ := y
  simp only [mvD, D.tup.injEq, List.cons.injEq, D.int.injEq, and_true] at h
  obtain ⟨h1, h2, h3⟩ := h
  have h1 : a = a' := by omega
  have h3 : b = b' := by omega
  rw [h1, h3, ptD_inj p p' h2]
theorem laid_put {K : List Mv} {x : Mv} : pt (kset (K.map mvD)) (mvD x) (.bl true) = kset ((addM K x).map mvD) := by
  unfold addM
  split
  · rename_i h
    exact pt_in (List.mem_map.mpr ⟨x, h, rfl⟩)
  · rename_i h
    rw [pt_out (fun z => by obtain ⟨y, hy, e⟩ := List.mem_map.mp z; exact h (mvD_inj e ▸ hy))]
    simp
theorem lay_put {S0 : DH} {m l : Addr} {s : Nat × List Mv} {a b : Nat} {p : Pt} (hp : p.isLeaf = true) (hl : s.2.length < 16777216) : okT (.tup [.int (a : Nat), ptD p, .int (b : Nat)]) = true ∧ (kset (s.2.map mvD)).length < 16777216 ∧
    upo (mkS C S0 m l s) l (.dN (pt (kset (s.2.map mvD)) (.tup [.int (a : Nat), ptD p, .int (b : Nat)]) (.bl true))) = mkS C S0 m l (s.1, addM s.2 ⟨a, p, b⟩) := by
  refine ⟨okT_mv (m := ⟨a, p, b⟩) hp, by rw [kset_len, List.length_map]; omega, ?_⟩
  have e := laid_put (K := s.2) (x := ⟨a, p, b⟩)
  simp only [mvD] at e
  rw [show (pt (kset (s.2.map mvD)) (.tup [.int (a : Nat), ptD p, .int (b : Nat)]) (.bl true)) = kset ((addM s.2 ⟨a, p, b⟩).map mvD) from e, mkS_put]
theorem r_Maker_lay (k : Nat) (ds S Q E) (h : sp_Maker_lay C k ds S Q E) : t_Maker_lay C (prevSp (sp_Maker_lay C) k) (prevSp (sp_Maker_lay_row C) k) (dEnd Q E) (dstart N_Maker_lay ds) S := by
  obtain ⟨S0, m, l, s, t, a, b, rfl, rfl, ⟨ne, nd, lf⟩, ⟨hd, hk, ho⟩, hs1, hs2, hf, h⟩ := h
  have i1 : inF (.str (Str.ofString "stay")) [.str (Str.ofString "stay"), .str (Str.ofString "step"), .str (Str.ofString "at"), .str (Str.ofString "off")] = true ∧ inF (.str (Str.ofString "step")) [.str (Str.ofString "stay"), .str (Str.ofString "step"), .str (Str.ofString "at"), .str (Str.ofString "off")] = true ∧
    inF (.str (Str.ofString "at")) [.str (Str.ofString "stay"), .str (Str.ofString "step"), .str (Str.ofString "at"), .str (Str.ofString "off")] = true ∧ inF (.str (Str.ofString "off")) [.str (Str.ofString "stay"), .str (Str.ofString "step"), .str (Str.ofString "at"), .str (Str.ofString "off")] = true ∧
    inF (.str (Str.ofString "then")) [.str (Str.ofString "stay"), .str (Str.ofString "step"), .str (Str.ofString "at"), .str (Str.ofString "off")] = false ∧ inF (.str (Str.ofString "either")) [.str (Str.ofString "stay"), .str (Str.ofString "step"), .str (Str.ofString "at"), .str (Str.ofString "off")] = false ∧
    inF (.str (Str.ofString "many")) [.str (Str.ofString "stay"), .str (Str.ofString "step"), .str (Str.ofString "at"), .str (Str.ofString "off")] = false := by decide +kernel
  have lp := Pt.all_pos t
  unfold t_Maker_lay
  refine dIf_gen fun A1 B1 hA hB => ?_
  cases t with
  | stay =>
    obtain ⟨g1, g2, g3⟩ := lay_put (C := C) (S0 := S0) (m := m) (l := l) (s := s) (a := a) (b := b) (p := .stay) rfl (by omega)
    simp [dstart, ptD, i1]
    subst hA
    simp only [ptD] at g1 g3
    simp [mkS_m ne, mkS_l, ptD, g1, g2, g3]
    exact .same h
  | step o w =>
    obtain ⟨g1, g2, g3⟩ := lay_put (C := C) (S0 := S0) (m := m) (l := l) (s := s) (a := a) (b := b) (p := .step o w) rfl (by omega)
    simp [dstart, ptD, i1]
    subst hA
    simp only [ptD] at g1 g3
    simp [mkS_m ne, mkS_l, ptD, g1, g2, g3]
    exact .same h
  | mark o w =>
    obtain ⟨g1, g2, g3⟩ := lay_put (C := C) (S0 := S0) (m := m) (l := l) (s := s) (a := a) (b := b) (p := .mark o w) rfl (by omega)
    cases o
    all_goals
      simp [dstart, ptD, i1]
      subst hA
      simp [ptD] at g1 g3
      simp [mkS_m ne, mkS_l, ptD, g1, g2, g3]
      exact .same h
  | many q =>
    rw [Pt.deep_many] at hd
    rw [Pt.all_many, List.length_cons] at hs1 hs2
    obtain ⟨n, rfl⟩ : ∃ n, k = n + 1 := ⟨k - 1, by omega⟩
    obtain ⟨g1, g2, g3⟩ := lay_put (C := C) (S0 := S0) (m := m) (l := l) (s := (s.1 + 1, s.2)) (a := a) (b := s.1) (p := .stay) rfl (by dsimp only; omega)
    have ln := addM_len (K := s.2) (x := ⟨a, .stay, s.1⟩)
    obtain ⟨f1, f2, f3⟩ := lay_put (C := C) (S0 := S0) (m := m) (l := l) (s := (s.1 + 1, addM s.2 ⟨a, .stay, s.1⟩)) (a := s.1) (b := b) (p := .stay) rfl (by dsimp only; omega)
    have ln2 := addM_len (K := addM s.2 ⟨a, .stay, s.1⟩) (x := ⟨s.1, .stay, b⟩)
    simp [dstart, ptD, i1]
    subst hB
    refine dIf_gen fun A2 B2 hA2 hB2 => ?_
    simp [ptD]
    subst hB2
    refine dIf_gen fun A2 B2 hA2 hB2 => ?_
    simp [ptD]
    subst hA2
    refine dSeq_gen fun R hR => ?_
    simp [mkS_m ne]
    refine ⟨S0, m, l, s, rfl, rfl, ne, by omega, ?_⟩
    subst hR
    refine dSeq_gen fun R hR => ?_
    simp only [ptD] at g1 g3 f1 f3
    simp [mkS_m ne, mkS_l, ptD]
    simp only at g2
    simp [g1, g2, g3]
    subst hR
    refine dSeq_gen fun R hR => ?_
    simp [mkS_m ne, mkS_l, ptD]
    simp only at f2
    simp [f1, f2, f3]
    subst hR
    simp [-prevSp, mkS_m ne]
    exact ⟨S0, m, l, _, q, s.1, s.1, rfl, rfl, ⟨ne, addM_nd (addM_nd nd), fun x hx => by
      rcases addM_mem.mp hx with hx | rfl
      · rcases addM_mem.mp hx with hx | rfl
        · exact lf x hx
        · rfl
      · rfl⟩, ⟨by omega, by omega, okP_kids ho (by simp [Pt.kids])⟩, by dsimp only; omega, by dsimp only; omega, kids_few hf (by simp [Pt.kids]), .same h⟩
  | seq o ps =>
    rw [Pt.deep_seq] at hd
    rw [Pt.all_seq, List.length_cons] at hs1 hs2
    have hl : ps.length ≤ 1000 := hf _ (Pt.self_all _)
    obtain ⟨n, rfl⟩ : ∃ n, k = n + 1 := ⟨k - 1, by omega⟩
    have hps : ∀ q ∈ ps, (q.deep ≤ n ∧ n ≤ 20 ∧ q.okP Nm) ∧ ∀ r ∈ q.all, r.kids.length ≤ 1000 := fun q hq => ⟨⟨by have := deeps_mem hq; omega, by omega, okP_kids ho (by simpa [Pt.kids] using hq)⟩, kids_few hf (by simpa [Pt.kids] using hq)⟩
    cases o
    all_goals
      simp [dstart, ptD, i1]
      subst hB
      refine dIf_gen fun A2 B2 hA2 hB2 => ?_
      simp [ptD]
    · subst hA2
      refine dFor_gen fun B hB => ?_
      simp
      refine loop_inv (fun j τ S' => ∃ (s' : Nat × List Mv) (x4 : Option D), τ = [some (.ref m), some (ptD (.seq false ps)), some (.int (a : Nat)), some (.int (b : Nat)), x4, none] ∧ S' = mkS C S0 m l s' ∧
        layA (ps.drop j) a b s' = layA ps a b s ∧ LayBd s s' (Pt.alls (ps.take j)).length (3 * (Pt.alls (ps.take j)).length)) ⟨s, none, rfl, rfl, rfl, .refl s⟩ (fun _ _ _ _ _ => trivial) ?_ ?_
      · rintro j d τ S1 N hd1 ⟨s', x4, rfl, rfl, g1, g2⟩ hN
        have hj : j < ps.length := by
          have h1 := (List.getElem?_eq_some_iff.mp hd1).1
          rwa [ptDs_len] at h1
        rw [ptDs_at hj] at hd1
        cases hd1
        have hq := hps _ (List.getElem_mem hj)
        have tk := alls_take hj
        have tl := alls_take_le (ps := ps) (j + 1)
        have b1 := g2.b1
        have b2 := g2.b2
        have ap := Pt.all_pos ps[j]
        subst hB
        simp [-prevSp, mkS_m ne]
        refine ⟨S0, m, l, s', ps[j], a, b, rfl, rfl, ⟨ne, g2.nd nd, g2.lf lf⟩, hq.1, by omega, by omega, hq.2, ?_⟩
        refine hN _ _ ⟨layP ps[j] a b s', _, rfl, rfl, ?_, (g2.trans (layP_bd ps[j] a b s')).more (by omega) (by omega)⟩
        rw [List.drop_eq_getElem_cons hj] at g1
        exact g1
      · rintro τ S1 ⟨s', x4, rfl, rfl, g1, g2⟩
        rw [ptDs_len, List.drop_length] at g1
        have e : s' = layA ps a b s := g1
        subst e
        exact .same h
    · subst hB2
      refine dIf_gen fun A2 B2 hA2 hB2 => ?_
      simp [ptD]
      subst hB2
      simp [-prevSp, mkS_m ne]
      exact ⟨S0, m, l, s, ps, a, b, rfl, rfl, ⟨ne, nd, lf⟩, ⟨fun t ht => ⟨(hps t ht).1.1, (hps t ht).1.2.2⟩, by omega⟩, by omega, by omega, hl, fun t ht => (hps t ht).2, .same h⟩
theorem r_Maker_lay_row (k : Nat) (ds S Q E) (h : sp_Maker_lay_row C k ds S Q E) : t_Maker_lay_row C (sp_Maker_lay C k) (dEnd Q E) (dstart N_Maker_lay_row ds) S := by
  obtain ⟨S0, m, l, s, ps, a, b, rfl, rfl, ⟨ne, nd, lf⟩, ⟨hd, hk⟩, hs1, hs2, hl, hf, h⟩ := h
  have hsm : Sm 60 (.tup (ptDs ps)) := by
    have h1 := pts_sm ps fun p hp => (hd p hp).2
    have h2 : Pt.deeps ps ≤ k := deeps_le fun t ht => (hd t ht).1
    exact (Sm_tup.mpr h1).mono (by omega)
  unfold t_Maker_lay_row
  refine dSeqIf_gen fun A1 B1 R hA hB hR => ?_
  simp [dstart]
  refine dEq_sm hsm (Sm_tup (n := 59).mpr fun d hd => nomatch hd) ?_
  have tail : ∀ s0 : Nat × List Mv, s0.2.Nodup → (∀ x ∈ s0.2, x.p.isLeaf = true) → s0.1 + 2 * (Pt.alls ps).length + 1 ≤ 100000 → s0.2.length + 3 * (Pt.alls ps).length ≤ 100000 → Q .non (mkS C S0 m l (layR ps a b s0)) →
      R (dEnd Q E) [some (.ref m), some (.tup (ptDs ps)), some (.int (a : Nat)), some (.int (b : Nat)), none, none, none] (mkS C S0 m l s0) := by
    intro s0 nd lf hs1 hs2 hq
    subst hR
    refine dSeq_gen fun R hR => ?_
    simp
    subst hR
    refine dFor_gen fun B hB => ?_
    simp [ptDs_len]
    refine ⟨by omega, ?_⟩
    refine loop_inv (fun j τ S' => ∃ (s' : Nat × List Mv) (c : Nat) (x5 x6 : Option D), τ = [some (.ref m), some (.tup (ptDs ps)), some (.int (a : Nat)), some (.int (b : Nat)), some (.int (c : Nat)), x5, x6] ∧ S' = mkS C S0 m l s' ∧
      layR (ps.drop j) c b s' = layR ps a b s0 ∧ LayBd s0 s' (Pt.alls (ps.take j)).length (3 * (Pt.alls (ps.take j)).length)) ⟨s0, a, none, none, rfl, rfl, rfl, .refl s0⟩ (fun _ _ _ _ _ => trivial) ?_ ?_
    · rintro j d τ S1 N hd1 ⟨s', c, x5, x6, rfl, rfl, g1, g2⟩ hN
      obtain ⟨hj, rfl⟩ := rng_get hd1
      have hq := hd _ (List.getElem_mem hj)
      have tk := alls_take hj
      have tl := alls_take_le (ps := ps) (j + 1)
      have b1 := g2.b1
      have b2 := g2.b2
      have ap := Pt.all_pos ps[j]
      have hne0 : 0 < ps.length := by omega
      have call : ∀ (s1 : Nat × List Mv) (v : Nat), LayBd s' s1 1 0 → (layR (ps.drop (j + 1)) v b (layP ps[j] c v s1) = layR ps a b s0) → LayBd s' (layP ps[j] c v s1) ps[j].all.length (3 * ps[j].all.length) →
          sp_Maker_lay C k [.ref m, ptD ps[j], .int (c : Nat), .int (v : Nat)] (mkS C S0 m l s1) (fun _ S' => N [some (.ref m), some (.tup (ptDs ps)), some (.int (a : Nat)), some (.int (b : Nat)), some (.int (v : Nat)), some (.int (j : Nat)), some (.int (v : Nat))] S') (fun C fs S' => ∃ S'', Dt.Sub S'' S' ∧ E C fs S'') := fun s1 v l1 e l2 => by
        have c1 := l1.b1
        have c2 := l1.b2
        refine ⟨S0, m, l, s1, ps[j], c, v, rfl, rfl, ⟨ne, l1.nd (g2.nd nd), l1.lf (g2.lf lf)⟩, ⟨hq.1, hk, hq.2⟩, by omega, by omega, hf _ (List.getElem_mem hj), ?_⟩
        exact hN _ _ ⟨layP ps[j] c v s1, v, _, _, rfl, rfl, e, (g2.trans l2).more (by omega) (by omega)⟩
      subst hB
      refine dSeq_gen fun R' hR' => ?_
      simp
      subst hR'
      refine dSeqIf_gen fun A2 B2 R' hA2 hB2 hR' => ?_
      simp [ptDs_len]
      by_cases hlast : j + 1 < ps.length
      · rw [if_pos (by omega)]
        subst hA2
        simp [mkS_m ne]
        refine ⟨S0, m, l, s', rfl, rfl, ne, by omega, ?_⟩
        subst hR'
        simp [mkS_m ne, atI_nat (ptDs_at hj)]
        refine call (s'.1 + 1, s'.2) s'.1 (lay_fresh s') ?_ (((lay_fresh s').trans (layP_bd ps[j] c s'.1 (s'.1 + 1, s'.2))).more (by omega) (by omega))
        rw [List.drop_eq_getElem_cons hj, List.drop_eq_getElem_cons hlast] at g1
        rw [List.drop_eq_getElem_cons hlast]
        exact g1
      · rw [if_neg (by omega)]
        subst hB2
        simp
        subst hR'
        simp [mkS_m ne, atI_nat (ptDs_at hj)]
        refine call s' b ((LayBd.refl s').more (by omega) (by omega)) ?_ ((layP_bd ps[j] c b s').more (by omega) (by omega))
        have e3 : ps.drop (j + 1) = [] := List.drop_eq_nil_of_le (by omega)
        rw [List.drop_eq_getElem_cons hj, e3] at g1
        rw [e3]
        exact g1
    · rintro τ S1 ⟨s', c, x5, x6, rfl, rfl, g1, g2⟩
      have e0 : (rngD 0 ps.length).length = ps.length := by simp [rngD]
      rw [e0, List.drop_length] at g1
      have e : s' = layR ps a b s0 := g1
      subst e
      exact .same hq
  by_cases hne : ps = []
  · subst hne
    obtain ⟨g1, g2, g3⟩ := lay_put (C := C) (S0 := S0) (m := m) (l := l) (s := s) (a := a) (b := b) (p := .stay) rfl (by omega)
    simp only [ptD] at g1 g3
    have a1 := addM_len (K := s.2) (x := ⟨a, .stay, b⟩)
    simp [ptDs]
    subst hA
    simp [mkS_m ne, mkS_l, g1, g2, g3]
    exact tail (s.1, addM s.2 ⟨a, .stay, b⟩) (addM_nd nd) (fun x hx => by
      rcases addM_mem.mp hx with hx | rfl
      · exact lf x hx
      · rfl) (by simp [Pt.alls] at hs1 ⊢; omega) (by simp [Pt.alls] at hs2 ⊢; omega) h
  · have e2 : ptDs ps ≠ [] := by rw [ptDs_map]; simpa using hne
    simp [e2]
    subst hB
    simp
    refine tail s nd lf (by omega) (by omega) ?_
    obtain ⟨q, qs, rfl⟩ := List.exists_cons_of_ne_nil hne
    exact h
end
end Rm
set_option maxRecDepth 100000
set_option maxHeartbeats 4000000
namespace Rm
open PySem PySem.Spec L2
open Rc
open ShB hiding N_l_leaf dSeqWhile_gen r_l_leaf sp_l_leaf sp_l_leaf_mono t_l_leaf
open Sh hiding N_l_cell_at N_l_feed N_l_leaf N_l_names N_l_pattern deeps_le deeps_mem perm_map_ex r_l_cell_at r_l_leaf r_l_pattern sp_l_leaf sp_l_leaf_mono sp_l_names sp_l_pattern sp_l_pattern_mono srt_strict t_l_cell_at t_l_feed t_l_leaf t_l_names t_l_pattern
open Dt hiding nkeys sp_l_cell_at sp_l_cell_at_mono sp_l_feed
def InB (s : Nat × List Mv) : Prop := ∀ x ∈ s.2, x.a < s.1 ∧ x.b < s.1 ∧ x.p.okP Nm
theorem InB.add {s : Nat × List Mv} {x : Mv} (h : InB s) (ha : x.a < s.1) (hb : x.b < s.1) (hp : x.p.okP Nm) : InB (s.1, addM s.2 x) := fun y hy => by
  rcases addM_mem.mp hy with hy | rfl
  · exact h y hy
  · exact ⟨ha, hb, hp⟩
theorem InB.fresh {s : Nat × List Mv} (h : InB s) : InB (s.1 + 1, s.2) := fun y hy => ⟨Nat.lt_succ_of_lt (h y hy).1, Nat.lt_succ_of_lt (h y hy).2.1, (h y hy).2.2⟩
theorem stay_ok : Pt.stay.okP Nm := fun q hq => by
  simp [Pt.all] at hq
  subst hq
  trivial
theorem layP_in : ∀ (t : Pt) (a b : Nat) (s : Nat × List Mv), t.okP Nm → a < s.1 → b < s.1 → InB s → InB (layP t a b s) := by
  refine ptInd ?_ ?_ ?_ ?_ ?_
  · intro a b s ho ha hb h; exact h.add (x := ⟨a, .stay, b⟩) ha hb ho
  · intro o w a b s ho ha hb h; exact h.add (x := ⟨a, .step o w, b⟩) ha hb ho
  · intro o w a b s ho ha hb h; exact h.add (x := ⟨a, .mark o w, b⟩) ha hb ho
  · intro o ps ih a b s ho ha hb h
    have hk : ∀ x ∈ ps, x.okP Nm := fun x hx => okP_kids ho (by simpa [Pt.kids] using hx)
    cases o
    · have go : ∀ (xs : List Pt) (s : Nat × List Mv), (∀ x ∈ xs, x ∈ ps) → a < s.1 → b < s.1 → InB s → InB (layA xs a b s) := by
        intro xs
        induction xs with
        | nil => intro s _ _ _ h; exact h
        | cons x xs ihx =>
          intro s hx ha hb h
          have hm := hx x List.mem_cons_self
          have up := (layP_bd x a b s).up
          exact ihx _ (fun z hz => hx z (List.mem_cons_of_mem _ hz)) (by omega) (by omega) (ih x hm a b s (hk x hm) ha hb h)
      exact go ps s (fun _ z => z) ha hb h
    · have go : ∀ (xs : List Pt) (a : Nat) (s : Nat × List Mv), (∀ x ∈ xs, x ∈ ps) → a < s.1 → b < s.1 → InB s → InB (layR xs a b s) := by
        intro xs
        induction xs with
        | nil => intro a s _ _ _ h; exact h
        | cons x xs ihx =>
          intro a s hx ha hb h
          have hm := hx x List.mem_cons_self
          cases xs with
          | nil => exact ih x hm a b s (hk x hm) ha hb h
          | cons y ys =>
            have up := (layP_bd x a s.1 (s.1 + 1, s.2)).up
            dsimp only at up
            exact ihx s.1 _ (fun z hz => hx z (List.mem_cons_of_mem _ hz)) (by omega) (by omega) (ih x hm a s.1 (s.1 + 1, s.2) (hk x hm) (Nat.lt_succ_of_lt ha) (Nat.lt_succ_self _) h.fresh)
      cases ps with
      | nil => exact h.add (x := ⟨a, .stay, b⟩) ha hb stay_ok
      | cons x xs => exact go (x :: xs) a s (fun _ z => z) ha hb h
  · intro p ih a b s ho ha hb h
    refine ih s.1 s.1 _ (okP_kids ho (by simp [Pt.kids])) (Nat.lt_succ_self _) (Nat.lt_succ_self _) ?_
    exact ((h.fresh.add (x := ⟨a, .stay, s.1⟩) (Nat.lt_succ_of_lt ha) (Nat.lt_succ_self _) stay_ok).add (x := ⟨s.1, .stay, b⟩) (Nat.lt_succ_self _) (Nat.lt_succ_of_lt hb) stay_ok)
def sp_machine_of (C : Addr) : DSp := fun ds S Q _ => ∃ (t : Pt), ds = [ptD t] ∧ t.okP Nm ∧ t.deep ≤ 3 ∧ t.all.length ≤ 10000 ∧ (∀ q ∈ t.all, q.kids.length ≤ 1000) ∧
  ∀ M : Mc, OkMc M → M.n = (layP t 0 1 (2, [])).1 → M.b = 0 → M.es = [1] → M.mv.Perm (layP t 0 1 (2, [])).2 → Q (machD M) S
theorem sp_machine_of_mono (C : Addr) : SpMono (sp_machine_of C) := fun ds S Q Q' E E' kk _ ⟨t, h1, h2, h3, h4, h5, h⟩ => ⟨t, h1, h2, h3, h4, h5, fun M a b c d e => kk _ _ (h M a b c d e)⟩
theorem r_machine_of {C : Addr} (ds S Q E) (h : sp_machine_of C ds S Q E) : t_machine_of C (dEnd Q E) (dstart N_machine_of ds) S := by
  obtain ⟨t, rfl, ho, hd, ha, hf, h⟩ := h
  unfold t_machine_of
  refine dSeq_gen fun R hR => ?_
  simp [dstart]
  intro m hm
  refine ⟨m, rfl, by simp, fun l hl => ⟨rfl, ?_⟩⟩
  have ne : m ≠ l := fun z => by subst z; simp at hl
  have hl' : S l = none := by rw [upo_ne ne.symm] at hl; exact hl
  subst hR
  refine dSeq_gen fun R hR => ?_
  simp [mkS_m ne]
  refine ⟨upo S m (.ins C []), m, l, (2, []), t, 0, 1, rfl, rfl, ⟨ne, .nil, fun _ z => nomatch z⟩, ⟨hd, by decide, ho⟩, by dsimp only; omega, by simp; omega, hf, ?_⟩
  have bd := layP_bd t 0 1 (2, [])
  have ib := layP_in t 0 1 (2, []) ho (by decide) (by decide) (fun _ z => nomatch z)
  generalize layP t 0 1 (2, []) = r at bd ib h
  obtain ⟨n, K⟩ := r
  have nd : K.Nodup := bd.nd .nil
  have lf : ∀ x ∈ K, x.p.isLeaf = true := bd.lf fun _ z => nomatch z
  have b0 : 2 ≤ n := bd.up
  have b2 : K.length ≤ 0 + 3 * t.all.length := bd.b2
  have ib : ∀ x ∈ K, x.a < n ∧ x.b < n ∧ x.p.okP Nm := ib
  subst hR
  simp [mkS_m ne, mkS_l]
  have okm : ∀ x ∈ K, OkMv x := fun x hx => ⟨lf x hx, okP_imp (fun _ => Nm.okS) (ib x hx).2.2⟩
  have hty : ∀ d ∈ K.map mvD, hasTy mvTy d = true := fun d hd => by
    obtain ⟨x, hx, rfl⟩ := List.mem_map.mp hd
    exact mv_ty (okm x hx)
  have ek : List.map (fun x => x.fst) (kset (List.map mvD K)) = K.map mvD := by simp [kset]
  rw [ek]
  have ndm : (K.map mvD).Nodup := by
    refine List.pairwise_map.mpr (nd.imp fun a e => a (mvD_inj e))
  refine ⟨⟨mvTy, rfl, hty⟩, ?_⟩
  obtain ⟨mv2, pm, e2⟩ := perm_map_ex (srt_perm (K.map mvD)) rfl
  have st := srt_strict hty ndm
  rw [e2] at st ⊢
  have := h ⟨n, 0, [1], mv2⟩ ⟨by show 0 < n; omega, by simp, fun e he => by simp at he; subst he; show 1 < n; omega, st, fun x hx => by
    have hx := pm.mem_iff.mp hx
    exact ⟨(ib x hx).1, (ib x hx).2.1, lf x hx, (ib x hx).2.2⟩⟩ rfl rfl rfl pm
  refine .keep (S := S) (fun b o e => ?_) this
  have nb1 : b ≠ m := fun z => by subst z; rw [hm] at e; cases e
  have nb2 : b ≠ l := fun z => by subst z; rw [hl'] at e; cases e
  unfold mkS
  rw [upo_ne nb2, upo_ne nb1, upo_ne nb1]
  exact e
end Rm
set_option maxRecDepth 100000
set_option maxHeartbeats 4000000
namespace Sh
open PySem PySem.Spec L2 Dt Sh
/-! ShW: the class Web: its objects and what its methods do. -/
abbrev T3 := Str × Str × Str
def triD (t : T3) : D := .tup [.str t.1, .str t.2.1, .str t.2.2]
theorem okT_tri (t : T3) : okT (triD t) = true := rfl
def okT3 (t : T3) : Prop := okS t.1 ∧ okS t.2.1 ∧ okS t.2.2
abbrev triTy : Ty := .tup [.str, .str, .str]
/-- a web, told plainly -/
structure Wb where
  ks : List (Str × List Str)
  ts : List T3
def Wb.names (W : Wb) : List Str := W.ks.map (·.1)
def IsSt (W : Wb) (x : Str) (t : T3) : Prop := (t.1 = "on" ∧ (x, t.2.1, t.2.2) ∈ W.ts) ∨ (t.1 = "back" ∧ (t.2.2, t.2.1, x) ∈ W.ts)
structure OkWb (W : Wb) : Prop where
  nd : W.names.Nodup
  nt : W.ts.Nodup
  tn : ∀ t ∈ W.ts, t.1 ∈ W.names ∧ t.2.2 ∈ W.names
  on : ∀ x ∈ W.names, okS x
  om : ∀ k ∈ W.ks, ∀ m ∈ k.2, okS m
  ot : ∀ t ∈ W.ts, okS t.2.1
  lk : W.ks.length ≤ 100000
  lt : W.ts.length ≤ 100000
structure WRow where
  name : Str
  marks : List Str
  ma : Addr
  sa : Addr
  st : List T3
abbrev rMarks (rs : List WRow) : List (Key × D) := rs.map fun r => (.inr r.name, .ref r.ma)
abbrev rSteps (rs : List WRow) : List (Key × D) := rs.map fun r => (.inr r.name, .ref r.sa)
def rAdr (rs : List WRow) : List Addr := rs.flatMap fun r => [r.ma, r.sa]
structure WebR (C : Addr) (S : DH) (w a b c : Addr) (W : Wb) (rs : List WRow) : Prop where
  ks : rs.map (fun r => (r.name, r.marks)) = W.ks
  ins : S w = some (.ins C [("web_marks", .ref a), ("web_ties", .ref b), ("web_steps", .ref c)])
  sm : S a = some (.dK (rMarks rs))
  st : S b = some (.dN (kset (W.ts.map triD)))
  ss : S c = some (.dK (rSteps rs))
  rm : ∀ r ∈ rs, S r.ma = some (.lst (strsD r.marks))
  rt : ∀ r ∈ rs, S r.sa = some (.dN (kset (r.st.map triD))) ∧ r.st.Nodup ∧ ∀ t, t ∈ r.st ↔ IsSt W r.name t
  nd : (w :: a :: b :: c :: rAdr rs).Nodup
  ok : OkWb W
def WebAt (C : Addr) (S : DH) (w : Addr) (W : Wb) (F : List Addr) : Prop := ∃ a b c rs, F = w :: a :: b :: c :: rAdr rs ∧ WebR C S w a b c W rs
/-- what does not belong to F stays -/
def Fr (S : DH) (F : List Addr) (S' : DH) (F' : List Addr) : Prop := ∀ y o, y ∉ F → S y = some o → y ∉ F' ∧ S' y = some o
theorem Fr.refl {S : DH} {F : List Addr} : Fr S F S F := fun _ _ h e => ⟨h, e⟩
theorem Fr.trans {S S1 S2 : DH} {F F1 F2 : List Addr} (h : Fr S F S1 F1) (k : Fr S1 F1 S2 F2) : Fr S F S2 F2 := fun y o hy e => by
  obtain ⟨h1, h2⟩ := h y o hy e
  exact k y o h1 h2
theorem mem_rAdr {rs : List WRow} {y : Addr} : y ∈ rAdr rs ↔ ∃ r ∈ rs, y = r.ma ∨ y = r.sa := by
  simp [rAdr, List.mem_flatMap]
theorem WebAt.keep {C : Addr} {S S' : DH} {w : Addr} {W : Wb} {F : List Addr} (h : WebAt C S w W F) (k : ∀ y ∈ F, ∀ o, S y = some o → S' y = some o) : WebAt C S' w W F := by
  obtain ⟨a, b, c, rs, rfl, h⟩ := h
  refine ⟨a, b, c, rs, rfl, h.ks, k w (by simp) _ h.ins, k a (by simp) _ h.sm, k b (by simp) _ h.st, k c (by simp) _ h.ss, fun r hr => k _ (by simp [mem_rAdr]; exact .inr (.inr (.inr (.inr ⟨r, hr, .inl rfl⟩)))) _ (h.rm r hr), fun r hr => ?_, h.nd, h.ok⟩
  obtain ⟨h1, h2⟩ := h.rt r hr
  exact ⟨k _ (by simp [mem_rAdr]; exact .inr (.inr (.inr (.inr ⟨r, hr, .inr rfl⟩)))) _ h1, h2⟩
theorem WebAt.ext {C : Addr} {S S' : DH} {w : Addr} {W : Wb} {F : List Addr} (h : WebAt C S w W F) (e : Ext S S') : WebAt C S' w W F := h.keep fun y _ o h => e y o h
/-- rows by names -/
theorem row_at {rs : List WRow} {W : Wb} (h : rs.map (fun r => (r.name, r.marks)) = W.ks) {x : Str} : x ∈ W.names ↔ ∃ r ∈ rs, r.name = x := by
  simp [Wb.names, ← h]
theorem lk_rows {f : WRow → D} : ∀ {rs : List WRow}, (rs.map (·.name)).Nodup → ∀ r ∈ rs, lk (rs.map fun r => ((.inr r.name : Key), f r)) (.inr r.name) = some (f r)
  | q :: rs, nd, r, hr => by
    simp only [List.map_cons, List.nodup_cons] at nd
    rcases List.mem_cons.mp hr with rfl | hr
    · simp [lk]
    · have ne : q.name ≠ r.name := fun e => nd.1 (e ▸ List.mem_map.mpr ⟨r, hr, rfl⟩)
      simp [lk, ne]
      exact lk_rows nd.2 r hr
theorem lk_rows_none {f : WRow → D} {x : Str} : ∀ {rs : List WRow}, (∀ r ∈ rs, r.name ≠ x) → lk (rs.map fun r => ((.inr r.name : Key), f r)) (.inr x) = none
  | [], _ => rfl
  | q :: rs, h => by
    have := h q (List.mem_cons_self ..)
    simp [lk, this]
    exact lk_rows_none fun r hr => h r (List.mem_cons_of_mem _ hr)
theorem WebR.names {C : Addr} {S : DH} {w a b c : Addr} {W : Wb} {rs : List WRow} (h : WebR C S w a b c W rs) : rs.map (·.name) = W.names := by
  simp [Wb.names, ← h.ks]
theorem WebR.len {C : Addr} {S : DH} {w a b c : Addr} {W : Wb} {rs : List WRow} (h : WebR C S w a b c W rs) : rs.length = W.ks.length := by
  rw [← h.ks, List.length_map]
def wMarks (W : Wb) (x : Str) : List Str := ((W.ks.find? fun k => k.1 = x).map (·.2)).getD []
theorem WebR.marks {C : Addr} {S : DH} {w a b c : Addr} {W : Wb} {rs : List WRow} (h : WebR C S w a b c W rs) {r : WRow} (hr : r ∈ rs) : wMarks W r.name = r.marks := by
  have nd : (rs.map (·.name)).Nodup := h.names ▸ h.ok.nd
  unfold wMarks
  rw [← h.ks]
  clear h
  induction rs with
  | nil => cases hr
  | cons q rs ih =>
    simp only [List.map_cons, List.nodup_cons] at nd
    rcases List.mem_cons.mp hr with rfl | hr
    · simp
    · have ne : q.name ≠ r.name := fun e => nd.1 (e ▸ List.mem_map.mpr ⟨r, hr, rfl⟩)
      simp [ne] at ih ⊢
      exact ih hr nd.2
end Sh
set_option maxRecDepth 100000
set_option maxHeartbeats 4000000
namespace Sh
open PySem PySem.Spec L2 Dt Sh
section
variable (C : Addr)
def sp_Web_init : DSp := fun ds S Q _ => ∃ w : Addr, ds = [.ref w] ∧ S w = some (.ins C []) ∧ ∀ S' F, WebAt C S' w ⟨[], []⟩ F → Fr S [w] S' F → Q .non S'
def sp_Web_ask_knot : DSp := fun ds S Q _ => ∃ (w : Addr) (W : Wb) (F : List Addr) (x : Str), ds = [.ref w, .str x] ∧ WebAt C S w W F ∧ x ∈ W.names ∧ Q .non S
def sp_Web_lay_knot : DSp := fun ds S Q _ => ∃ (w : Addr) (W : Wb) (F : List Addr) (x : Str) (d : D) (ms : List Str), ds = [.ref w, .str x, d] ∧ WebAt C S w W F ∧ (d = .tup (strsD ms) ∨ seqD S d = some (strsD ms)) ∧ OkWb ⟨W.ks ++ [(x, ms)], W.ts⟩ ∧
  ∀ S' F', WebAt C S' w ⟨W.ks ++ [(x, ms)], W.ts⟩ F' → Fr S F S' F' → Q .non S'
def sp_Web_put_knot : DSp := fun ds S Q _ => ∃ (w : Addr) (W : Wb) (F : List Addr) (x : Str) (d : D) (ms : List Str), ds = [.ref w, .str x, d] ∧ WebAt C S w W F ∧ (d = .tup (strsD ms) ∨ seqD S d = some (strsD ms)) ∧ OkWb ⟨W.ks ++ [(x, ms)], W.ts⟩ ∧ W.ks.length < 40 ∧
  ∀ S' F', WebAt C S' w ⟨W.ks ++ [(x, ms)], W.ts⟩ F' → Fr S F S' F' → Q .non S'
def sp_Web_lay_tie : DSp := fun ds S Q _ => ∃ (w : Addr) (W : Wb) (F : List Addr) (t : T3), ds = [.ref w, triD t] ∧ WebAt C S w W F ∧ OkWb ⟨W.ks, W.ts ++ [t]⟩ ∧
  ∀ S', WebAt C S' w ⟨W.ks, W.ts ++ [t]⟩ F → Fr S F S' F → Q .non S'
def sp_Web_put_tie : DSp := fun ds S Q _ => ∃ (w : Addr) (W : Wb) (F : List Addr) (t : T3), ds = [.ref w, .str t.1, .str t.2.1, .str t.2.2] ∧ WebAt C S w W F ∧ OkWb ⟨W.ks, W.ts ++ [t]⟩ ∧ W.ts.length < 300 ∧
  ∀ S', WebAt C S' w ⟨W.ks, W.ts ++ [t]⟩ F → Fr S F S' F → Q .non S'
/-- texts, sorted -/
def sortS (xs : List Str) : List D := srtD (strsD xs)
def sp_Web_knots : DSp := fun ds S Q _ => ∃ (w : Addr) (W : Wb) (F : List Addr), ds = [.ref w] ∧ WebAt C S w W F ∧ (Q (.rol (sortS W.names)) S ∨ ∀ q, S q = none → Q (.ref q) (upo S q (.lst (sortS W.names))))
def sp_Web_marks : DSp := fun ds S Q _ => ∃ (w : Addr) (W : Wb) (F : List Addr) (x : Str), ds = [.ref w, .str x] ∧ WebAt C S w W F ∧ x ∈ W.names ∧ (Q (.rol (sortS (wMarks W x))) S ∨ ∀ q, S q = none → Q (.ref q) (upo S q (.lst (sortS (wMarks W x)))))
def sp_Web_has_tie : DSp := fun ds S Q _ => ∃ (w : Addr) (W : Wb) (F : List Addr) (t : T3), ds = [.ref w, .str t.1, .str t.2.1, .str t.2.2] ∧ WebAt C S w W F ∧ Q (.bl (decide (t ∈ W.ts))) S
/-- the steps from a knot, each once, sorted -/
structure StepsOf (W : Wb) (x : Str) (st : List T3) : Prop where
  nd : st.Nodup
  mem : ∀ t, t ∈ st ↔ IsSt W x t
  srt : (st.map triD).Pairwise fun a b => ltD a b = true
def sp_Web_steps : DSp := fun ds S Q _ => ∃ (w : Addr) (W : Wb) (F : List Addr) (x : Str), ds = [.ref w, .str x] ∧ WebAt C S w W F ∧ x ∈ W.names ∧ ((∀ st, StepsOf W x st → Q (.rol (st.map triD)) S) ∨ ∀ st q, StepsOf W x st → S q = none → Q (.ref q) (upo S q (.lst (st.map triD))))
/-- a web's rows -/
structure RowsOf (W : Wb) (d : D) : Prop where
  ex : ∃ (ns : List Str) (ts : List T3), ns.Perm W.names ∧ ts.Perm W.ts ∧ sortS W.names = strsD ns ∧ srtD (W.ts.map triD) = ts.map triD ∧
    d = .tup [.tup (ns.map fun x => .tup [.str x, .tup (sortS (wMarks W x))]), .tup (ts.map triD)]
def sp_Web_rows : DSp := fun ds S Q _ => ∃ (w : Addr) (W : Wb) (F : List Addr), ds = [.ref w] ∧ WebAt C S w W F ∧ ∀ d, RowsOf W d → Q d S
end
def t_Web_init (C_Web : Addr) : DTS := (dSeq (dPutF C_Web "web_marks" (dVar 0) dDnK)
    (dSeq (dPutF C_Web "web_ties" (dVar 0) dDnN)
    (dPutF C_Web "web_steps" (dVar 0) dDnK)))
abbrev N_Web_init : List Str := ["self"]
def t_Web_ask_knot (C_Web : Addr) : DTS := (dIf (dTest (dOp (dIn true) (dVar 1) (dFld C_Web "web_marks" (dVar 0))))
      dNever
      dNx)
abbrev N_Web_ask_knot : List Str := ["self", "name"]
def t_Web_lay_knot (C_Web : Addr) : DTS := (dSeq (dPut (dFld C_Web "web_marks" (dVar 0)) (dVar 1) (dCB cListA (dCons (dVar 2) dNil)))
    (dPut (dFld C_Web "web_steps" (dVar 0)) (dVar 1) dDnN))
abbrev N_Web_lay_knot : List Str := ["self", "name", "marks"]
def t_Web_lay_tie (C_Web : Addr) : DTS := (dSeq (dAsg (dVar 1) (dGTupA 3 (dGCons (dGN 2) (dGCons (dGN 3) (dGCons (dGN 4) dGNil)))))
    (dSeq (dPut (dFld C_Web "web_ties" (dVar 0)) (dVar 1) (dC (.bl true)))
    (dSeq (dPut (dOp dIxS (dFld C_Web "web_steps" (dVar 0)) (dVar 2)) (dTup (dCons (dC (.str "on")) (dCons (dVar 3) (dCons (dVar 4) dNil)))) (dC (.bl true)))
    (dPut (dOp dIxS (dFld C_Web "web_steps" (dVar 0)) (dVar 4)) (dTup (dCons (dC (.str "back")) (dCons (dVar 3) (dCons (dVar 2) dNil)))) (dC (.bl true))))))
abbrev N_Web_lay_tie : List Str := ["self", "tie", "one", "word", "other"]
def t_Web_knots (C_Web : Addr) : DTS := (dRet (dCB cSortA (dCons (dFld C_Web "web_marks" (dVar 0)) dNil)))
abbrev N_Web_knots : List Str := ["self"]
def t_Web_has_tie (C_Web : Addr) : DTS := (dRet (dOp (dIn false) (dTup (dCons (dVar 1) (dCons (dVar 2) (dCons (dVar 3) dNil)))) (dFld C_Web "web_ties" (dVar 0))))
abbrev N_Web_has_tie : List Str := ["self", "one", "word", "other"]
def t_Web_put_knot (C_Web : Addr) : DTS := (dSeq (dIf (dTest (dOp (dIn false) (dVar 1) (dFld C_Web "web_marks" (dVar 0))))
      dNever
      dNx)
    (dSeq (dIf (dTest (dOp rGe (dCB cLen (dCons (dFld C_Web "web_marks" (dVar 0)) dNil)) (dC (.int 40))))
      dNever
      dNx)
    (dDrop (dMeth C_Web "lay_knot" (sp_Web_lay_knot C_Web) (dVar 0) (dCons (dVar 1) (dCons (dVar 2) dNil))))))
abbrev N_Web_put_knot : List Str := ["self", "name", "marks"]
def t_Web_put_tie (C_Web : Addr) : DTS := (dSeq (dDrop (dMeth C_Web "ask_knot" (sp_Web_ask_knot C_Web) (dVar 0) (dCons (dVar 1) dNil)))
    (dSeq (dDrop (dMeth C_Web "ask_knot" (sp_Web_ask_knot C_Web) (dVar 0) (dCons (dVar 3) dNil)))
    (dSeq (dIf (dTest (dMeth C_Web "has_tie" (sp_Web_has_tie C_Web) (dVar 0) (dCons (dVar 1) (dCons (dVar 2) (dCons (dVar 3) dNil)))))
      dNever
      dNx)
    (dSeq (dIf (dTest (dOp rGe (dCB cLen (dCons (dFld C_Web "web_ties" (dVar 0)) dNil)) (dC (.int 300))))
      dNever
      dNx)
    (dDrop (dMeth C_Web "lay_tie" (sp_Web_lay_tie C_Web) (dVar 0) (dCons (dTup (dCons (dVar 1) (dCons (dVar 2) (dCons (dVar 3) dNil)))) dNil)))))))
abbrev N_Web_put_tie : List Str := ["self", "one", "word", "other"]
def t_Web_marks (C_Web : Addr) : DTS := (dSeq (dDrop (dMeth C_Web "ask_knot" (sp_Web_ask_knot C_Web) (dVar 0) (dCons (dVar 1) dNil)))
    (dRet (dCB cSortA (dCons (dOp dIxS (dFld C_Web "web_marks" (dVar 0)) (dVar 1)) dNil))))
abbrev N_Web_marks : List Str := ["self", "knot"]
def t_Web_steps (C_Web : Addr) : DTS := (dSeq (dDrop (dMeth C_Web "ask_knot" (sp_Web_ask_knot C_Web) (dVar 0) (dCons (dVar 1) dNil)))
    (dRet (dCB cSortA (dCons (dOp dIxS (dFld C_Web "web_steps" (dVar 0)) (dVar 1)) dNil))))
abbrev N_Web_steps : List Str := ["self", "knot"]
def t_Web_rows (C_Web : Addr) : DTS := (dSeq (dAsg (dFz (dLc (dSeqI (dMeth C_Web "knots" (sp_Web_knots C_Web) (dVar 0) dNil)) (dGN 2) dYes (dTup (dCons (dVar 2) (dCons (dCB cTuple (dCons (dMeth C_Web "marks" (sp_Web_marks C_Web) (dVar 0) (dCons (dVar 2) dNil)) dNil)) dNil))) [2])) (dGN 1))
    (dRet (dTup (dCons (dCB cTuple (dCons (dVar 1) dNil)) (dCons (dCB cTuple (dCons (dCB cSortAF (dCons (dFld C_Web "web_ties" (dVar 0)) dNil)) dNil)) dNil)))))
abbrev N_Web_rows : List Str := ["self", "knots", "name"]
@[simp] theorem fw1 (a b c : D) : List.lookup (Str.ofString "web_marks") [(Str.ofString "web_marks", a), (Str.ofString "web_ties", b), (Str.ofString "web_steps", c)] = some a := by simp [List.lookup]
@[simp] theorem fw2 (a b c : D) : List.lookup (Str.ofString "web_ties") [(Str.ofString "web_marks", a), (Str.ofString "web_ties", b), (Str.ofString "web_steps", c)] = some b := by
  have e : (Str.ofString "web_ties" == Str.ofString "web_marks") = false := by decide +kernel
  simp [List.lookup, e]
@[simp] theorem fw3 (a b c : D) : List.lookup (Str.ofString "web_steps") [(Str.ofString "web_marks", a), (Str.ofString "web_ties", b), (Str.ofString "web_steps", c)] = some c := by
  have e : (Str.ofString "web_steps" == Str.ofString "web_marks") = false := by decide +kernel
  have e2 : (Str.ofString "web_steps" == Str.ofString "web_ties") = false := by decide +kernel
  simp [List.lookup, e, e2]
theorem fwn {m : Str} (a b c : D) (h1 : (m == Str.ofString "web_marks") = false) (h2 : (m == Str.ofString "web_ties") = false) (h3 : (m == Str.ofString "web_steps") = false) : List.lookup m [(Str.ofString "web_marks", a), (Str.ofString "web_ties", b), (Str.ofString "web_steps", c)] = none := by simp [List.lookup, h1, h2, h3]
@[simp] theorem fwn_ask_knot (a b c : D) : List.lookup (Str.ofString "ask_knot") [(Str.ofString "web_marks", a), (Str.ofString "web_ties", b), (Str.ofString "web_steps", c)] = none := fwn a b c (by decide +kernel) (by decide +kernel) (by decide +kernel)
@[simp] theorem fwn_lay_knot (a b c : D) : List.lookup (Str.ofString "lay_knot") [(Str.ofString "web_marks", a), (Str.ofString "web_ties", b), (Str.ofString "web_steps", c)] = none := fwn a b c (by decide +kernel) (by decide +kernel) (by decide +kernel)
@[simp] theorem fwn_lay_tie (a b c : D) : List.lookup (Str.ofString "lay_tie") [(Str.ofString "web_marks", a), (Str.ofString "web_ties", b), (Str.ofString "web_steps", c)] = none := fwn a b c (by decide +kernel) (by decide +kernel) (by decide +kernel)
@[simp] theorem fwn_cut_tie (a b c : D) : List.lookup (Str.ofString "cut_tie") [(Str.ofString "web_marks", a), (Str.ofString "web_ties", b), (Str.ofString "web_steps", c)] = none := fwn a b c (by decide +kernel) (by decide +kernel) (by decide +kernel)
@[simp] theorem fwn_put_knot (a b c : D) : List.lookup (Str.ofString "put_knot") [(Str.ofString "web_marks", a), (Str.ofString "web_ties", b), (Str.ofString "web_steps", c)] = none := fwn a b c (by decide +kernel) (by decide +kernel) (by decide +kernel)
@[simp] theorem fwn_take_knot (a b c : D) : List.lookup (Str.ofString "take_knot") [(Str.ofString "web_marks", a), (Str.ofString "web_ties", b), (Str.ofString "web_steps", c)] = none := fwn a b c (by decide +kernel) (by decide +kernel) (by decide +kernel)
@[simp] theorem fwn_ties_at (a b c : D) : List.lookup (Str.ofString "ties_at") [(Str.ofString "web_marks", a), (Str.ofString "web_ties", b), (Str.ofString "web_steps", c)] = none := fwn a b c (by decide +kernel) (by decide +kernel) (by decide +kernel)
@[simp] theorem fwn_put_tie (a b c : D) : List.lookup (Str.ofString "put_tie") [(Str.ofString "web_marks", a), (Str.ofString "web_ties", b), (Str.ofString "web_steps", c)] = none := fwn a b c (by decide +kernel) (by decide +kernel) (by decide +kernel)
@[simp] theorem fwn_take_tie (a b c : D) : List.lookup (Str.ofString "take_tie") [(Str.ofString "web_marks", a), (Str.ofString "web_ties", b), (Str.ofString "web_steps", c)] = none := fwn a b c (by decide +kernel) (by decide +kernel) (by decide +kernel)
@[simp] theorem fwn_put_mark (a b c : D) : List.lookup (Str.ofString "put_mark") [(Str.ofString "web_marks", a), (Str.ofString "web_ties", b), (Str.ofString "web_steps", c)] = none := fwn a b c (by decide +kernel) (by decide +kernel) (by decide +kernel)
@[simp] theorem fwn_take_mark (a b c : D) : List.lookup (Str.ofString "take_mark") [(Str.ofString "web_marks", a), (Str.ofString "web_ties", b), (Str.ofString "web_steps", c)] = none := fwn a b c (by decide +kernel) (by decide +kernel) (by decide +kernel)
@[simp] theorem fwn_knots (a b c : D) : List.lookup (Str.ofString "knots") [(Str.ofString "web_marks", a), (Str.ofString "web_ties", b), (Str.ofString "web_steps", c)] = none := fwn a b c (by decide +kernel) (by decide +kernel) (by decide +kernel)
@[simp] theorem fwn_marks (a b c : D) : List.lookup (Str.ofString "marks") [(Str.ofString "web_marks", a), (Str.ofString "web_ties", b), (Str.ofString "web_steps", c)] = none := fwn a b c (by decide +kernel) (by decide +kernel) (by decide +kernel)
@[simp] theorem fwn_has_tie (a b c : D) : List.lookup (Str.ofString "has_tie") [(Str.ofString "web_marks", a), (Str.ofString "web_ties", b), (Str.ofString "web_steps", c)] = none := fwn a b c (by decide +kernel) (by decide +kernel) (by decide +kernel)
@[simp] theorem fwn_steps (a b c : D) : List.lookup (Str.ofString "steps") [(Str.ofString "web_marks", a), (Str.ofString "web_ties", b), (Str.ofString "web_steps", c)] = none := fwn a b c (by decide +kernel) (by decide +kernel) (by decide +kernel)
@[simp] theorem fwn_rows (a b c : D) : List.lookup (Str.ofString "rows") [(Str.ofString "web_marks", a), (Str.ofString "web_ties", b), (Str.ofString "web_steps", c)] = none := fwn a b c (by decide +kernel) (by decide +kernel) (by decide +kernel)
@[simp] theorem fwn_like (a b c : D) : List.lookup (Str.ofString "like") [(Str.ofString "web_marks", a), (Str.ofString "web_ties", b), (Str.ofString "web_steps", c)] = none := fwn a b c (by decide +kernel) (by decide +kernel) (by decide +kernel)
section
variable {C : Addr}
theorem IsSt.ok {W : Wb} (ok : OkWb W) {x : Str} {t : T3} (hx : okS x) (h : IsSt W x t) : okT3 t := by
  obtain ⟨t1, t2, t3⟩ := t
  rcases h with ⟨h1, h2⟩ | ⟨h1, h2⟩
  · simp at h1 h2; subst h1
    have a1 := ok.ot _ h2
    exact ⟨ok_lit _, a1, ok.on _ (ok.tn _ h2).2⟩
  · simp at h1 h2; subst h1
    have a1 := ok.ot _ h2
    exact ⟨ok_lit _, a1, ok.on _ (ok.tn _ h2).1⟩
theorem rAdr_cons (r : WRow) (rs : List WRow) : rAdr (r :: rs) = r.ma :: r.sa :: rAdr rs := rfl
theorem WebR.ms {S : DH} {w a b c : Addr} {W : Wb} {rs : List WRow} (h : WebR C S w a b c W rs) (x : Str) : (lk (rMarks rs) (.inr x)).isSome = decide (x ∈ W.names) := by
  have nd : (rs.map (·.name)).Nodup := h.names ▸ h.ok.nd
  by_cases hx : x ∈ W.names
  · obtain ⟨r, hr, rfl⟩ := (row_at h.ks).mp hx
    rw [lk_rows nd r hr]; simp [hx]
  · rw [lk_rows_none fun r hr e => hx ((row_at h.ks).mpr ⟨r, hr, e⟩)]; simp [hx]
end
section
variable {C : Addr}
end
end Sh
set_option maxRecDepth 100000
set_option maxHeartbeats 4000000
namespace Rb
open PySem PySem.Spec L2
open Rm
open Rc
open ShB hiding N_l_leaf dSeqWhile_gen r_l_leaf sp_l_leaf sp_l_leaf_mono t_l_leaf
open Sh hiding N_l_cell_at N_l_feed N_l_leaf N_l_names N_l_pattern deeps_le deeps_mem perm_map_ex r_l_cell_at r_l_leaf r_l_pattern sp_l_leaf sp_l_leaf_mono sp_l_names sp_l_pattern sp_l_pattern_mono srt_strict t_l_cell_at t_l_feed t_l_leaf t_l_names t_l_pattern
open Dt hiding nkeys sp_l_cell_at sp_l_cell_at_mono sp_l_feed
/-! ShL: the law's own rows of a web, its steps, patterns and stands (laws k32 to k43). -/
theorem seqD_ext {S S' : DH} (h : Ext S S') {d : D} {xs : List D} (e : seqD S d = some xs) : seqD S' d = some xs := by
  cases d <;> try (first | exact e | (simp at e; done))
  rename_i a
  simp at e ⊢
  cases c : S a with
  | none => rw [c] at e; cases e
  | some o => rw [h a o c]; rw [c] at e; exact e
theorem seqD_or {S : DH} {d : D} {xs : List D} (e : seqD S d = some xs) : d = .rol xs ∨ ∃ a, d = .ref a ∧ S a = some (.lst xs) := by
  cases d <;> try (simp at e; done)
  · simp at e; exact .inl (by rw [e])
  · rename_i a
    simp at e
    refine .inr ⟨a, rfl, ?_⟩
    split at e
    · rename_i c; rw [c]; cases e; rfl
    · cases e
/-- rows: a dict from knots to their marks and a list of ties; lists written or frozen -/
structure RwR (S : DH) (a : Addr) (dt : D) (rs : List (Str × List Str × D)) (R : Wb) : Prop where
  ks : rs.map (fun r => (r.1, r.2.1)) = R.ks
  sa : S a = some (.dK (rs.map fun r => (.inr r.1, r.2.2)))
  sm : ∀ r ∈ rs, seqD S r.2.2 = some (strsD r.2.1)
  st : seqD S dt = some (R.ts.map triD)
def RwAt (S : DH) (d : D) (R : Wb) : Prop := ∃ a dt rs, d = .tup [.ref a, dt] ∧ RwR S a dt rs R
theorem RwR.ext {S S' : DH} {a dt rs R} (h : RwR S a dt rs R) (x : Ext S S') : RwR S' a dt rs R :=
  ⟨h.ks, x _ _ h.sa, fun r hr => seqD_ext x (h.sm r hr), seqD_ext x h.st⟩
theorem RwAt.ext {S S' : DH} {d : D} {R : Wb} (h : RwAt S d R) (x : Ext S S') : RwAt S' d R := by
  obtain ⟨a, dt, rs, e, r⟩ := h
  exact ⟨a, dt, rs, e, r.ext x⟩
theorem RwR.names {S a dt rs R} (h : RwR S a dt rs R) : rs.map (·.1) = R.names := by
  unfold Wb.names
  rw [← h.ks, List.map_map]
  rfl
theorem lk_rw {f : Str × List Str × D → D} : ∀ {rs : List (Str × List Str × D)}, (rs.map (·.1)).Nodup → ∀ r ∈ rs, lk (rs.map fun r => ((.inr r.1 : Key), f r)) (.inr r.1) = some (f r)
  | q :: rs, nd, r, hr => by
    obtain ⟨n1, n2⟩ := List.nodup_cons.mp nd
    show (if (.inr q.1 : Key) = .inr r.1 then some (f q) else lk (rs.map fun r => ((.inr r.1 : Key), f r)) (.inr r.1)) = _
    rcases List.mem_cons.mp hr with rfl | hr
    · rw [if_pos rfl]
    · rw [if_neg (fun e => n1 (by
      injection e with e
      exact List.mem_map.mpr ⟨r, hr, e.symm⟩)), lk_rw n2 r hr]
theorem wMarks_mem {R : Wb} (nd : R.names.Nodup) {k : Str × List Str} (hk : k ∈ R.ks) : wMarks R k.1 = k.2 := by
  unfold wMarks
  have : R.ks.find? (fun j => decide (j.1 = k.1)) = some k := by
    obtain ⟨ks, ts⟩ := R
    simp only [Wb.names] at nd
    simp only at hk ⊢
    clear ts
    induction ks with
    | nil => cases hk
    | cons j ks ih =>
      obtain ⟨n1, n2⟩ := List.nodup_cons.mp nd
      rw [List.find?_cons]
      rcases List.mem_cons.mp hk with rfl | hk
      · simp
      · have : ¬ j.1 = k.1 := fun e => n1 (by show j.1 ∈ _; rw [e]; exact List.mem_map.mpr ⟨k, hk, rfl⟩)
        simp [this]
        exact ih n2 hk
  rw [this]
  rfl
/-- the row of a knot -/
theorem RwR.row {S a dt rs R} (h : RwR S a dt rs R) (nd : R.names.Nodup) {x : Str} (hx : x ∈ R.names) : ∃ v, lk (rs.map fun r => ((.inr r.1 : Key), r.2.2)) (.inr x) = some v ∧ seqD S v = some (strsD (wMarks R x)) := by
  rw [← h.names] at hx
  obtain ⟨r, hr, rfl⟩ := List.mem_map.mp hx
  refine ⟨r.2.2, lk_rw (f := fun r => r.2.2) (by rw [h.names]; exact nd) r hr, ?_⟩
  rw [h.sm r hr]
  have := wMarks_mem nd (k := (r.1, r.2.1)) (by rw [← h.ks]; exact List.mem_map.mpr ⟨r, hr, rfl⟩)
  rw [this]
def bKnots : List Str := ["a", "ab", "on", "back", "m", "knot"]
def sp_l_knots : DSp := fun ds S Q _ => ds = [] ∧ Q (.rol (strsD bKnots)) S
def sp_l_laid (C : Addr) : DSp := fun ds S Q _ => ∃ (d : D) (R : Wb), ds = [d] ∧ RwAt S d R ∧ OkWb R ∧ R.ks.length ≤ 40 ∧ R.ts.length ≤ 300 ∧ ∀ w S' F, WebAt C S' w ⟨R.ks.reverse, R.ts⟩ F → Fr S [] S' F → Q (.ref w) S'
def sp_l_steps : DSp := fun ds S Q _ => ∃ (d : D) (R : Wb) (x : Str), ds = [d, .str x] ∧ RwAt S d R ∧ OkWb R ∧ okS x ∧ ∀ st, StepsOf R x st → Q (.rol (st.map triD)) S
def sp_l_still : DSp := fun ds S Q _ => ∃ (x y z : D) (mv : List Mv) (st : List Nat) (ms : List Str) (dm : D), ds = [mcD x y z mv, .rol (natsD st), dm] ∧ seqD S dm = some (strsD ms) ∧ (∀ m ∈ mv, OkMv m) ∧ (∀ m ∈ ms, okS m) ∧ st.length + mv.length ≤ 100000 ∧ st.Nodup ∧
  ∀ L : List Nat, L.Nodup → (∀ n, n ∈ L ↔ Come mv ms st n) → Q (.rol (natsD L)) S
theorem sp_l_still_mono : SpMono sp_l_still := fun ds S Q Q' E E' k _ ⟨x, y, z, mv, st, ms, dm, h1, h2, h3, h4, h5, h6, h⟩ => ⟨x, y, z, mv, st, ms, dm, h1, h2, h3, h4, h5, h6, fun L a b => k _ _ (h L a b)⟩
/-- a pattern by these laws' draws -/
structure OkB (k : Nat) (p : Pt) : Prop where
  deep : p.deep ≤ k + 1
  len : p.all.length ≤ 4 ^ k
  ok : p.okP Nm
  few : ∀ q ∈ p.all, q.kids.length ≤ 3
  lf : ∀ q ∈ p.all, q.isLeaf = true → LfB q
def sp_l_part (k : Nat) : DSp := fun ds S Q _ => ∃ (zs : List Nat) (at' : Nat), ds = [.rol (natsD zs), .int (at' : Nat), .int (k : Nat)] ∧ 1 ≤ zs.length ∧ ∀ (p : Pt) (j : Nat), OkB k p → Q (.tup [ptD p, .int (j : Nat)]) S
theorem sp_l_part_mono (k : Nat) : SpMono (sp_l_part k) := fun ds S Q Q' E E' kk _ ⟨zs, a, h1, h2, h⟩ => ⟨zs, a, h1, h2, fun p j o => kk _ _ (h p j o)⟩
def sp_l_pattern : DSp := fun ds S Q _ => ∃ (c : Int), ds = [.int c, .int 2] ∧ ∀ p, OkB 2 p → Q (ptD p) S
theorem sp_l_pattern_mono : SpMono sp_l_pattern := fun ds S Q Q' E E' kk _ ⟨c, h1, h⟩ => ⟨c, h1, fun p o => kk _ _ (h p o)⟩
def t_l_knots : DTS := (dRet (dLstF (dCons (dC (.str "a")) (dCons (dC (.str "ab")) (dCons (dC (.str "on")) (dCons (dC (.str "back")) (dCons (dC (.str "m")) (dCons (dC (.str "knot")) dNil))))))))
abbrev N_l_knots : List Str := []
def t_l_steps : DTS := (dSeq (dAsg (dFz (dLc (dSeqI (dOp dIxS (dVar 0) (dC (.int 1)))) (dGTup 3 (dGCons (dGN 3) (dGCons (dGN 4) (dGCons (dGN 5) dGNil)))) (dTest (dOp (dEq false) (dVar 3) (dVar 1))) (dTup (dCons (dC (.str "on")) (dCons (dVar 4) (dCons (dVar 5) dNil)))) [3, 4, 5])) (dGN 2))
    (dRet (dCB cSortAF (dCons (dOp dAddF (dVar 2) (dFz (dLc (dSeqI (dOp dIxS (dVar 0) (dC (.int 1)))) (dGTup 3 (dGCons (dGN 3) (dGCons (dGN 4) (dGCons (dGN 5) dGNil)))) (dTest (dOp (dEq false) (dVar 5) (dVar 1))) (dTup (dCons (dC (.str "back")) (dCons (dVar 4) (dCons (dVar 3) dNil)))) [3, 4, 5]))) dNil))))
abbrev N_l_steps : List Str := ["_law_rows_here", "_law_knot", "_law_found", "_law_one", "_law_word", "_law_other"]
def t_l_still : DTS := (dSeq (dAsg (dCB cListA (dCons (dVar 1) dNil)) (dGN 3))
    (dSeq (dAsg (dC (.int 0)) (dGN 4))
    (dSeq (dWhile (dTest (dOp rLt (dVar 4) (dCB cLen (dCons (dVar 3) dNil))))
      (dSeq (dFor (dSeqI (dOp dIxS (dVar 0) (dC (.int 3)))) (dGTup 3 (dGCons (dGN 5) (dGCons (dGN 6) (dGCons (dGN 7) dGNil))))
      (dIf (dAnd (dTest (dOp (dEq false) (dVar 5) (dOp dIxS (dVar 3) (dVar 4)))) (dAnd (dTest (dOp (dIn true) (dVar 7) (dVar 3))) (dTest (dOp (dEq true) (dOp dIxS (dVar 6) (dC (.int 0))) (dC (.str "step"))))))
      (dIf (dOr (dTest (dOp (dEq false) (dOp dIxS (dVar 6) (dC (.int 0))) (dC (.str "stay")))) (dTest (dOp (dEq false) (dOp (dIn false) (dOp dIxS (dVar 6) (dC (.int 1))) (dVar 2)) (dOp (dEq false) (dOp dIxS (dVar 6) (dC (.int 0))) (dC (.str "at"))))))
      (dDrop (dBM "list" mAppend (dVar 3) (dCons (dVar 7) dNil)))
      dNx)
      dNx))
    (dAsg (dOp dAddF (dVar 4) (dC (.int 1))) (dGN 4))))
    (dRet (dVar 3)))))
abbrev N_l_still : List Str := ["_law_machine_here", "_law_stands", "_law_marks_here", "_law_found", "_law_at", "_law_one", "_law_leaf_here", "_law_other"]
def t_l_laid (C_Web : Addr) : DTS := (dSeq (dAsg (dMake C_Web (sp_Web_init C_Web) dNil) (dGN 1))
    (dSeq (dFor (dRev (dCB cListAF (dCons (dOp dIxS (dVar 0) (dC (.int 0))) dNil))) (dGN 2)
      (dDrop (dMeth C_Web "put_knot" (sp_Web_put_knot C_Web) (dVar 1) (dCons (dVar 2) (dCons (dCB cListAF (dCons (dOp dIxS (dOp dIxS (dVar 0) (dC (.int 0))) (dVar 2)) dNil)) dNil)))))
    (dSeq (dFor (dSeqI (dOp dIxS (dVar 0) (dC (.int 1)))) (dGTup 3 (dGCons (dGN 3) (dGCons (dGN 4) (dGCons (dGN 5) dGNil))))
      (dDrop (dMeth C_Web "put_tie" (sp_Web_put_tie C_Web) (dVar 1) (dCons (dVar 3) (dCons (dVar 4) (dCons (dVar 5) dNil))))))
    (dRet (dVar 1)))))
abbrev N_l_laid : List Str := ["_law_rows_here", "_law_web", "_law_knot", "_law_one", "_law_word", "_law_other"]
theorem pre_ok {R : Wb} (ok : OkWb R) (ks : List (Str × List Str)) (i j : Nat) (hk : ks.Perm R.ks) (h : ∀ t ∈ R.ts.take j, t.1 ∈ (ks.take i).map (·.1) ∧ t.2.2 ∈ (ks.take i).map (·.1)) : OkWb ⟨ks.take i, R.ts.take j⟩ where
  nd := by
    have := (hk.map (Prod.fst)).nodup_iff.mpr (show (R.ks.map Prod.fst).Nodup from ok.nd)
    exact this.sublist ((List.take_sublist i ks).map _)
  nt := ok.nt.sublist (List.take_sublist _ _)
  tn := h
  on := fun x hx => ok.on x (by
    obtain ⟨k, hk', rfl⟩ := List.mem_map.mp hx
    exact List.mem_map.mpr ⟨k, hk.mem_iff.mp (List.mem_of_mem_take hk'), rfl⟩)
  om := fun k hk' => ok.om k (hk.mem_iff.mp (List.mem_of_mem_take hk'))
  ot := fun t ht => ok.ot t (List.mem_of_mem_take ht)
  lk := by
    have := ok.lk
    have e := hk.length_eq
    simp only [List.length_take]
    omega
  lt := by
    have := ok.lt
    simp only [List.length_take]
    omega
theorem r_l_still (ds S Q E) (h : sp_l_still ds S Q E) : t_l_still (dEnd Q E) (dstart N_l_still ds) S := by
  obtain ⟨x, y, z, mv, st, ms, dm, rfl, hdm, h1, h2, hl, hnd, h⟩ := h
  unfold t_l_still
  refine dSeq_gen fun R hR => ?_
  simp [dstart]
  intro p hp
  subst hR
  refine dSeq_gen fun R hR => ?_
  simp
  subst hR
  refine dSeqWhile_gen fun B R hB hR => ?_
  simp
  let I : DSt → DH → Prop := fun τ S' => ∃ (L : List Nat) (k : Nat) (x5 x6 x7 : Option D), τ = [some (mcD x y z mv), some (.rol (natsD st)), some dm, some (.ref p), some (.int k), x5, x6, x7] ∧ S' = upo S p (.lst (natsD L)) ∧ k ≤ L.length ∧ L.Nodup ∧ (∀ n ∈ L, Come mv ms st n) ∧ (∀ n ∈ st, n ∈ L) ∧ ∀ m ∈ mv, m.a ∈ L.take k → holdsP ms m.p = true → m.b ∈ L
  refine while_inv I (fun τ S' => match (τ[4]? : Option (Option D)) with | some (some (.int k)) => st.length + mv.length - k.toNat | _ => 0) ⟨st, 0, none, none, none, rfl, rfl, Nat.zero_le _, hnd, fun n hn => .start hn, fun n hn => hn, by simp⟩ ?_
  rintro τ S1 N ⟨L, k, x5, x6, x7, rfl, rfl, hk, nd, hc, hst, hcl⟩ hN
  have hml := come_len nd hc
  simp
  split
  · rename_i hk2
    subst hB
    refine dSeqFor_gen fun B R2 hB hR2 => ?_
    simp [mcD, atI_mc]
    have hN2 : ∀ τ' S', I τ' S' → (match (τ'[4]? : Option (Option D)) with | some (some (.int k)) => st.length + mv.length - k.toNat | _ => 0) < st.length + mv.length - k → N τ' S' := fun τ' S' a b => hN τ' S' a (by simpa using b)
    clear hN
    obtain ⟨v, hv⟩ : ∃ v, L[k]? = some v := ⟨_, List.getElem?_eq_getElem hk2⟩
    have hvL : v ∈ L := List.mem_of_getElem? hv
    refine loop_inv (fun i τ S' => ∃ (L2 : List Nat) (x5 x6 x7 : Option D), τ = [some (mcD x y z mv), some (.rol (natsD st)), some dm, some (.ref p), some (.int k), x5, x6, x7] ∧ S' = upo S p (.lst (natsD L2)) ∧ (∃ add, L2 = L ++ add) ∧ L2.Nodup ∧ (∀ n ∈ L2, Come mv ms st n) ∧ ∀ m ∈ mv.take i, m.a = v → holdsP ms m.p = true → m.b ∈ L2) ⟨L, x5, x6, x7, rfl, rfl, ⟨[], by simp⟩, nd, hc, by simp⟩ (fun _ _ _ _ _ => trivial) ?_ ?_
    · rintro i d τ S1 N hd ⟨L2, x5, x6, x7, rfl, rfl, ⟨add, e2⟩, nd2, hc2, hm2⟩ hN
      obtain ⟨hi, rfl⟩ := mv_at hd
      clear hd
      have hmem := List.getElem_mem hi
      have ok := h1 _ hmem
      have hml2 := come_len nd2 hc2
      have tk := fun m' => take_mem hi (x := m')
      have hix : atI (natsD L2) (k : Int) = some (.int v) := atI_nat (by rw [List.getElem?_map, e2, List.getElem?_append_left hk2, hv]; rfl)
      generalize em : mv[i] = m at ok hmem tk
      have stay : ¬ (m.a = v ∧ m.b ∉ L2 ∧ holdsP ms m.p = true) → N [some (mcD x y z mv), some (.rol (natsD st)), some dm, some (.ref p), some (.int k), some (.int m.a), some (ptD m.p), some (.int m.b)] (upo S p (.lst (natsD L2))) := fun no =>
        hN _ _ ⟨L2, _, _, _, rfl, rfl, ⟨add, e2⟩, nd2, hc2, fun m' hm' ha hh => ((tk m').mp hm').elim (fun z => hm2 m' z ha hh) fun e => by
          subst e
          exact Classical.byContradiction fun nb => no ⟨ha, nb, hh⟩⟩
      have yes : m.a = v → m.b ∉ L2 → holdsP ms m.p = true → L2.length < 16777216 ∧ N [some (mcD x y z mv), some (.rol (natsD st)), some dm, some (.ref p), some (.int k), some (.int m.a), some (ptD m.p), some (.int m.b)] (upo S p (.lst (natsD L2 ++ [.int m.b]))) := fun ha hb hh =>
        ⟨by omega, hN _ _ ⟨L2 ++ [m.b], _, _, _, rfl, by simp, ⟨add ++ [m.b], by simp [e2]⟩, by have := add_nodup (b := m.b) nd2; rwa [if_neg hb] at this, fun n hn => by
          simp at hn
          exact hn.elim (hc2 n) fun e => e ▸ .move hmem (ha ▸ hc v hvL) hh, fun m' hm' ha' hh' => by
          rcases (tk m').mp hm' with z | z
          · simp [hm2 m' z ha' hh']
          · simp [z]⟩⟩
      have lf := ok.leaf
      clear ok tk em hmem
      obtain ⟨ma, q, mb⟩ := m
      simp only at stay yes lf
      simp [mvD]
      subst hB
      simp only [natsD] at hix
      cases q with
      | stay =>
        simp [ptD, holdsP, hix] at stay yes ⊢
        by_cases ha : ma = v
        · by_cases hb : mb ∈ L2
          · simp [ha, hb] at stay ⊢; exact stay
          · simp [ha, hb] at yes ⊢; exact yes
        · have : ¬ (ma : Int) = v := by omega
          simp [this, ha] at stay ⊢; exact stay
      | mark b w =>
        have hold : holdsP ms (.mark b w) = (decide (w ∈ ms) == b) := rfl
        simp only [hold] at stay yes
        by_cases ha : ma = v
        · subst ha
          by_cases hb : mb ∈ L2
          · have := stay fun z => z.2.1 hb
            cases b <;> simp [ptD, hix, hb] at this ⊢ <;> exact this
          · have hD := seqD_or (seqD_ext (Ext.new hp) hdm : seqD (upo S p (.lst (natsD L2))) dm = _)
            rcases hD with rfl | ⟨a, rfl, ea⟩
            · cases b <;> by_cases hw : w ∈ ms <;> simp [ptD, hix, hb, hw] at stay yes ⊢ <;> first | exact stay | exact yes
            · cases b <;> by_cases hw : w ∈ ms <;> simp [ptD, hix, hb, hw, ea] at stay yes ⊢ <;> first | exact stay | exact yes
        · have := stay fun z => ha z.1
          have hz : ¬ (ma : Int) = v := by omega
          cases b <;> simp [ptD, hix, hz] at this ⊢ <;> exact this
      | step b w =>
        simp [ptD, holdsP, hix] at stay ⊢
        by_cases ha : ma = v
        · by_cases hb : mb ∈ L2
          · simp [ha, hb]; subst ha; exact stay
          · simp [ha, hb]; subst ha; exact stay
        · have : ¬ (ma : Int) = v := by omega
          first | exact stay | (simp [ha]; exact stay) | (simp [this]; exact stay)
      | many q => cases lf
      | seq b q => cases lf
    · rintro τ S1 ⟨L2, x5, x6, x7, rfl, rfl, ⟨add, e2⟩, nd2, hc2, hm2⟩
      simp only [List.length_map, List.take_length] at hm2
      subst hR2
      have : k < st.length + mv.length := by omega
      simp
      refine hN2 _ _ ⟨L2, k + 1, _, _, _, rfl, rfl, by rw [e2]; simp; omega, nd2, hc2, fun n hn => by rw [e2]; exact List.mem_append_left _ (hst n hn), ?_⟩ (by simp; exact Nat.sub_lt_sub_left this (Nat.lt_succ_self k))
      intro m hm ha hh
      rw [take_succ_mem (by rw [e2]; simp; omega)] at ha
      rw [e2, List.take_append_of_le_length (by omega)] at ha
      rcases ha with ha | ha
      · rw [e2]; exact List.mem_append_left _ (hcl m hm ha hh)
      · refine hm2 m hm ?_ hh
        rw [ha]
        simp [List.getElem?_append_left hk2, hv]
  · rename_i hk2
    subst hR
    simp
    refine .rol (by simp) hp (Sub.new hp) (h L nd fun n => ?_)
    refine come_iff hc hst (fun m hm ha => hcl m hm ?_) n
    rwa [List.take_of_length_le (by omega)]
end Rb
set_option maxRecDepth 100000
set_option maxHeartbeats 4000000
namespace Rs
open PySem PySem.Spec L2
open Rm
open Rc
open ShB hiding N_l_leaf dSeqWhile_gen r_l_leaf sp_l_leaf sp_l_leaf_mono t_l_leaf
open Sh hiding N_l_cell_at N_l_feed N_l_leaf N_l_names N_l_pattern deeps_le deeps_mem perm_map_ex r_l_cell_at r_l_leaf r_l_pattern sp_l_leaf sp_l_leaf_mono sp_l_names sp_l_pattern sp_l_pattern_mono srt_strict t_l_cell_at t_l_feed t_l_leaf t_l_names t_l_pattern
open Dt hiding nkeys sp_l_cell_at sp_l_cell_at_mono sp_l_feed
/-! ShSr: the search from a knot. -/
abbrev Pr := Str × Nat
/-- what is met, and from where -/
abbrev En := Pr × Option (Pr × T3)
def prD (p : Pr) : D := .tup [.str p.1, .int (p.2 : Nat)]
def ahD : Option (Pr × T3) → D
  | none => .non
  | some (p, t) => .tup [prD p, triD t]
def cameD (E : List En) : List (D × D) := E.map fun e => (prD e.1, ahD e.2)
def lineD (E : List En) : List D := E.map fun e => prD e.1
theorem prD_inj {p q : Pr} (h : prD p = prD q) : p = q := by
  obtain ⟨a, b⟩ := p
  obtain ⟨c, d⟩ := q
  simp [prD] at h
  exact Prod.ext h.1 (by have := h.2; show b = d; omega)
theorem okT_pr (p : Pr) : okT (prD p) = true := rfl
open Classical in
noncomputable def addE (x : Str) (ah : Option (Pr × T3)) (E : List En) : List Nat → List En
  | [] => E
  | n :: ns => addE x ah (if (x, n) ∈ E.map (·.1) then E else E ++ [((x, n), ah)]) ns
@[simp] theorem fs_came (a b c d : D) : List.lookup (Str.ofString "came") [(Str.ofString "web", a), (Str.ofString "machine", b), (Str.ofString "came", c), (Str.ofString "line", d)] = some c := by
  have e1 : (Str.ofString "came" == Str.ofString "web") = false := by decide +kernel
  have e2 : (Str.ofString "came" == Str.ofString "machine") = false := by decide +kernel
  simp [List.lookup, e1, e2]
@[simp] theorem fs_line (a b c d : D) : List.lookup (Str.ofString "line") [(Str.ofString "web", a), (Str.ofString "machine", b), (Str.ofString "came", c), (Str.ofString "line", d)] = some d := by
  have e1 : (Str.ofString "line" == Str.ofString "web") = false := by decide +kernel
  have e2 : (Str.ofString "line" == Str.ofString "machine") = false := by decide +kernel
  have e3 : (Str.ofString "line" == Str.ofString "came") = false := by decide +kernel
  simp [List.lookup, e1, e2, e3]
@[simp] theorem fs_web (a b c d : D) : List.lookup (Str.ofString "web") [(Str.ofString "web", a), (Str.ofString "machine", b), (Str.ofString "came", c), (Str.ofString "line", d)] = some a := by
  simp [List.lookup]
@[simp] theorem fs_machine (a b c d : D) : List.lookup (Str.ofString "machine") [(Str.ofString "web", a), (Str.ofString "machine", b), (Str.ofString "came", c), (Str.ofString "line", d)] = some b := by
  have e1 : (Str.ofString "machine" == Str.ofString "web") = false := by decide +kernel
  simp [List.lookup, e1]
section
variable (C : Addr)
structure SrAt (S : DH) (s c l w : Addr) (m : D) (E : List En) : Prop where
  o : S s = some (.ins C [("web", .ref w), ("machine", m), ("came", .ref c), ("line", .ref l)])
  hc : S c = some (.dN (cameD E))
  hl : S l = some (.lst (lineD E))
  sc : s ≠ c
  sl : s ≠ l
  cl : c ≠ l
def srS (S : DH) (c l : Addr) (E : List En) : DH := upo (upo S c (.dN (cameD E))) l (.lst (lineD E))
theorem SrAt.put {C S s c l w m E} (h : SrAt C S s c l w m E) (E' : List En) : SrAt C (srS S c l E') s c l w m E' :=
  ⟨by unfold srS; rw [upo_ne h.sl, upo_ne h.sc]; exact h.o, by unfold srS; rw [upo_ne h.cl]; simp, by unfold srS; simp, h.sc, h.sl, h.cl⟩
def sp_Search_add : DSp := fun ds S Q _ => ∃ (s c l w : Addr) (m : D) (E : List En) (x : Str) (ns : List Nat) (ah : Option (Pr × T3)), ds = [.ref s, .str x, .tup (natsD ns), ahD ah] ∧ SrAt C S s c l w m E ∧ E.length + ns.length ≤ 100000 ∧ Q .non (srS S c l (addE x ah E ns))
end
def t_Search_add (C_Search : Addr) : DTS := (dFor (dSeqI (dVar 2)) (dGN 4)
      (dIf (dTest (dOp (dIn true) (dTup (dCons (dVar 1) (dCons (dVar 4) dNil))) (dFld C_Search "came" (dVar 0))))
      (dSeq (dPut (dFld C_Search "came" (dVar 0)) (dTup (dCons (dVar 1) (dCons (dVar 4) dNil))) (dVar 3))
    (dDrop (dBM "list" mAppend (dFld C_Search "line" (dVar 0)) (dCons (dTup (dCons (dVar 1) (dCons (dVar 4) dNil))) dNil))))
      dNx))
abbrev N_Search_add : List Str := ["self", "knot", "stands", "ahead", "stand"]
end Rs
set_option maxRecDepth 100000
set_option maxHeartbeats 4000000
namespace Rs
open PySem PySem.Spec L2
open Rm
open Rc
open ShB hiding N_l_leaf dSeqWhile_gen r_l_leaf sp_l_leaf sp_l_leaf_mono t_l_leaf
open Sh hiding N_l_cell_at N_l_feed N_l_leaf N_l_names N_l_pattern deeps_le deeps_mem perm_map_ex r_l_cell_at r_l_leaf r_l_pattern sp_l_leaf sp_l_leaf_mono sp_l_names sp_l_pattern sp_l_pattern_mono srt_strict t_l_cell_at t_l_feed t_l_leaf t_l_names t_l_pattern
open Dt hiding nkeys sp_l_cell_at sp_l_cell_at_mono sp_l_feed
/-! ShSr2: what a search reaches, in plain words. -/
/-- what one step of the web adds -/
def ProcStep (W : Wb) (mv : List Mv) (p : Pr) (E : List En) (st : T3) (E' : List En) : Prop :=
  ∃ B : List Nat, B.Pairwise (· < ·) ∧ (∀ x, x ∈ B ↔ ByStep mv [p.2] st.1 st.2.1 x) ∧ ((B = [] ∧ E' = E) ∨ (B ≠ [] ∧ ∃ (ms : List Str) (L : List Nat), (∀ m, m ∈ ms ↔ m ∈ wMarks W st.2.2) ∧ L.Pairwise (· < ·) ∧ (∀ x, x ∈ L ↔ Come mv ms B x) ∧ E' = addE st.2.2 (some (p, st)) E L))
inductive ProcSteps (W : Wb) (mv : List Mv) (p : Pr) : List T3 → List En → List En → Prop
  | nil (E : List En) : ProcSteps W mv p [] E E
  | cons {t : T3} {ts : List T3} {E E1 E2 : List En} : ProcStep W mv p E t E1 → ProcSteps W mv p ts E1 E2 → ProcSteps W mv p (t :: ts) E E2
inductive Run (W : Wb) (mv : List Mv) : Nat → List En → List En → Prop
  | done (E : List En) : Run W mv E.length E E
  | next {i : Nat} {E E1 F : List En} {e : En} {st : List T3} : E[i]? = some e → StepsOf W e.1.1 st → ProcSteps W mv e.1 st E E1 → Run W mv (i + 1) E1 F → Run W mv i E F
/-- what is met by a step from a pair -/
def Nxt (W : Wb) (mv : List Mv) (p : Pr) (t : T3) (q : Pr) : Prop := ∃ y x, ByStep mv [p.2] t.1 t.2.1 y ∧ Come mv (wMarks W t.2.2) [y] x ∧ q = (t.2.2, x)
structure Grows (E E' : List En) (A : Pr → Prop) : Prop where
  pre : E <+: E'
  nd : (E.map (·.1)).Nodup → (E'.map (·.1)).Nodup
  mem : ∀ q, q ∈ E'.map (·.1) ↔ q ∈ E.map (·.1) ∨ A q
/-- what is reached from what is met first -/
inductive Rch (W : Wb) (mv : List Mv) (A : Pr → Prop) : Pr → Prop
  | start {p : Pr} : A p → Rch W mv A p
  | step {p q : Pr} {t : T3} : Rch W mv A p → IsSt W p.1 t → Nxt W mv p t q → Rch W mv A q
end Rs
set_option maxRecDepth 100000
set_option maxHeartbeats 4000000
namespace Rs
open PySem PySem.Spec L2
open Rm
open Rc
open ShB hiding N_l_leaf dSeqWhile_gen r_l_leaf sp_l_leaf sp_l_leaf_mono t_l_leaf
open Sh hiding N_l_cell_at N_l_feed N_l_leaf N_l_names N_l_pattern deeps_le deeps_mem perm_map_ex r_l_cell_at r_l_leaf r_l_pattern sp_l_leaf sp_l_leaf_mono sp_l_names sp_l_pattern sp_l_pattern_mono srt_strict t_l_cell_at t_l_feed t_l_leaf t_l_names t_l_pattern
open Dt hiding nkeys sp_l_cell_at sp_l_cell_at_mono sp_l_feed
/-! ShSr3: Search.go_all. -/
theorem nodup_sub_lenC {α : Type} : ∀ {xs ys : List α}, xs.Nodup → (∀ x ∈ xs, x ∈ ys) → xs.length ≤ ys.length := by
  classical
  intro xs
  induction xs with
  | nil => intro ys _ _; exact Nat.zero_le _
  | cons x xs ih =>
    intro ys nd h
    obtain ⟨n1, n2⟩ := List.nodup_cons.mp nd
    have hx := h x List.mem_cons_self
    have := ih (ys := ys.erase x) n2 fun z hz => (List.mem_erase_of_ne (fun e => n1 (by rw [← e]; exact hz))).mpr (h z (List.mem_cons_of_mem _ hz))
    have e := List.length_erase_of_mem hx
    have := List.length_pos_of_mem hx
    rw [List.length_cons]
    omega
/-- what a search may meet -/
structure OkEn (W : Wb) (n : Nat) (E : List En) : Prop where
  nd : (E.map (·.1)).Nodup
  ok : ∀ e ∈ E, e.1.1 ∈ W.names ∧ e.1.2 < n
theorem OkEn.len {W : Wb} {n : Nat} {E : List En} (h : OkEn W n E) : E.length ≤ W.names.length * n := by
  have h1 := nodup_sub_lenC (xs := E.map (·.1)) (ys := W.names.flatMap fun x => (List.range n).map fun k => (x, k)) h.nd fun p hp => by
    obtain ⟨e, he, rfl⟩ := List.mem_map.mp hp
    obtain ⟨a, b⟩ := h.ok e he
    exact List.mem_flatMap.mpr ⟨e.1.1, a, List.mem_map.mpr ⟨e.1.2, List.mem_range.mpr b, rfl⟩⟩
  have h2 : (W.names.flatMap fun x => (List.range n).map fun k => (x, k)).length = W.names.length * n := by
    generalize W.names = xs
    induction xs with
    | nil => simp
    | cons x xs ih => rw [List.flatMap_cons, List.length_append, ih]; simp; rw [Nat.succ_mul]; omega
  rw [h2, List.length_map] at h1
  exact h1
section
variable (C CW : Addr)
def sp_Search_go_all : DSp := fun ds S Q _ => ∃ (s c l w : Addr) (M : Mc) (W : Wb) (F : List Addr) (E : List En), ds = [.ref s] ∧ SrAt C S s c l w (machD M) E ∧ WebAt CW S w W F ∧ c ∉ F ∧ l ∉ F ∧ OkMc M ∧ W.names.length * M.n + M.mv.length ≤ 50000 ∧ OkEn W M.n E ∧
  ∀ E', Run W M.mv 0 E E' → OkEn W M.n E' → Q .non (srS S c l E')
end
def t_Search_go_all (C_Search : Addr) (C_Web : Addr) : DTS := (dSeq (dAsg (dC (.int 0)) (dGN 1))
    (dWhile (dTest (dOp rLt (dVar 1) (dCB cLen (dCons (dFld C_Search "line" (dVar 0)) dNil))))
      (dSeq (dAsg (dOp dIxS (dFld C_Search "line" (dVar 0)) (dVar 1)) (dGTupA 2 (dGCons (dGN 2) (dGCons (dGN 3) dGNil))))
    (dSeq (dFor (dSeqI (dMeth C_Web "steps" (sp_Web_steps C_Web) (dFld C_Search "web" (dVar 0)) (dCons (dVar 2) dNil))) (dGN 4)
      (dSeq (dAsg (dCall sp_stepped (dCons (dFld C_Search "machine" (dVar 0)) (dCons (dTup (dCons (dVar 3) dNil)) (dCons (dOp dIxS (dVar 4) (dC (.int 0))) (dCons (dOp dIxS (dVar 4) (dC (.int 1))) dNil))))) (dGN 5))
    (dIf (dTest (dOp (dEq true) (dVar 5) (dTup dNil)))
      (dSeq (dAsg (dMeth C_Web "marks" (sp_Web_marks C_Web) (dFld C_Search "web" (dVar 0)) (dCons (dOp dIxS (dVar 4) (dC (.int 2))) dNil)) (dGN 6))
    (dDrop (dMeth C_Search "add" (sp_Search_add C_Search) (dVar 0) (dCons (dOp dIxS (dVar 4) (dC (.int 2))) (dCons (dCall sp_come_to (dCons (dFld C_Search "machine" (dVar 0)) (dCons (dVar 5) (dCons (dVar 6) dNil)))) (dCons (dTup (dCons (dTup (dCons (dVar 2) (dCons (dVar 3) dNil))) (dCons (dVar 4) dNil))) dNil))))))
      dNx)))
    (dAsg (dOp dAddF (dVar 1) (dC (.int 1))) (dGN 1))))))
abbrev N_Search_go_all : List Str := ["self", "at", "knot", "stand", "step", "there", "marks"]
end Rs
set_option maxRecDepth 100000
set_option maxHeartbeats 4000000
namespace Rs
open PySem PySem.Spec L2
open Rm
open Rc
open ShB hiding N_l_leaf dSeqWhile_gen r_l_leaf sp_l_leaf sp_l_leaf_mono t_l_leaf
open Sh hiding N_l_cell_at N_l_feed N_l_leaf N_l_names N_l_pattern deeps_le deeps_mem perm_map_ex r_l_cell_at r_l_leaf r_l_pattern sp_l_leaf sp_l_leaf_mono sp_l_names sp_l_pattern sp_l_pattern_mono srt_strict t_l_cell_at t_l_feed t_l_leaf t_l_names t_l_pattern
open Dt hiding nkeys sp_l_cell_at sp_l_cell_at_mono sp_l_feed
/-! ShSr4: a search, who is reached. -/
section
variable (C CW : Addr)
/-- what a search meets first -/
def First (W : Wb) (M : Mc) (x : Str) (p : Pr) : Prop := p.1 = x ∧ Come M.mv (wMarks W x) [M.b] p.2
def sp_Search_init : DSp := fun ds S Q _ => ∃ (s w : Addr) (M : Mc) (W : Wb) (F : List Addr) (x : Str), ds = [.ref s, .ref w, machD M, .str x] ∧ S s = some (.ins C []) ∧ WebAt CW S w W F ∧ s ∉ F ∧ x ∈ W.names ∧ OkMc M ∧ W.names.length * M.n + M.mv.length ≤ 50000 ∧
  ∀ S' c l E0 E', SrAt C S' s c l w (machD M) E' → OkEn W M.n E' → (∀ b, b ≠ s → ∀ o, S b = some o → S' b = some o) → (∃ L : List Nat, L.Pairwise (· < ·) ∧ (∀ n, n ∈ L ↔ Come M.mv (wMarks W x) [M.b] n) ∧ E0 = addE x none [] L) → Run W M.mv 0 E0 E' → Q .non S'
end
def t_Search_init (C_Search : Addr) (C_Web : Addr) : DTS := (dSeq (dPutF C_Search "web" (dVar 0) (dVar 1))
    (dSeq (dPutF C_Search "machine" (dVar 0) (dVar 2))
    (dSeq (dPutF C_Search "came" (dVar 0) dDnN)
    (dSeq (dPutF C_Search "line" (dVar 0) (dLst dNil))
    (dSeq (dDrop (dMeth C_Search "add" (sp_Search_add C_Search) (dVar 0) (dCons (dVar 3) (dCons (dCall sp_come_to (dCons (dVar 2) (dCons (dTup (dCons (dOp dIxS (dVar 2) (dC (.int 1))) dNil)) (dCons (dMeth C_Web "marks" (sp_Web_marks C_Web) (dVar 1) (dCons (dVar 3) dNil)) dNil)))) (dCons (dC .non) dNil)))))
    (dDrop (dMeth C_Search "go_all" (sp_Search_go_all C_Search C_Web) (dVar 0) dNil)))))))
abbrev N_Search_init : List Str := ["self", "web", "machine", "knot"]
end Rs
set_option maxRecDepth 100000
set_option maxHeartbeats 4000000
namespace Rs
open PySem PySem.Spec L2
open Rm
open Rc
open ShB hiding N_l_leaf dSeqWhile_gen r_l_leaf sp_l_leaf sp_l_leaf_mono t_l_leaf
open Sh hiding N_l_cell_at N_l_feed N_l_leaf N_l_names N_l_pattern deeps_le deeps_mem perm_map_ex r_l_cell_at r_l_leaf r_l_pattern sp_l_leaf sp_l_leaf_mono sp_l_names sp_l_pattern sp_l_pattern_mono srt_strict t_l_cell_at t_l_feed t_l_leaf t_l_names t_l_pattern
open Dt hiding nkeys sp_l_cell_at sp_l_cell_at_mono sp_l_feed
/-! ShSr5: who is reached. -/
def sp_reached (_ CW : Addr) : DSp := fun ds S Q _ => ∃ (w : Addr) (M : Mc) (W : Wb) (F : List Addr) (x : Str), ds = [.ref w, machD M, .str x] ∧ WebAt CW S w W F ∧ x ∈ W.names ∧ OkMc M ∧ W.names.length * M.n + M.mv.length ≤ 4000 ∧
  ∀ K : List Str, (∀ y, y ∈ K ↔ ∃ e ∈ M.es, Rch W M.mv (First W M x) (y, e)) → (Q (.rol (ssD (strsD K))) S ∨ ∀ q, S q = none → Q (.ref q) (upo S q (.lst (ssD (strsD K)))))
def t_reached (C_Search : Addr) (C_Web : Addr) : DTS := (dSeq (dAsg (dMake C_Search (sp_Search_init C_Search C_Web) (dCons (dVar 0) (dCons (dVar 1) (dCons (dVar 2) dNil)))) (dGN 3))
    (dRet (dSortSetA (dFz (dLc (dSeqI (dFld C_Search "line" (dVar 3))) (dGN 4) (dTest (dOp (dIn false) (dOp dIxS (dVar 4) (dC (.int 1))) (dOp dIxS (dVar 1) (dC (.int 2))))) (dOp dIxS (dVar 4) (dC (.int 0))) [4])))))
abbrev N_reached : List Str := ["web", "machine", "knot", "search", "pair"]
end Rs
set_option maxRecDepth 100000
set_option maxHeartbeats 4000000
namespace Rs
open PySem PySem.Spec L2
open Rm
open Rc
open ShB hiding N_l_leaf dSeqWhile_gen r_l_leaf sp_l_leaf sp_l_leaf_mono t_l_leaf
open Sh hiding N_l_cell_at N_l_feed N_l_leaf N_l_names N_l_pattern deeps_le deeps_mem perm_map_ex r_l_cell_at r_l_leaf r_l_pattern sp_l_leaf sp_l_leaf_mono sp_l_names sp_l_pattern sp_l_pattern_mono srt_strict t_l_cell_at t_l_feed t_l_leaf t_l_names t_l_pattern
open Dt hiding nkeys sp_l_cell_at sp_l_cell_at_mono sp_l_feed
/-! ShSr6: sorted rows of names that are wholly told by their members; pairs. -/
structure SrtOf (A : Str → Prop) (ys : List Str) : Prop where
  srt : (strsD ys).Pairwise fun a b => ltD a b = true
  nd : ys.Nodup
  ok : ∀ y ∈ ys, okS y
  mem : ∀ y, y ∈ ys ↔ A y
open Classical in
noncomputable def sortOf (A : Str → Prop) : List Str := if h : ∃ ys, SrtOf A ys then choose h else []
/-- a machine goes some way from the one to the other -/
def Reach (W : Wb) (M : Mc) (x y : Str) : Prop := ∃ e ∈ M.es, Rch W M.mv (First W M x) (y, e)
def prL (x : Str) (ys : List Str) : List D := ys.map fun y => .tup [.str x, .str y]
def pairL (ns : List Str) (f : Str → List Str) : List D := ns.flatMap fun x => prL x (f x)
noncomputable def pairsV (W : Wb) (M : Mc) : List D := pairL (sortOf (· ∈ W.names)) fun x => sortOf (Reach W M x)
def sp_pairs (C CW : Addr) : DSp := fun ds S Q _ => ∃ (w : Addr) (M : Mc) (W : Wb) (F : List Addr), ds = [.ref w, machD M] ∧ WebAt CW S w W F ∧ OkMc M ∧ W.names.length * M.n + M.mv.length ≤ 4000 ∧
  (Q (.rol (pairsV W M)) S ∨ ∀ q, S q = none → Q (.ref q) (upo S q (.lst (pairsV W M))))
def t_pairs (C_Search : Addr) (C_Web : Addr) : DTS := (dSeq (dAsg (dLst dNil) (dGN 2))
    (dSeq (dFor (dSeqI (dMeth C_Web "knots" (sp_Web_knots C_Web) (dVar 0) dNil)) (dGN 3)
      (dFor (dSeqI (dCall (sp_reached C_Search C_Web) (dCons (dVar 0) (dCons (dVar 1) (dCons (dVar 3) dNil))))) (dGN 4)
      (dDrop (dBM "list" mAppend (dVar 2) (dCons (dTup (dCons (dVar 3) (dCons (dVar 4) dNil))) dNil)))))
    (dRet (dVar 2))))
abbrev N_pairs : List Str := ["web", "machine", "found", "knot", "other"]
end Rs
set_option maxRecDepth 100000
set_option maxHeartbeats 4000000
namespace Rb
open PySem PySem.Spec L2
open Rs
open Rm
open Rc
open ShB hiding N_l_leaf dSeqWhile_gen r_l_leaf sp_l_leaf sp_l_leaf_mono t_l_leaf
open Sh hiding N_l_cell_at N_l_feed N_l_leaf N_l_names N_l_pattern deeps_le deeps_mem perm_map_ex r_l_cell_at r_l_leaf r_l_pattern sp_l_leaf sp_l_leaf_mono sp_l_names sp_l_pattern sp_l_pattern_mono srt_strict t_l_cell_at t_l_feed t_l_leaf t_l_names t_l_pattern
open Dt hiding nkeys sp_l_cell_at sp_l_cell_at_mono sp_l_feed
/-! ShL2: spread, round by round. -/
inductive RchN (W : Wb) (mv : List Mv) (A : Pr → Prop) : Nat → Pr → Prop
  | start {p : Pr} : A p → RchN W mv A 0 p
  | step {n : Nat} {p q : Pr} {t : T3} : RchN W mv A n p → IsSt W p.1 t → Nxt W mv p t q → RchN W mv A (n + 1) q
theorem nodup_key {α β : Type} : ∀ {E : List (α × β)}, (E.map (·.1)).Nodup → ∀ {e e' : α × β}, e ∈ E → e' ∈ E → e.1 = e'.1 → e = e'
  | x :: E, nd, e, e', h, h', k => by
    obtain ⟨n1, n2⟩ := List.nodup_cons.mp nd
    rcases List.mem_cons.mp h with rfl | g <;> rcases List.mem_cons.mp h' with rfl | g'
    · rfl
    · exact (n1 (List.mem_map.mpr ⟨e', g', k.symm⟩)).elim
    · exact (n1 (List.mem_map.mpr ⟨e, g, k⟩)).elim
    · exact nodup_key n2 g g' k
/-- what stands at the begin of a round -/
structure Rnd (W : Wb) (mv : List Mv) (A : Pr → Prop) (k : Nat) (E : List (Pr × Nat)) (line : List Pr) : Prop where
  nd : (E.map (·.1)).Nodup
  ln : ∀ q ∈ line, RchN W mv A k q
  en : ∀ e ∈ E, RchN W mv A e.2 e.1 ∧ e.2 < k ∧ ∀ j, j < k → RchN W mv A j e.1 → e.2 ≤ j
  all : ∀ p j, j < k → RchN W mv A j p → p ∈ E.map (·.1)
  now : ∀ p, RchN W mv A k p → p ∈ E.map (·.1) ∨ p ∈ line
/-- what stands within a round -/
structure Mid (W : Wb) (mv : List Mv) (k : Nat) (E0 : List (Pr × Nat)) (line : List Pr) (i : Nat) (E : List (Pr × Nat)) (fr : List Pr) : Prop where
  nd : (E.map (·.1)).Nodup
  pre : ∀ e ∈ E0, e ∈ E
  new : ∀ e ∈ E, e ∈ E0 ∨ (e.2 = k ∧ e.1 ∈ line.take i)
  don : ∀ p ∈ line.take i, p ∈ E.map (·.1)
  out : ∀ q ∈ fr, ∃ e ∈ E, e ∉ E0 ∧ ∃ t, IsSt W e.1.1 t ∧ Nxt W mv e.1 t q
  all : ∀ e ∈ E, e ∉ E0 → ∀ t q, IsSt W e.1.1 t → Nxt W mv e.1 t q → q ∈ fr
theorem Rnd.mid {W mv A k E line} (h : Rnd W mv A k E line) : Mid W mv k E line 0 E [] :=
  ⟨h.nd, fun _ z => z, fun _ z => .inl z, fun p hp => by simp at hp, fun q hq => by simp at hq, fun e h1 h2 => absurd h1 h2⟩
theorem Mid.skip {W mv k E0 line i E fr} (h : Mid W mv k E0 line i E fr) {p : Pr} (hp : line[i]? = some p) (hm : p ∈ E.map (·.1)) : Mid W mv k E0 line (i + 1) E fr := by
  have tk : line.take (i + 1) = line.take i ++ [p] := by rw [List.take_succ, hp]; rfl
  refine ⟨h.nd, h.pre, fun e he => (h.new e he).imp id fun z => ⟨z.1, by rw [tk]; exact List.mem_append_left _ z.2⟩, fun q hq => ?_, h.out, h.all⟩
  rw [tk] at hq
  rcases List.mem_append.mp hq with z | z
  · exact h.don q z
  · rw [List.mem_singleton.mp z]; exact hm
theorem Mid.add {W mv k E0 line i E fr} (h : Mid W mv k E0 line i E fr) {p : Pr} (hp : line[i]? = some p) (hm : p ∉ E.map (·.1)) {X : List Pr} (hX : ∀ q, q ∈ X ↔ ∃ t, IsSt W p.1 t ∧ Nxt W mv p t q) : Mid W mv k E0 line (i + 1) (E ++ [(p, k)]) (fr ++ X) := by
  have tk : line.take (i + 1) = line.take i ++ [p] := by rw [List.take_succ, hp]; rfl
  have n0 : ((p, k) : Pr × Nat) ∉ E0 := fun z => hm (List.mem_map.mpr ⟨_, h.pre _ z, rfl⟩)
  refine ⟨?_, fun e he => List.mem_append_left _ (h.pre e he), fun e he => ?_, fun q hq => ?_, fun q hq => ?_, fun e he ne t q hs hn => ?_⟩
  · rw [List.map_append, List.nodup_append]
    exact ⟨h.nd, by simp, fun a ha b hb e => hm (by simp at hb; rw [← hb, ← e]; exact ha)⟩
  · rcases List.mem_append.mp he with z | z
    · exact (h.new e z).imp id fun z => ⟨z.1, by rw [tk]; exact List.mem_append_left _ z.2⟩
    · rw [List.mem_singleton.mp z, tk]
      exact .inr ⟨rfl, List.mem_append_right _ (List.mem_singleton.mpr rfl)⟩
  · rw [List.map_append]
    rw [tk] at hq
    rcases List.mem_append.mp hq with z | z
    · exact List.mem_append_left _ (h.don q z)
    · rw [List.mem_singleton.mp z]; exact List.mem_append_right _ (List.mem_singleton.mpr rfl)
  · rcases List.mem_append.mp hq with z | z
    · obtain ⟨e, he, ne, w⟩ := h.out q z
      exact ⟨e, List.mem_append_left _ he, ne, w⟩
    · exact ⟨(p, k), List.mem_append_right _ (List.mem_singleton.mpr rfl), n0, (hX q).mp z⟩
  · rcases List.mem_append.mp he with z | z
    · exact List.mem_append_left _ (h.all e z ne t q hs hn)
    · rw [List.mem_singleton.mp z] at hs hn
      exact List.mem_append_right _ ((hX q).mpr ⟨t, hs, hn⟩)
theorem Rnd.next {W mv A k E0 line} (h : Rnd W mv A k E0 line) {E fr} (m : Mid W mv k E0 line line.length E fr) : Rnd W mv A (k + 1) E fr := by
  have m2 := m.new
  have m3 := m.don
  rw [List.take_length] at m2 m3
  have all : ∀ p j, j < k + 1 → RchN W mv A j p → p ∈ E.map (·.1) := fun p j hj r => by
    rcases Nat.lt_or_eq_of_le (Nat.le_of_lt_succ hj) with c | rfl
    · obtain ⟨e, he, rfl⟩ := List.mem_map.mp (h.all p j c r)
      exact List.mem_map.mpr ⟨e, m.pre e he, rfl⟩
    · rcases h.now p r with z | z
      · obtain ⟨e, he, rfl⟩ := List.mem_map.mp z
        exact List.mem_map.mpr ⟨e, m.pre e he, rfl⟩
      · exact m3 p z
  have newE : ∀ e ∈ E, e ∉ E0 → e.2 = k ∧ RchN W mv A k e.1 ∧ e.1 ∉ E0.map (·.1) := fun e he ne => by
    obtain ⟨a, b⟩ := (m2 e he).resolve_left ne
    refine ⟨a, h.ln _ b, fun z => ?_⟩
    obtain ⟨e', he', ee⟩ := List.mem_map.mp z
    have := nodup_key m.nd he (m.pre e' he') ee.symm
    exact ne (by rw [this]; exact he')
  refine ⟨m.nd, fun q hq => ?_, fun e he => ?_, all, fun q r => ?_⟩
  · obtain ⟨e, he, ne, t, hs, hn⟩ := m.out q hq
    exact .step (newE e he ne).2.1 hs hn
  · by_cases c : e ∈ E0
    · obtain ⟨a, b, d⟩ := h.en e c
      refine ⟨a, by omega, fun j hj r => ?_⟩
      rcases Nat.lt_or_eq_of_le (Nat.le_of_lt_succ hj) with z | rfl
      · exact d j z r
      · omega
    · obtain ⟨a, b, d⟩ := newE e he c
      refine ⟨by rw [a]; exact b, by omega, fun j hj r => ?_⟩
      rcases Nat.lt_or_eq_of_le (Nat.le_of_lt_succ hj) with z | rfl
      · exact absurd (h.all _ j z r) d
      · omega
  · cases r with
    | step r hs hn =>
      obtain ⟨e, he, rfl⟩ := List.mem_map.mp (all _ k (by omega) r)
      by_cases c : e ∈ E0
      · obtain ⟨a, b, d⟩ := h.en e c
        exact .inl (all q (e.2 + 1) (by omega) (.step a hs hn))
      · exact .inr (m.all e he c _ q hs hn)
/-- what a spread tells: each pair that is reached, once, with the fewest steps -/
structure FarOf (W : Wb) (mv : List Mv) (A : Pr → Prop) (E : List (Pr × Nat)) : Prop where
  nd : (E.map (·.1)).Nodup
  en : ∀ e ∈ E, RchN W mv A e.2 e.1 ∧ ∀ j, RchN W mv A j e.1 → e.2 ≤ j
  all : ∀ p j, RchN W mv A j p → p ∈ E.map (·.1)
theorem Rnd.done {W mv A k E} (h : Rnd W mv A k E []) : FarOf W mv A E := by
  have all : ∀ p j, RchN W mv A j p → p ∈ E.map (·.1) := fun p j r => by
    induction r with
    | start a =>
      by_cases c : 0 < k
      · exact h.all _ 0 c (.start a)
      · obtain rfl : k = 0 := by omega
        exact (h.now _ (.start a)).resolve_right (by simp)
    | step _ hs hn ih =>
      obtain ⟨e, he, rfl⟩ := List.mem_map.mp ih
      obtain ⟨a, b, d⟩ := h.en e he
      have r := RchN.step a hs hn
      by_cases c : e.2 + 1 < k
      · exact h.all _ _ c r
      · have : e.2 + 1 = k := by omega
        rw [this] at r
        exact (h.now _ r).resolve_right (by simp)
  refine ⟨h.nd, fun e he => ⟨(h.en e he).1, fun j r => ?_⟩, all⟩
  obtain ⟨a, b, d⟩ := h.en e he
  by_cases c : j < k
  · exact d j c r
  · omega
theorem Rnd.first {W : Wb} {mv : List Mv} {A : Pr → Prop} {line : List Pr} (h : ∀ q, q ∈ line ↔ A q) : Rnd W mv A 0 [] line :=
  ⟨.nil, fun q hq => .start ((h q).mp hq), fun e he => by simp at he, fun p j hj => absurd hj (Nat.not_lt_zero _), fun p r => .inr (by cases r with | start a => exact (h p).mpr a)⟩
def t_l_spread : DTS := (dSeq (dAsg dDnN (dGN 3))
    (dSeq (dAsg (dLc (dSeqI (dCall sp_l_still (dCons (dVar 1) (dCons (dLstF (dCons (dOp dIxS (dVar 1) (dC (.int 1))) dNil)) (dCons (dOp dIxS (dOp dIxS (dVar 0) (dC (.int 0))) (dVar 2)) dNil))))) (dGN 12) dYes (dTup (dCons (dVar 2) (dCons (dVar 12) dNil))) [12]) (dGN 4))
    (dSeq (dAsg (dC (.int 0)) (dGN 5))
    (dSeq (dWhile (dTest (dOp (dEq true) (dVar 4) (dLstF dNil)))
      (dSeq (dAsg (dLst dNil) (dGN 6))
    (dSeq (dFor (dSeqI (dVar 4)) (dGN 7)
      (dIf (dTest (dOp (dIn true) (dVar 7) (dVar 3)))
      (dSeq (dPut (dVar 3) (dVar 7) (dVar 5))
    (dFor (dSeqI (dCall sp_l_steps (dCons (dVar 0) (dCons (dOp dIxS (dVar 7) (dC (.int 0))) dNil)))) (dGTup 3 (dGCons (dGN 8) (dGCons (dGN 9) (dGCons (dGN 10) dGNil))))
      (dSeq (dAsg (dCall sp_l_by (dCons (dVar 1) (dCons (dLstF (dCons (dOp dIxS (dVar 7) (dC (.int 1))) dNil)) (dCons (dVar 8) (dCons (dVar 9) dNil))))) (dGN 11))
    (dDrop (dBM "list" mExtend (dVar 6) (dCons (dFz (dLc (dSeqI (dCall sp_l_still (dCons (dVar 1) (dCons (dVar 11) (dCons (dOp dIxS (dOp dIxS (dVar 0) (dC (.int 0))) (dVar 10)) dNil))))) (dGN 12) dYes (dTup (dCons (dVar 10) (dCons (dVar 12) dNil))) [12])) dNil))))))
      dNx))
    (dSeq (dAsg (dVar 6) (dGN 4))
    (dAsg (dOp dAddF (dVar 5) (dC (.int 1))) (dGN 5))))))
    (dRet (dVar 3))))))
abbrev N_l_spread : List Str := ["_law_rows_here", "_law_machine_here", "_law_knot", "_law_far", "_law_line", "_law_steps_here", "_law_fresh", "_law_pair", "_law_side", "_law_word", "_law_there", "_law_behind", "_law_stand"]
def farD (E : List (Pr × Nat)) : List (D × D) := E.map fun e => (Rs.prD e.1, .int (e.2 : Nat))
/-- the world within a spread -/
structure Wd (S S' : DH) (f q r : Addr) (E : List (Pr × Nat)) (line fr : List Pr) : Prop where
  x : Ext S S'
  hf : S' f = some (.dN (farD E))
  hq : S' q = some (.lst (line.map Rs.prD))
  hr : S' r = some (.lst (fr.map Rs.prD))
  nfq : f ≠ q
  nfr : f ≠ r
  nqr : q ≠ r
  sf : S f = none
  sr : S r = none
theorem Wd.putF {S S' f q r E line fr} (h : Wd S S' f q r E line fr) (E' : List (Pr × Nat)) : Wd S (upo S' f (.dN (farD E'))) f q r E' line fr :=
  ⟨fun b o e => by rw [upo_ne (fun z => by subst z; rw [h.sf] at e; cases e)]; exact h.x b o e, by simp, by rw [upo_ne h.nfq.symm]; exact h.hq, by rw [upo_ne h.nfr.symm]; exact h.hr, h.nfq, h.nfr, h.nqr, h.sf, h.sr⟩
def sp_l_spread : DSp := fun ds S Q _ => ∃ (d : D) (R : Wb) (M : Mc) (x : Str), ds = [d, machD M, .str x] ∧ RwAt S d R ∧ OkWb R ∧ OkMc M ∧ x ∈ R.names ∧ R.names.length * M.n + M.mv.length + M.n ≤ 90000 ∧ R.names.length * M.n * (2 * R.ts.length * M.n) ≤ 8000000 ∧
  ∀ E f S', FarOf R M.mv (First R M x) E → Ext S S' → S f = none → S' f = some (.dN (farD E)) → Q (.ref f) S'
def spM (B : Nat) (τ : DSt) (S' : DH) : Nat :=
  match (τ[3]? : Option (Option D)), (τ[4]? : Option (Option D)) with
  | some (some (.ref f)), some (some (.ref q)) => (match S' f with | some (.dN kv) => 2 * (B - kv.length) | _ => 0) + (match S' q with | some (.lst []) => 0 | some (.lst _) => 1 | _ => 0)
  | _, _ => 0
end Rb
set_option maxRecDepth 100000
set_option maxHeartbeats 4000000
namespace Rb
open PySem PySem.Spec L2
open Rm
open Rc
open ShB hiding N_l_leaf dSeqWhile_gen r_l_leaf sp_l_leaf sp_l_leaf_mono t_l_leaf
open Sh hiding N_l_cell_at N_l_feed N_l_leaf N_l_names N_l_pattern deeps_le deeps_mem perm_map_ex r_l_cell_at r_l_leaf r_l_pattern sp_l_leaf sp_l_leaf_mono sp_l_names sp_l_pattern sp_l_pattern_mono srt_strict t_l_cell_at t_l_feed t_l_leaf t_l_names t_l_pattern
open Dt hiding nkeys sp_l_cell_at sp_l_cell_at_mono sp_l_feed
abbrev sp_l_leaf : DSp := ShB.sp_l_leaf
theorem sp_l_leaf_mono : SpMono sp_l_leaf := ShB.sp_l_leaf_mono
theorem r_l_leaf (ds S Q E) (h : sp_l_leaf ds S Q E) : ShB.t_l_leaf (dEnd Q E) (dstart ShB.N_l_leaf ds) S := ShB.r_l_leaf ds S Q E h
def t_l_part (spR : DSp) : DTS := (dSeq (dAsg (dOp rMod (dOp dIxS (dVar 0) (dOp rMod (dVar 1) (dCB cLen (dCons (dVar 0) dNil)))) (dOp dIxS (dLstF (dCons (dC (.int 5)) (dCons (dC (.int 8)) (dCons (dC (.int 9)) dNil)))) (dCB cMin2 (dCons (dVar 2) (dCons (dC (.int 2)) dNil))))) (dGN 3))
    (dSeq (dAsg (dOp dIxS (dVar 0) (dOp rMod (dOp dAddF (dVar 1) (dC (.int 1))) (dCB cLen (dCons (dVar 0) dNil)))) (dGN 4))
    (dSeq (dIf (dTest (dOp rLt (dVar 3) (dC (.int 5))))
      (dRet (dTup (dCons (dCall sp_l_leaf (dCons (dVar 3) (dCons (dVar 4) dNil))) (dCons (dOp dAddF (dVar 1) (dC (.int 2))) dNil))))
      dNx)
    (dSeq (dIf (dTest (dOp (dEq false) (dVar 3) (dC (.int 7))))
      (dSeq (dAsg (dCall spR (dCons (dVar 0) (dCons (dOp dAddF (dVar 1) (dC (.int 1))) (dCons (dOp rSub (dVar 2) (dC (.int 1))) dNil)))) (dGTupA 2 (dGCons (dGN 5) (dGCons (dGN 1) dGNil))))
    (dRet (dTup (dCons (dTup (dCons (dC (.str "many")) (dCons (dVar 5) dNil))) (dCons (dVar 1) dNil)))))
      dNx)
    (dSeq (dAsg (dOp dAddF (dVar 1) (dC (.int 2))) (dGN 1))
    (dSeq (dAsg (dLst dNil) (dGN 6))
    (dSeq (dFor (dRng1 (dCons (dOp rMod (dVar 4) (dOp dIxS (dLstF (dCons (dC (.int 1)) (dCons (dC (.int 3)) (dCons (dC (.int 4)) (dCons (dC (.int 3)) dNil))))) (dCB cMin2 (dCons (dVar 2) (dCons (dC (.int 3)) dNil))))) dNil)) (dGN 7)
      (dSeq (dAsg (dCall spR (dCons (dVar 0) (dCons (dVar 1) (dCons (dOp rSub (dVar 2) (dC (.int 1))) dNil)))) (dGTupA 2 (dGCons (dGN 5) (dGCons (dGN 1) dGNil))))
    (dDrop (dBM "list" mAppend (dVar 6) (dCons (dVar 5) dNil)))))
    (dRet (dTup (dCons (dTup (dCons (dOp dIxS (dLstF (dCons (dC (.str "then")) (dCons (dC (.str "either")) dNil))) (dOp rMod (dVar 3) (dC (.int 2)))) (dCons (dCB cTuple (dCons (dVar 6) dNil)) dNil))) (dCons (dVar 1) dNil)))))))))))
abbrev N_l_part : List Str := ["_law_ds", "_law_at", "_law_deep", "_law_way", "_law_number", "_law_part_here", "_law_parts", "_law_k"]
def t_l_pattern : DTS := (dRet (dOp dIxS (dCall (sp_l_part 2) (dCons (dCall sp_l_draws (dCons (dVar 0) (dCons (dFz (dOp dMul (dLst (dCons (dC (.int 720)) dNil)) (dC (.int 50)))) dNil))) (dCons (dC (.int 0)) (dCons (dVar 1) dNil)))) (dC (.int 0))))
abbrev N_l_pattern : List Str := ["_law_cell", "_law_deep"]
theorem OkB.kids {k : Nat} {b : Bool} {ts : List Pt} (h : ∀ t ∈ ts, OkB k t) (hl : ts.length ≤ 3) : OkB (k + 1) (.seq b ts) := by
  have hal : (Pt.alls ts).length ≤ ts.length * 4 ^ k := by
    clear hl
    induction ts with
    | nil => simp [Pt.alls]
    | cons t ts ih =>
      have h1 := (h t List.mem_cons_self).len
      have h2 := ih fun x hx => h x (List.mem_cons_of_mem _ hx)
      rw [Pt.alls_cons, List.length_append, List.length_cons, Nat.succ_mul]
      omega
  have mem : ∀ q ∈ (Pt.seq b ts).all, q = .seq b ts ∨ ∃ t ∈ ts, q ∈ t.all := fun q hq => by
    rw [Pt.all_seq, Pt.alls_flat] at hq
    rcases List.mem_cons.mp hq with z | z
    · exact .inl z
    · exact .inr (List.mem_flatMap.mp z)
  refine ⟨?_, ?_, fun q hq => ?_, fun q hq => ?_, fun q hq hl => ?_⟩
  · rw [Pt.deep_seq]
    have := deeps_le fun t ht => (h t ht).deep
    omega
  · rw [Pt.all_seq, List.length_cons, Nat.pow_succ]
    have : ts.length * 4 ^ k ≤ 3 * 4 ^ k := Nat.mul_le_mul_right _ hl
    have := Nat.one_le_two_pow (n := k)
    have : 1 ≤ 4 ^ k := Nat.one_le_pow _ _ (by decide)
    omega
  · rcases mem q hq with rfl | ⟨t, ht, hq⟩
    · trivial
    · exact (h t ht).ok q hq
  · rcases mem q hq with rfl | ⟨t, ht, hq⟩
    · exact hl
    · exact (h t ht).few q hq
  · rcases mem q hq with rfl | ⟨t, ht, hq⟩
    · cases hl
    · exact (h t ht).lf q hq hl
theorem OkB.many {k : Nat} {t : Pt} (h : OkB k t) : OkB (k + 1) (.many t) := by
  have mem : ∀ q ∈ (Pt.many t).all, q = .many t ∨ q ∈ t.all := fun q hq => by
    rw [Pt.all_many] at hq
    exact List.mem_cons.mp hq
  refine ⟨?_, ?_, fun q hq => ?_, fun q hq => ?_, fun q hq hl => ?_⟩
  · rw [Pt.deep_many]
    have := h.deep
    omega
  · rw [Pt.all_many, List.length_cons, Nat.pow_succ]
    have : 1 ≤ 4 ^ k := Nat.one_le_pow _ _ (by decide)
    have := h.len
    omega
  · rcases mem q hq with rfl | hq
    · trivial
    · exact h.ok q hq
  · rcases mem q hq with rfl | hq
    · simp [Pt.kids]
    · exact h.few q hq
  · rcases mem q hq with rfl | hq
    · cases hl
    · exact h.lf q hq hl
theorem OkB.leaf {k : Nat} {t : Pt} (h : LfB t) : OkB k t := by
  have hl := h.leaf
  have ⟨l1, l2⟩ := leaf_all hl
  have mem : ∀ q ∈ t.all, q = t := fun q hq => by
    obtain ⟨a, ea⟩ := List.length_eq_one_iff.mp l1
    have := Pt.self_all t
    rw [ea] at this hq
    rw [List.mem_singleton.mp hq, List.mem_singleton.mp this]
  refine ⟨by omega, ?_, h.ok, fun q hq => ?_, fun q hq _ => by rw [mem q hq]; exact h⟩
  · rw [l1]; exact Nat.one_le_pow _ _ (by decide)
  · rw [mem q hq]
    cases t <;> first | (simp [Pt.kids]; done) | cases hl
theorem dMul_fz {S : DH} {p : Addr} {xs : List D} {n : Int} {k : Nat} {K : DK} (h : S p = some (.lst xs)) (e : n = (k : Int)) (hn : xs.length * k ≤ 16777216) (hb : k < 1000000) (q : K (.rol (List.replicate k xs).flatten) S) : dMul (.ref p) (.int n) S (fzK K) := by
  subst e
  have : xs.length * k ≤ sizeLine := by rw [sizeLine_eq]; exact hn
  simp only [dMul, h]
  exact ⟨⟨by omega, by omega, by simpa using this⟩, fun r hr => fzK_new hr q⟩
theorem rep_nats (k : Nat) (xs : List Nat) : (List.replicate k (natsD xs)).flatten = natsD (List.replicate k xs).flatten := by
  simp [natsD, List.map_flatten]
theorem three_at (k : Nat) : ∃ m : Nat, atI [D.int 5, D.int 8, D.int 9] (if 2 < (k : Int) then 2 else (k : Int)) = some (.int (m : Nat)) ∧ 5 ≤ m ∧ m ≤ 9 ∧ (k = 0 → m = 5) := by
  by_cases c0 : k = 0
  · subst c0; exact ⟨5, rfl, by decide, by decide, fun _ => rfl⟩
  by_cases c1 : k = 1
  · subst c1; exact ⟨8, rfl, by decide, by decide, fun z => by cases z⟩
  · have : (if 2 < (k : Int) then (2 : Int) else (k : Int)) = 2 := by split <;> omega
    rw [this]
    exact ⟨9, rfl, by decide, by decide, fun z => absurd z c0⟩
theorem four_at (k : Nat) : ∃ m : Nat, atI [D.int 1, D.int 3, D.int 4, D.int 3] (if 3 < (k : Int) then 3 else (k : Int)) = some (.int (m : Nat)) ∧ 1 ≤ m ∧ m ≤ 4 := by
  by_cases c0 : k = 0
  · subst c0; exact ⟨1, rfl, by decide, by decide⟩
  by_cases c1 : k = 1
  · subst c1; exact ⟨3, rfl, by decide, by decide⟩
  by_cases c2 : k = 2
  · subst c2; exact ⟨4, rfl, by decide, by decide⟩
  · have : (if 3 < (k : Int) then (3 : Int) else (k : Int)) = 3 := by split <;> omega
    rw [this]
    exact ⟨3, rfl, by decide, by decide⟩
theorem r_l_part (k : Nat) (ds S Q E) (h : sp_l_part k ds S Q E) : t_l_part (prevSp sp_l_part k) (dEnd Q E) (dstart N_l_part ds) S := by
  obtain ⟨zs, at', rfl, hz, h⟩ := h
  have ix : ∀ n : Nat, atI (natsD zs) ((n : Int) % (zs.length : Int)) = some (.int (zs.getD (n % zs.length) 0 : Nat)) := fun n => by
    have := atI_nats (xs := zs) (i := n % zs.length) (Nat.mod_lt _ hz)
    rw [← this]
    congr 1
  obtain ⟨m, em, m5, m9, m0⟩ := three_at k
  have ix1 := ix at'
  have ix2 := ix (at' + 1)
  have hz' : 0 < (zs.length : Int) := by omega
  unfold t_l_part
  refine dSeq_gen fun R hR => ?_
  simp [dstart]
  rw [ix1, em]
  generalize zs.getD (at' % zs.length) 0 = v0
  generalize zs.getD ((at' + 1) % zs.length) 0 = u at ix2
  simp
  refine ⟨by omega, by omega, ?_⟩
  rw [show (v0 : Int) % (m : Int) = ((v0 % m : Nat) : Int) from rfl]
  have hv : v0 % m < m := Nat.mod_lt _ (by omega)
  generalize v0 % m = v at hv
  subst hR
  refine dSeq_gen fun R hR => ?_
  simp
  rw [show ((at' : Int) + 1) = ((at' + 1 : Nat) : Int) by omega, ix2]
  simp
  refine ⟨hz, ?_⟩
  subst hR
  refine dSeqIf_gen fun A B R hA hB hR => ?_
  simp
  by_cases c5 : v < 5
  · have c5' : (v : Int) < 5 := by omega
    subst hA
    simp [c5']
    exact ⟨v, u, rfl, c5, fun p hp => .same (h p (at' + 2) (.leaf hp))⟩
  have c5' : ¬ (v : Int) < 5 := by omega
  simp [c5']
  subst hB
  simp
  obtain ⟨k, rfl⟩ : ∃ k', k = k' + 1 := ⟨k - 1, by
    by_cases z : k = 0
    · have := m0 z
      omega
    · omega⟩
  have ek : ((k + 1 : Nat) : Int) - 1 = (k : Nat) := by omega
  subst hR
  refine dSeqIf_gen fun A B R hA hB hR => ?_
  simp
  by_cases c7 : v = 7
  · subst hA
    simp [c7]
    refine ⟨zs, at' + 1, by simp, hz, fun p j o => ?_⟩
    simp
    exact .same (h (.many p) j o.many)
  have c7' : ¬ (v : Int) = 7 := by omega
  simp [c7']
  subst hB
  simp
  subst hR
  refine dSeq_gen fun R hR => ?_
  simp
  subst hR
  refine dSeq_gen fun R hR => ?_
  simp
  intro s hs
  subst hR
  refine dSeqFor_gen fun B R hB hR => ?_
  simp
  obtain ⟨r, er, r1, r4⟩ := four_at (k + 1)
  rw [show (if (3 : Int) < (k : Int) + 1 then (3 : Int) else (k : Int) + 1) = (if (3 : Int) < ((k + 1 : Nat) : Int) then (3 : Int) else ((k + 1 : Nat) : Int)) from rfl, er]
  simp
  have hu : u % r < r := Nat.mod_lt _ (by omega)
  have er2 : (u : Int) % (r : Int) = ((u % r : Nat) : Int) := rfl
  rw [er2]
  generalize u % r = c at hu
  refine ⟨r1, ⟨by omega, by omega⟩, ?_⟩
  refine loop_inv (fun i τ S' => ∃ (ts : List Pt) (j : Nat) (x5 x7 : Option D), τ = [some (.rol (natsD zs)), some (.int (j : Nat)), some (.int ((k : Int) + 1)), some (.int (v : Nat)), some (.int (u : Nat)), x5, some (.ref s), x7] ∧
      S' = upo S s (.lst (ts.map ptD)) ∧ ts.length ≤ i ∧ ∀ t ∈ ts, OkB k t) ⟨[], at' + 2, none, none, rfl, by simp, Nat.le_refl _, by simp⟩ (fun _ _ _ _ _ => trivial) ?_ ?_
  · rintro i d τ S1 N hd ⟨ts, j, x5, x7, rfl, rfl, hl, ho⟩ hN
    obtain ⟨hi, rfl⟩ := rng_get hd
    have hi4 : i < 4 := by omega
    simp
    subst hB
    refine dSeq_gen fun R2 hR2 => ?_
    simp
    refine ⟨zs, j, rfl, hz, fun p j2 o => ?_⟩
    simp
    subst hR2
    simp
    exact ⟨by omega, hN _ _ ⟨ts ++ [p], j2, _, _, rfl, by simp, by simp; omega, fun t ht => by
      rcases List.mem_append.mp ht with z | z
      · exact ho t z
      · rw [List.mem_singleton.mp z]; exact o⟩⟩
  · rintro τ S1 ⟨ts, j, x5, x7, rfl, rfl, hl, ho⟩
    rw [rng_len] at hl
    subst hR
    simp
    have o : ∀ b, OkB (k + 1) (.seq b ts) := fun b => OkB.kids ho (by omega)
    rcases Nat.mod_two_eq_zero_or_one v with e | e
    · rw [show (v : Int) % 2 = (0 : Nat) by omega, show atI [D.str (Str.ofString "then"), D.str (Str.ofString "either")] ((0 : Nat) : Int) = some (.str (Str.ofString "then")) from rfl]
      simp
      refine .keep (Sub.new hs) ?_
      have := h (.seq true ts) j (o _)
      simpa [ptD, ptDs_map] using this
    · rw [show (v : Int) % 2 = (1 : Nat) by omega, show atI [D.str (Str.ofString "then"), D.str (Str.ofString "either")] ((1 : Nat) : Int) = some (.str (Str.ofString "either")) from rfl]
      simp
      refine .keep (Sub.new hs) ?_
      have := h (.seq false ts) j (o _)
      simpa [ptD, ptDs_map] using this
theorem r_l_pattern (ds S Q E) (h : sp_l_pattern ds S Q E) : t_l_pattern (dEnd Q E) (dstart N_l_pattern ds) S := by
  obtain ⟨c, rfl, h⟩ := h
  unfold t_l_pattern
  simp [dstart, -dMul]
  intro p hp
  refine dMul_fz (xs := natsD [720]) (by simp) (k := 50) rfl (by simp) (by decide) ?_
  rw [rep_nats]
  refine ⟨c, _, rfl, by decide, ?_, fun rs h1 h2 => ?_⟩
  · intro z hz
    obtain ⟨l, hl, hz⟩ := List.mem_flatten.mp hz
    rw [(List.mem_replicate.mp hl).2] at hz
    simp at hz
    omega
  have h1 : rs.length = 50 := by simpa using h1
  refine ⟨rs, 0, rfl, by omega, fun p j o => ?_⟩
  simp [show ixN 2 0 = some 0 from rfl]
  exact .keep (Sub.new hp) (h p o)
end Rb
set_option maxRecDepth 100000
set_option maxHeartbeats 4000000
namespace Rt
open PySem PySem.Spec L2
open Rb
open Rs
open Rm
open Rc hiding N_l_pattern r_l_leaf r_l_pattern sp_l_leaf sp_l_leaf_mono sp_l_pattern sp_l_pattern_mono t_l_pattern
open ShB hiding N_l_leaf N_l_still dSeqWhile_gen r_l_leaf r_l_still sp_l_leaf sp_l_leaf_mono sp_l_still sp_l_still_mono t_l_leaf t_l_still
open Sh hiding N_l_cell_at N_l_feed N_l_leaf N_l_names N_l_pattern deeps_le deeps_mem perm_map_ex r_l_cell_at r_l_leaf r_l_pattern sp_l_leaf sp_l_leaf_mono sp_l_names sp_l_pattern sp_l_pattern_mono srt_strict t_l_cell_at t_l_feed t_l_leaf t_l_names t_l_pattern
open Dt hiding nkeys sp_l_cell_at sp_l_cell_at_mono sp_l_feed
/-! ShTh: the machine of a pattern goes just what the pattern fits. -/
/-- so often as one will -/
inductive Star (R : Nat → Nat → Prop) : Nat → Nat → Prop
  | nil (i : Nat) : Star R i i
  | snoc {i k j : Nat} : Star R i k → R k j → Star R i j
abbrev Lf := Pt → Nat → Nat → Prop
mutual
/-- a pattern goes from a place to a place, where lf tells it of leaves -/
def Ft (lf : Lf) : Pt → Nat → Nat → Prop
  | .seq true ps, i, j => FtS lf ps i j
  | .seq false ps, i, j => FtO lf ps i j
  | .many p, i, j => Star (Ft lf p) i j
  | .stay, i, j => lf .stay i j
  | .step o w, i, j => lf (.step o w) i j
  | .mark o w, i, j => lf (.mark o w) i j
def FtS (lf : Lf) : List Pt → Nat → Nat → Prop
  | [], i, j => i = j
  | p :: ps, i, j => ∃ k, Ft lf p i k ∧ FtS lf ps k j
def FtO (lf : Lf) : List Pt → Nat → Nat → Prop
  | [], _, _ => False
  | p :: ps, i, j => Ft lf p i j ∨ FtO lf ps i j
end
def Closed (lf : Lf) (P : Nat → Nat → Prop) (x : Mv) : Prop := ∀ i j, P x.a i → lf x.p i j → P x.b j
theorem closed_cong {lf : Lf} {P P0 : Nat → Nat → Prop} {x : Mv} (ea : P x.a = P0 x.a) (eb : P x.b = P0 x.b) (h : Closed lf P0 x) : Closed lf P x := fun i j a l => by
  rw [eb]
  rw [ea] at a
  exact h i j a l
theorem mem_addM {K : List Mv} {x y : Mv} : y ∈ addM K x ↔ y ∈ K ∨ y = x := by
  unfold addM
  split
  · rename_i h
    exact ⟨.inl, fun z => z.elim id fun e => e ▸ h⟩
  · rw [List.mem_append, List.mem_singleton]
def Snd (lf : Lf) (lay : Nat × List Mv → Nat × List Mv) (R : Nat → Nat → Prop) (a b : Nat) : Prop :=
  ∀ (s : Nat × List Mv) (P0 : Nat → Nat → Prop), a < s.1 → b < s.1 → (∀ i j, P0 a i → R i j → P0 b j) → (∀ x ∈ s.2, x.a < s.1 ∧ x.b < s.1 ∧ Closed lf P0 x) →
    ∃ P, (∀ v, v < s.1 → P v = P0 v) ∧ s.1 ≤ (lay s).1 ∧ ∀ x ∈ (lay s).2, x.a < (lay s).1 ∧ x.b < (lay s).1 ∧ Closed lf P x
theorem snd_leaf {lf : Lf} {p : Pt} {a b : Nat} : Snd lf (fun s => (s.1, addM s.2 ⟨a, p, b⟩)) (lf p) a b := fun s P0 ha hb hr hs =>
  ⟨P0, fun _ _ => rfl, Nat.le_refl _, fun x hx => by
    rcases mem_addM.mp hx with hx | rfl
    · exact hs x hx
    · exact ⟨ha, hb, hr⟩⟩
theorem snd_lay {lf : Lf} (hst : ∀ i j, lf .stay i j ↔ i = j) : ∀ (t : Pt) (a b : Nat), Snd lf (layP t a b) (Ft lf t) a b := by
  refine ptInd ?_ ?_ ?_ ?_ ?_
  · exact fun a b => snd_leaf
  · exact fun o w a b => snd_leaf
  · exact fun o w a b => snd_leaf
  · intro o ps ih a b
    have alls : ∀ ps : List Pt, (∀ p ∈ ps, ∀ a b, Snd lf (layP p a b) (Ft lf p) a b) → ∀ a b, Snd lf (layA ps a b) (FtO lf ps) a b := by
      intro ps
      induction ps with
      | nil => exact fun _ a b s P0 ha hb _ hs => ⟨P0, fun _ _ => rfl, Nat.le_refl _, hs⟩
      | cons p ps ih2 =>
        intro ih a b s P0 ha hb hr hs
        obtain ⟨P1, e1, l1, h1⟩ := ih p List.mem_cons_self a b s P0 ha hb (fun i j x y => hr i j x (.inl y)) hs
        obtain ⟨P2, e2, l2, h2⟩ := ih2 (fun q hq => ih q (List.mem_cons_of_mem _ hq)) a b (layP p a b s) P1 (by omega) (by omega) (fun i j x y => by
          rw [e1 b hb]
          rw [e1 a ha] at x
          exact hr i j x (.inr y)) h1
        exact ⟨P2, fun v hv => by rw [e2 v (by omega), e1 v hv], Nat.le_trans l1 l2, h2⟩
    have rows : ∀ ps : List Pt, ps ≠ [] → (∀ p ∈ ps, ∀ a b, Snd lf (layP p a b) (Ft lf p) a b) → ∀ a b, Snd lf (layR ps a b) (FtS lf ps) a b := by
      intro ps
      induction ps with
      | nil => exact fun h => absurd rfl h
      | cons p ps ih2 =>
        intro _ ih a b
        cases ps with
        | nil =>
          intro s P0 ha hb hr hs
          exact ih p List.mem_cons_self a b s P0 ha hb (fun i j x y => hr i j x ⟨j, y, rfl⟩) hs
        | cons q ps =>
          intro s P0 ha hb hr hs
          let P1 : Nat → Nat → Prop := fun v => if v = s.1 then fun j => ∃ i, P0 a i ∧ Ft lf p i j else P0 v
          have eP : ∀ v, v < s.1 → P1 v = P0 v := fun v hv => by show (if v = s.1 then _ else _) = _; rw [if_neg (by omega)]
          have eN : P1 s.1 = fun j => ∃ i, P0 a i ∧ Ft lf p i j := by show (if s.1 = s.1 then _ else _) = _; rw [if_pos rfl]
          obtain ⟨P2, e2, l2, h2⟩ := ih p List.mem_cons_self a s.1 (s.1 + 1, s.2) P1 (by show a < s.1 + 1; omega) (Nat.lt_succ_self _) (fun i j x y => by
            rw [eN]
            rw [eP a ha] at x
            exact ⟨i, x, y⟩) fun x hx => by
              obtain ⟨h1, h2, h3⟩ := hs x hx
              exact ⟨by show x.a < s.1 + 1; omega, by show x.b < s.1 + 1; omega, closed_cong (eP _ h1) (eP _ h2) h3⟩
          simp only at l2 e2
          obtain ⟨P3, e3, l3, h3⟩ := ih2 (by simp) (fun q hq => ih q (List.mem_cons_of_mem _ hq)) s.1 b (layP p a s.1 (s.1 + 1, s.2)) P2 (by omega) (by omega) (fun i j x y => by
            rw [e2 b (by omega), eP b hb]
            rw [e2 s.1 (by omega), eN] at x
            obtain ⟨i0, x, z⟩ := x
            exact hr i0 j x ⟨i, z, y⟩) h2
          exact ⟨P3, fun v hv => by rw [e3 v (by omega), e2 v (by omega), eP v hv], by show s.1 ≤ (layR (q :: ps) s.1 b (layP p a s.1 (s.1 + 1, s.2))).1; omega, h3⟩
    cases o with
    | false => exact alls ps ih a b
    | true =>
      cases ps with
      | nil =>
        intro s P0 ha hb hr hs
        exact snd_leaf (p := .stay) s P0 ha hb (fun i j x y => hr i j x ((hst i j).mp y)) hs
      | cons p ps => exact rows (p :: ps) (by simp) ih a b
  · intro p ih a b s P0 ha hb hr hs
    let P1 : Nat → Nat → Prop := fun v => if v = s.1 then fun j => ∃ i, P0 a i ∧ Star (Ft lf p) i j else P0 v
    have eP : ∀ v, v < s.1 → P1 v = P0 v := fun v hv => by show (if v = s.1 then _ else _) = _; rw [if_neg (by omega)]
    have eN : P1 s.1 = fun j => ∃ i, P0 a i ∧ Star (Ft lf p) i j := by show (if s.1 = s.1 then _ else _) = _; rw [if_pos rfl]
    obtain ⟨P2, e2, l2, h2⟩ := ih s.1 s.1 (s.1 + 1, addM (addM s.2 ⟨a, .stay, s.1⟩) ⟨s.1, .stay, b⟩) P1 (Nat.lt_succ_self _) (Nat.lt_succ_self _) (fun i j x y => by
      rw [eN] at x ⊢
      obtain ⟨i0, x, z⟩ := x
      exact ⟨i0, x, .snoc z y⟩) fun x hx => by
        rcases mem_addM.mp hx with hx | rfl
        · rcases mem_addM.mp hx with hx | rfl
          · obtain ⟨h1, h2, h3⟩ := hs x hx
            exact ⟨by show x.a < s.1 + 1; omega, by show x.b < s.1 + 1; omega, closed_cong (eP _ h1) (eP _ h2) h3⟩
          · refine ⟨by show a < s.1 + 1; omega, Nat.lt_succ_self _, fun i j x y => ?_⟩
            obtain rfl := (hst i j).mp y
            simp only at x ⊢
            rw [eN]
            rw [eP a ha] at x
            exact ⟨i, x, .nil i⟩
        · refine ⟨Nat.lt_succ_self _, by show b < s.1 + 1; omega, fun i j x y => ?_⟩
          obtain rfl := (hst i j).mp y
          simp only at x ⊢
          rw [eP b hb]
          rw [eN] at x
          obtain ⟨i0, x, z⟩ := x
          exact hr i0 i x z
    simp only at l2 e2
    exact ⟨P2, fun v hv => by rw [e2 v (by omega), eP v hv], by show s.1 ≤ (layP p s.1 s.1 (s.1 + 1, addM (addM s.2 ⟨a, .stay, s.1⟩) ⟨s.1, .stay, b⟩)).1; omega, h2⟩
/-! the other way -/
inductive Go (lf : Lf) (mv : List Mv) : Nat → Nat → Nat → Nat → Prop
  | refl (v i : Nat) : Go lf mv v i v i
  | step {v i k j : Nat} {x : Mv} : Go lf mv v i x.a k → x ∈ mv → lf x.p k j → Go lf mv v i x.b j
theorem Go.trans {lf : Lf} {mv : List Mv} {v i u k w j : Nat} (h : Go lf mv v i u k) (g : Go lf mv u k w j) : Go lf mv v i w j := by
  induction g with
  | refl => exact h
  | step _ hx hl ih => exact .step ih hx hl
theorem lay_sub : ∀ (t : Pt) (a b : Nat) (s : Nat × List Mv), ∀ x ∈ s.2, x ∈ (layP t a b s).2 := by
  have one : ∀ {p a b} {s : Nat × List Mv}, ∀ x ∈ s.2, x ∈ addM s.2 ⟨a, p, b⟩ := fun x hx => mem_addM.mpr (.inl hx)
  refine ptInd (fun a b s => one) (fun o w a b s => one) (fun o w a b s => one) ?_ ?_
  · intro o ps ih a b
    have alls : ∀ ps : List Pt, (∀ p ∈ ps, ∀ (a b : Nat) (s : Nat × List Mv), ∀ x ∈ s.2, x ∈ (layP p a b s).2) → ∀ (a b : Nat) (s : Nat × List Mv), ∀ x ∈ s.2, x ∈ (layA ps a b s).2 := by
      intro ps
      induction ps with
      | nil => exact fun _ a b s x hx => hx
      | cons p ps ih2 => exact fun ih a b s x hx => ih2 (fun q hq => ih q (List.mem_cons_of_mem _ hq)) a b _ x (ih p List.mem_cons_self a b s x hx)
    have rows : ∀ ps : List Pt, (∀ p ∈ ps, ∀ (a b : Nat) (s : Nat × List Mv), ∀ x ∈ s.2, x ∈ (layP p a b s).2) → ∀ (a b : Nat) (s : Nat × List Mv), ∀ x ∈ s.2, x ∈ (layR ps a b s).2 := by
      intro ps
      induction ps with
      | nil => exact fun _ a b s x hx => hx
      | cons p ps ih2 =>
        intro ih a b s x hx
        cases ps with
        | nil => exact ih p List.mem_cons_self a b s x hx
        | cons q ps => exact ih2 (fun q hq => ih q (List.mem_cons_of_mem _ hq)) s.1 b _ x (ih p List.mem_cons_self a s.1 (s.1 + 1, s.2) x hx)
    intro s
    cases o with
    | false => exact alls ps ih a b s
    | true =>
      cases ps with
      | nil => exact one
      | cons p ps => exact rows (p :: ps) ih a b s
  · intro p ih a b s x hx
    exact ih s.1 s.1 _ x (mem_addM.mpr (.inl (mem_addM.mpr (.inl hx))))
theorem layA_sub (ps : List Pt) (a b : Nat) (s : Nat × List Mv) : ∀ x ∈ s.2, x ∈ (layA ps a b s).2 := lay_sub (.seq false ps) a b s
theorem layR_sub : ∀ (ps : List Pt) (a b : Nat) (s : Nat × List Mv), ∀ x ∈ s.2, x ∈ (layR ps a b s).2
  | [], _, _, _ => fun x hx => hx
  | p :: ps, a, b, s => lay_sub (.seq true (p :: ps)) a b s
theorem cmp_lay {lf : Lf} (hst : ∀ i j, lf .stay i j ↔ i = j) {mv : List Mv} : ∀ (t : Pt) (a b : Nat) (s : Nat × List Mv), (∀ x ∈ (layP t a b s).2, x ∈ mv) → ∀ i j, Ft lf t i j → Go lf mv a i b j := by
  have one : ∀ {p : Pt} {a b : Nat} {K : List Mv}, (∀ x ∈ addM K ⟨a, p, b⟩, x ∈ mv) → ∀ i j, lf p i j → Go lf mv a i b j := fun {p a b K} h i j l =>
    .step (x := ⟨a, p, b⟩) (.refl a i) (h _ (mem_addM.mpr (.inr rfl))) l
  refine ptInd (fun a b s h i j l => one h i j l) (fun o w a b s h i j l => one h i j l) (fun o w a b s h i j l => one h i j l) ?_ ?_
  · intro o ps ih a b
    have alls : ∀ ps : List Pt, (∀ p ∈ ps, ∀ (a b : Nat) (s : Nat × List Mv), (∀ x ∈ (layP p a b s).2, x ∈ mv) → ∀ i j, Ft lf p i j → Go lf mv a i b j) → ∀ (a b : Nat) (s : Nat × List Mv), (∀ x ∈ (layA ps a b s).2, x ∈ mv) → ∀ i j, FtO lf ps i j → Go lf mv a i b j := by
      intro ps
      induction ps with
      | nil => exact fun _ a b s _ i j l => l.elim
      | cons p ps ih2 =>
        intro ih a b s h i j l
        rcases l with l | l
        · exact ih p List.mem_cons_self a b s (fun x hx => h x (layA_sub ps a b _ x hx)) i j l
        · exact ih2 (fun q hq => ih q (List.mem_cons_of_mem _ hq)) a b _ h i j l
    have rows : ∀ ps : List Pt, ps ≠ [] → (∀ p ∈ ps, ∀ (a b : Nat) (s : Nat × List Mv), (∀ x ∈ (layP p a b s).2, x ∈ mv) → ∀ i j, Ft lf p i j → Go lf mv a i b j) → ∀ (a b : Nat) (s : Nat × List Mv), (∀ x ∈ (layR ps a b s).2, x ∈ mv) → ∀ i j, FtS lf ps i j → Go lf mv a i b j := by
      intro ps
      induction ps with
      | nil => exact fun h => absurd rfl h
      | cons p ps ih2 =>
        intro _ ih a b s h i j l
        obtain ⟨k, l1, l2⟩ := l
        cases ps with
        | nil =>
          obtain rfl : k = j := l2
          exact ih p List.mem_cons_self a b s h i k l1
        | cons q ps =>
          exact (ih p List.mem_cons_self a s.1 (s.1 + 1, s.2) (fun x hx => h x (layR_sub (q :: ps) s.1 b _ x hx)) i k l1).trans (ih2 (by simp) (fun q hq => ih q (List.mem_cons_of_mem _ hq)) s.1 b _ h k j l2)
    intro s h i j l
    cases o with
    | false => exact alls ps ih a b s h i j l
    | true =>
      cases ps with
      | nil => exact one h i j ((hst i j).mpr l)
      | cons p ps => exact rows (p :: ps) (by simp) ih a b s h i j l
  · intro p ih a b s h i j l
    have m1 : (⟨a, .stay, s.1⟩ : Mv) ∈ mv := h _ (lay_sub p s.1 s.1 _ _ (mem_addM.mpr (.inl (mem_addM.mpr (.inr rfl)))))
    have m2 : (⟨s.1, .stay, b⟩ : Mv) ∈ mv := h _ (lay_sub p s.1 s.1 _ _ (mem_addM.mpr (.inr rfl)))
    have mid : ∀ {i j}, Star (Ft lf p) i j → Go lf mv s.1 i s.1 j := fun z => by
      induction z with
      | nil => exact .refl _ _
      | snoc _ r ih2 => exact ih2.trans (ih s.1 s.1 _ h _ _ r)
    exact ((Go.step (x := ⟨a, .stay, s.1⟩) (.refl a i) m1 ((hst i i).mpr rfl)).trans (mid l)).step (x := ⟨s.1, .stay, b⟩) m2 ((hst j j).mpr rfl)
/-- the machine of a pattern goes from 0 to 1 just what the pattern fits -/
theorem lay_go {lf : Lf} (hst : ∀ i j, lf .stay i j ↔ i = j) {mv : List Mv} {t : Pt} (hm : ∀ x, x ∈ mv ↔ x ∈ (layP t 0 1 (2, [])).2) (i j : Nat) : Go lf mv 0 i 1 j ↔ Ft lf t i j := by
  refine ⟨fun g => ?_, cmp_lay hst t 0 1 (2, []) (fun x hx => (hm x).mpr hx) i j⟩
  let P0 : Nat → Nat → Prop := fun v => if v = 0 then fun k => k = i else fun k => Ft lf t i k
  obtain ⟨P, e, _, h⟩ := snd_lay hst t 0 1 (2, []) P0 (by decide) (by decide) (fun i' j' x y => by
    have x : i' = i := x
    show Ft lf t i j'
    rw [← x]; exact y) fun x hx => by cases hx
  have key : ∀ {v k}, Go lf mv 0 i v k → P v k := fun g => by
    induction g with
    | refl => rw [e 0 (by show 0 < 2; decide)]; exact rfl
    | step _ hx hl ih => exact (h _ ((hm _).mp hx)).2.2 _ _ ih hl
  have := key g
  rw [e 1 (by show 1 < 2; decide)] at this
  exact this
end Rt
set_option maxRecDepth 100000
set_option maxHeartbeats 4000000
namespace Rt
open PySem PySem.Spec L2
open Rb
open Rs
open Rm
open Rc hiding N_l_pattern r_l_leaf r_l_pattern sp_l_leaf sp_l_leaf_mono sp_l_pattern sp_l_pattern_mono t_l_pattern
open ShB hiding N_l_leaf N_l_still dSeqWhile_gen r_l_leaf r_l_still sp_l_leaf sp_l_leaf_mono sp_l_still sp_l_still_mono t_l_leaf t_l_still
open Sh hiding N_l_cell_at N_l_feed N_l_leaf N_l_names N_l_pattern deeps_le deeps_mem perm_map_ex r_l_cell_at r_l_leaf r_l_pattern sp_l_leaf sp_l_leaf_mono sp_l_names sp_l_pattern sp_l_pattern_mono srt_strict t_l_cell_at t_l_feed t_l_leaf t_l_names t_l_pattern
open Dt hiding nkeys sp_l_cell_at sp_l_cell_at_mono sp_l_feed
/-! ShTh2: stands along a way; how many ways fit. -/
theorem lt_all (l : List Nat) : ∃ N, ∀ n ∈ l, n < N := by
  induction l with
  | nil => exact ⟨0, fun n h => nomatch h⟩
  | cons a l ih =>
    obtain ⟨N, h⟩ := ih
    exact ⟨max N (a + 1), fun n hn => by
      rcases List.mem_cons.mp hn with rfl | hn
      · omega
      · have := h n hn; omega⟩
theorem range_lt (N : Nat) : (List.range N).Pairwise (· < ·) := by
  rw [List.pairwise_iff_getElem]
  intro i j hi hj hij
  simpa using hij
open Classical in
theorem srtN_ex {A : Nat → Prop} {l : List Nat} (h : ∀ n, A n → n ∈ l) : ∃ L : List Nat, L.Pairwise (· < ·) ∧ ∀ n, n ∈ L ↔ A n := by
  obtain ⟨N, hN⟩ := lt_all l
  refine ⟨(List.range N).filter fun n => decide (A n), (range_lt N).sublist List.filter_sublist, fun n => ?_⟩
  rw [List.mem_filter, List.mem_range, decide_eq_true_eq]
  exact ⟨fun z => z.2, fun z => ⟨hN n (h n z), z⟩⟩
open Classical in
noncomputable def sortN (A : Nat → Prop) : List Nat := if h : ∃ L : List Nat, L.Pairwise (· < ·) ∧ ∀ n, n ∈ L ↔ A n then choose h else []
theorem sortN_is {A : Nat → Prop} (h : ∃ L : List Nat, L.Pairwise (· < ·) ∧ ∀ n, n ∈ L ↔ A n) : (sortN A).Pairwise (· < ·) ∧ ∀ n, n ∈ sortN A ↔ A n := by
  unfold sortN
  rw [dif_pos h]
  exact Classical.choose_spec h
theorem come_fin (mv : List Mv) (ms : List Str) (st : List Nat) : ∃ L : List Nat, L.Pairwise (· < ·) ∧ ∀ n, n ∈ L ↔ Come mv ms st n := srtN_ex fun n h => come_src h
theorem by_fin (mv : List Mv) (st : List Nat) (a b : Str) : ∃ L : List Nat, L.Pairwise (· < ·) ∧ ∀ n, n ∈ L ↔ ByStep mv st a b n := srtN_ex (l := mv.map (·.b)) fun n ⟨m, hm, _, _, e⟩ => List.mem_map.mpr ⟨m, hm, e⟩
noncomputable def begS (W : Wb) (mv : List Mv) (b : Nat) (x : Str) : List Nat := sortN (Come mv (wMarks W x) [b])
noncomputable def nexS (W : Wb) (mv : List Mv) (S : List Nat) (t : T3) : List Nat := sortN (Come mv (wMarks W t.2.2) (sortN (ByStep mv S t.1 t.2.1)))
/-- the leaves along a way -/
def lfW (ms : List (List Str)) (ws : List T3) : Lf := fun p i j => (i = j ∧ holdsP (ms.getD i []) p = true) ∨ (j = i + 1 ∧ ∃ t, ws[i]? = some t ∧ fitsP t.1 t.2.1 p = true)
def marksOf (W : Wb) (x : Str) (ws : List T3) : List (List Str) := (x :: ws.map (·.2.2)).map (wMarks W)
theorem marksOf_zero (W : Wb) (x : Str) (ws : List T3) : (marksOf W x ws).getD 0 [] = wMarks W x := rfl
section
variable {W : Wb} {mv : List Mv} {b : Nat} {x : Str} {ws : List T3}
end
def accW (W : Wb) (mv : List Mv) (es : List Nat) : List Nat → List T3 → Prop
  | S, [] => ∃ e ∈ es, e ∈ S
  | S, t :: ws => accW W mv es (nexS W mv S t) ws
open Classical in
noncomputable def stepsL (W : Wb) (x : Str) : List T3 := if h : ∃ st, StepsOf W x st then choose h else []
def endK : Str → List T3 → Str
  | x, [] => x
  | _, t :: ws => endK t.2.2 ws
noncomputable def waysC (W : Wb) : Nat → Str → List (List T3)
  | 0, _ => [[]]
  | n + 1, x => (stepsL W x).flatMap fun t => (waysC W n t.2.2).map (t :: ·)
open Classical in
noncomputable def howM (W : Wb) (mv : List Mv) (es : List Nat) (y : Str) : Nat → Str → List Nat → Nat
  | 0, x, S => if x = y ∧ ∃ e ∈ es, e ∈ S then 1 else 0
  | n + 1, x, S => ((stepsL W x).map fun t => howM W mv es y n t.2.2 (nexS W mv S t)).sum
open Classical in
/-- how many ways of n steps from x to y a pattern fits -/
noncomputable def cntW (W : Wb) (t : Pt) (x y : Str) (n : Nat) : Nat := ((waysC W n x).filter fun ws => decide (endK x ws = y ∧ Ft (lfW (marksOf W x ws) ws) t 0 n)).length
end Rt
set_option maxRecDepth 100000
set_option maxHeartbeats 4000000
namespace L33
open PySem PySem.Spec L2
open Rt
open Rb
open Rs
open Rm
open Rc hiding N_l_pattern r_l_leaf r_l_pattern sp_l_leaf sp_l_leaf_mono sp_l_pattern sp_l_pattern_mono t_l_pattern
open ShB hiding N_l_leaf N_l_still dSeqWhile_gen r_l_leaf r_l_still sp_l_leaf sp_l_leaf_mono sp_l_still sp_l_still_mono t_l_leaf t_l_still
open Sh hiding N_l_cell_at N_l_feed N_l_leaf N_l_names N_l_pattern deeps_le deeps_mem perm_map_ex r_l_cell_at r_l_leaf r_l_pattern sp_l_leaf sp_l_leaf_mono sp_l_names sp_l_pattern sp_l_pattern_mono srt_strict t_l_cell_at t_l_feed t_l_leaf t_l_names t_l_pattern
open Dt hiding nkeys sp_l_cell_at sp_l_cell_at_mono sp_l_feed
/-! K33p: the law's own machine of a pattern; it goes what the pattern fits. -/
mutual
/-- how the law lays a pattern from a stand: the last stand, the moves -/
def ownP : Pt → Nat → Nat × List Mv → Nat × List Mv
  | .seq true ps, a, s => ownR ps (s.1 + 1, s.2 ++ [⟨a, .stay, s.1 + 1⟩])
  | .seq false ps, a, s => ((ownA ps a s []).1.1 + 1, (ownA ps a s []).1.2 ++ (ownA ps a s []).2.map fun e => ⟨e, .stay, (ownA ps a s []).1.1 + 1⟩)
  | .many p, a, s => ((ownP p (s.1 + 1) (s.1 + 1, s.2 ++ [⟨a, .stay, s.1 + 1⟩])).1 + 1, (ownP p (s.1 + 1) (s.1 + 1, s.2 ++ [⟨a, .stay, s.1 + 1⟩])).2 ++ [⟨(ownP p (s.1 + 1) (s.1 + 1, s.2 ++ [⟨a, .stay, s.1 + 1⟩])).1, .stay, s.1 + 1⟩, ⟨s.1 + 1, .stay, (ownP p (s.1 + 1) (s.1 + 1, s.2 ++ [⟨a, .stay, s.1 + 1⟩])).1 + 1⟩])
  | .stay, a, s => (s.1 + 1, s.2 ++ [⟨a, .stay, s.1 + 1⟩])
  | .step o w, a, s => (s.1 + 1, s.2 ++ [⟨a, .step o w, s.1 + 1⟩])
  | .mark o m, a, s => (s.1 + 1, s.2 ++ [⟨a, .mark o m, s.1 + 1⟩])
def ownR : List Pt → Nat × List Mv → Nat × List Mv
  | [], s => s
  | p :: ps, s => ownR ps (ownP p s.1 s)
def ownA : List Pt → Nat → Nat × List Mv → List Nat → (Nat × List Mv) × List Nat
  | [], _, s, es => (s, es)
  | p :: ps, a, s, es => ownA ps a (ownP p a s) (es ++ [(ownP p a s).1])
end
theorem ownR_snoc (p : Pt) : ∀ (ps : List Pt) (s : Nat × List Mv), ownR (ps ++ [p]) s = ownP p (ownR ps s).1 (ownR ps s)
  | [], _ => rfl
  | q :: ps, s => ownR_snoc p ps (ownP q s.1 s)
theorem ownA_snoc (p : Pt) (a : Nat) : ∀ (ps : List Pt) (s : Nat × List Mv) (es : List Nat), ownA (ps ++ [p]) a s es = (ownP p a (ownA ps a s es).1, (ownA ps a s es).2 ++ [(ownP p a (ownA ps a s es).1).1])
  | [], _, _ => rfl
  | q :: ps, s, es => ownA_snoc p a ps (ownP q a s) (es ++ [(ownP q a s).1])
abbrev SBd (lf : Lf) (P : Nat → Nat → Prop) (s : Nat × List Mv) : Prop := ∀ x ∈ s.2, x.a ≤ s.1 ∧ x.b ≤ s.1 ∧ Closed lf P x
def SndO (lf : Lf) (own : Nat × List Mv → Nat × List Mv) (R : Nat → Nat → Prop) (a : Nat) : Prop :=
  ∀ (s : Nat × List Mv) (P0 : Nat → Nat → Prop) (T : Nat → Prop), a ≤ s.1 → (∀ i j, P0 a i → R i j → T j) → SBd lf P0 s →
    ∃ P, (∀ v, v ≤ s.1 → P v = P0 v) ∧ s.1 ≤ (own s).1 ∧ (∀ j, P (own s).1 j → T j) ∧ SBd lf P (own s)
def updP (P : Nat → Nat → Prop) (n : Nat) (T : Nat → Prop) : Nat → Nat → Prop := fun v => if v = n then T else P v
theorem updP_ne {P : Nat → Nat → Prop} {n v : Nat} {T : Nat → Prop} (h : v ≠ n) : updP P n T v = P v := by unfold updP; rw [if_neg h]
theorem updP_eq {P : Nat → Nat → Prop} {n : Nat} {T : Nat → Prop} : updP P n T n = T := by unfold updP; rw [if_pos rfl]
/-- a new stand -/
theorem SBd.up {lf : Lf} {P : Nat → Nat → Prop} {s : Nat × List Mv} (h : SBd lf P s) (T : Nat → Prop) : ∀ x ∈ s.2, x.a ≤ s.1 + 1 ∧ x.b ≤ s.1 + 1 ∧ Closed lf (updP P (s.1 + 1) T) x := fun x hx => by
  obtain ⟨h1, h2, h3⟩ := h x hx
  exact ⟨by omega, by omega, closed_cong (updP_ne (by omega)) (updP_ne (by omega)) h3⟩
theorem snd_one {lf : Lf} {p : Pt} {a : Nat} : SndO lf (fun s => (s.1 + 1, s.2 ++ [⟨a, p, s.1 + 1⟩])) (lf p) a := fun s P0 T ha hr hs =>
  ⟨updP P0 (s.1 + 1) T, fun v hv => updP_ne (by omega), Nat.le_succ _, fun j hj => by
    have hj : updP P0 (s.1 + 1) T (s.1 + 1) j := hj
    rwa [updP_eq] at hj, fun x hx => by
    rcases List.mem_append.mp hx with hx | hx
    · exact hs.up T x hx
    · obtain rfl := List.mem_singleton.mp hx
      refine ⟨by show a ≤ s.1 + 1; omega, Nat.le_refl _, fun i j hi hl => ?_⟩
      simp only at hi hl ⊢
      rw [updP_ne (by omega)] at hi
      rw [updP_eq]
      exact hr i j hi hl⟩
theorem snd_own {lf : Lf} (hst : ∀ i j, lf .stay i j ↔ i = j) : ∀ (t : Pt) (a : Nat), SndO lf (ownP t a) (Ft lf t) a := by
  refine ptInd (fun a => snd_one) (fun o w a => snd_one) (fun o w a => snd_one) ?_ ?_
  · intro o ps ih a
    have alls : ∀ ps : List Pt, (∀ p ∈ ps, ∀ a, SndO lf (ownP p a) (Ft lf p) a) → ∀ (a : Nat) (s : Nat × List Mv) (es : List Nat) (P0 : Nat → Nat → Prop) (T : Nat → Prop), a ≤ s.1 → (∀ i j, P0 a i → FtO lf ps i j → T j) → SBd lf P0 s → (∀ e ∈ es, e ≤ s.1 ∧ ∀ j, P0 e j → T j) →
        ∃ P, (∀ v, v ≤ s.1 → P v = P0 v) ∧ s.1 ≤ (ownA ps a s es).1.1 ∧ (∀ e ∈ (ownA ps a s es).2, e ≤ (ownA ps a s es).1.1 ∧ ∀ j, P e j → T j) ∧ SBd lf P (ownA ps a s es).1 := by
      intro ps
      induction ps with
      | nil => exact fun _ a s es P0 T ha hr hs he => ⟨P0, fun _ _ => rfl, Nat.le_refl _, he, hs⟩
      | cons p ps ih2 =>
        intro ih a s es P0 T ha hr hs he
        obtain ⟨P1, e1, l1, t1, h1⟩ := ih p List.mem_cons_self a s P0 T ha (fun i j x y => hr i j x (.inl y)) hs
        obtain ⟨P2, e2, l2, t2, h2⟩ := ih2 (fun q hq => ih q (List.mem_cons_of_mem _ hq)) a (ownP p a s) (es ++ [(ownP p a s).1]) P1 T (by omega) (fun i j x y => by
          rw [e1 a ha] at x
          exact hr i j x (.inr y)) h1 fun e hx => by
            rcases List.mem_append.mp hx with hx | hx
            · exact ⟨by have := (he e hx).1; omega, fun j hj => (he e hx).2 j (by rwa [e1 e (he e hx).1] at hj)⟩
            · rw [List.mem_singleton.mp hx]
              exact ⟨Nat.le_refl _, t1⟩
        exact ⟨P2, fun v hv => by rw [e2 v (by omega), e1 v hv], Nat.le_trans l1 l2, t2, h2⟩
    have rows : ∀ ps : List Pt, (∀ p ∈ ps, ∀ a, SndO lf (ownP p a) (Ft lf p) a) → ∀ (s : Nat × List Mv) (P0 : Nat → Nat → Prop) (T : Nat → Prop), (∀ i j, P0 s.1 i → FtS lf ps i j → T j) → SBd lf P0 s →
        ∃ P, (∀ v, v ≤ s.1 → P v = P0 v) ∧ s.1 ≤ (ownR ps s).1 ∧ (∀ j, P (ownR ps s).1 j → T j) ∧ SBd lf P (ownR ps s) := by
      intro ps
      induction ps with
      | nil => exact fun _ s P0 T hr hs => ⟨P0, fun _ _ => rfl, Nat.le_refl _, fun j hj => hr j j hj rfl, hs⟩
      | cons p ps ih2 =>
        intro ih s P0 T hr hs
        obtain ⟨P1, e1, l1, t1, h1⟩ := ih p List.mem_cons_self s.1 s P0 (fun j => ∃ i, P0 s.1 i ∧ Ft lf p i j) (Nat.le_refl _) (fun i j x y => ⟨i, x, y⟩) hs
        obtain ⟨P2, e2, l2, t2, h2⟩ := ih2 (fun q hq => ih q (List.mem_cons_of_mem _ hq)) (ownP p s.1 s) P1 T (fun i j x y => by
          obtain ⟨i0, x, z⟩ := t1 i x
          exact hr i0 j x ⟨i, z, y⟩) h1
        exact ⟨P2, fun v hv => by rw [e2 v (by omega), e1 v hv], Nat.le_trans l1 l2, t2, h2⟩
    intro s P0 T ha hr hs
    cases o with
    | false =>
      obtain ⟨P2, e2, l2, t2, h2⟩ := alls ps ih a s [] P0 T ha hr hs fun e he => nomatch he
      refine ⟨updP P2 ((ownA ps a s []).1.1 + 1) T, fun v hv => by rw [updP_ne (by omega), e2 v hv], by show s.1 ≤ (ownA ps a s []).1.1 + 1; omega, fun j hj => ?_, fun x hx => ?_⟩
      · have hj : updP P2 ((ownA ps a s []).1.1 + 1) T ((ownA ps a s []).1.1 + 1) j := hj
        rwa [updP_eq] at hj
      · rcases List.mem_append.mp hx with hx | hx
        · exact SBd.up h2 T x hx
        · obtain ⟨e, he, rfl⟩ := List.mem_map.mp hx
          obtain ⟨z1, z2⟩ := t2 e he
          refine ⟨by show e ≤ (ownA ps a s []).1.1 + 1; omega, Nat.le_refl _, fun i j hi hl => ?_⟩
          simp only at hi hl ⊢
          obtain rfl := (hst i j).mp hl
          rw [updP_ne (by omega)] at hi
          rw [updP_eq]
          exact z2 i hi
    | true =>
      obtain ⟨P1, e1, l1, t1, h1⟩ := snd_one (lf := lf) (p := .stay) (a := a) s P0 (P0 a) ha (fun i j x y => (hst i j).mp y ▸ x) hs
      simp only at l1 t1 h1
      obtain ⟨P2, e2, l2, t2, h2⟩ := rows ps ih (s.1 + 1, s.2 ++ [⟨a, .stay, s.1 + 1⟩]) P1 T (fun i j x y => hr i j (t1 i x) y) h1
      exact ⟨P2, fun v hv => by rw [e2 v (by show v ≤ s.1 + 1; omega), e1 v hv], Nat.le_trans l1 l2, t2, h2⟩
  · intro p ih a s P0 T ha hr hs
    let U : Nat → Prop := fun j => ∃ i, P0 a i ∧ Star (Ft lf p) i j
    have hT : ∀ j, U j → T j := fun j ⟨i, x, y⟩ => hr i j x y
    have h1 : SBd lf (updP P0 (s.1 + 1) U) (s.1 + 1, s.2 ++ [⟨a, .stay, s.1 + 1⟩]) := fun x hx => by
      rcases List.mem_append.mp hx with hx | hx
      · exact hs.up U x hx
      · obtain rfl := List.mem_singleton.mp hx
        refine ⟨by show a ≤ s.1 + 1; omega, Nat.le_refl _, fun i j hi hl => ?_⟩
        simp only at hi hl ⊢
        obtain rfl := (hst i j).mp hl
        rw [updP_ne (by omega)] at hi
        rw [updP_eq]
        exact ⟨i, hi, .nil i⟩
    obtain ⟨P2, e2, l2, t2, h2⟩ := ih (s.1 + 1) (s.1 + 1, s.2 ++ [⟨a, .stay, s.1 + 1⟩]) (updP P0 (s.1 + 1) U) U (Nat.le_refl _) (fun i j x y => by
      rw [updP_eq] at x
      obtain ⟨i0, x, z⟩ := x
      exact ⟨i0, x, .snoc z y⟩) h1
    have e3 : P2 (s.1 + 1) = U := by rw [e2 (s.1 + 1) (Nat.le_refl _), updP_eq]
    simp only at l2
    show ∃ P, (∀ v, v ≤ s.1 → P v = P0 v) ∧ s.1 ≤ (ownP p (s.1 + 1) (s.1 + 1, s.2 ++ [⟨a, .stay, s.1 + 1⟩])).1 + 1 ∧ (∀ j, P ((ownP p (s.1 + 1) (s.1 + 1, s.2 ++ [⟨a, .stay, s.1 + 1⟩])).1 + 1) j → T j) ∧ SBd lf P ((ownP p (s.1 + 1) (s.1 + 1, s.2 ++ [⟨a, .stay, s.1 + 1⟩])).1 + 1, (ownP p (s.1 + 1) (s.1 + 1, s.2 ++ [⟨a, .stay, s.1 + 1⟩])).2 ++ [⟨(ownP p (s.1 + 1) (s.1 + 1, s.2 ++ [⟨a, .stay, s.1 + 1⟩])).1, .stay, s.1 + 1⟩, ⟨s.1 + 1, .stay, (ownP p (s.1 + 1) (s.1 + 1, s.2 ++ [⟨a, .stay, s.1 + 1⟩])).1 + 1⟩])
    generalize ownP p (s.1 + 1) (s.1 + 1, s.2 ++ [⟨a, .stay, s.1 + 1⟩]) = r at l2 t2 h2 ⊢
    refine ⟨updP P2 (r.1 + 1) T, fun v hv => by rw [updP_ne (by omega), e2 v (by show v ≤ s.1 + 1; omega), updP_ne (by omega)], by omega, fun j hj => by rwa [updP_eq] at hj, fun x hx => ?_⟩
    rcases List.mem_append.mp hx with hx | hx
    · exact SBd.up h2 T x hx
    · rcases List.mem_cons.mp hx with rfl | hx
      · refine ⟨Nat.le_succ _, by show s.1 + 1 ≤ r.1 + 1; omega, fun i j hi hl => ?_⟩
        simp only at hi hl ⊢
        obtain rfl := (hst i j).mp hl
        rw [updP_ne (by omega)] at hi
        rw [updP_ne (by omega), e3]
        exact t2 i hi
      · obtain rfl := List.mem_singleton.mp hx
        refine ⟨by show s.1 + 1 ≤ r.1 + 1; omega, Nat.le_refl _, fun i j hi hl => ?_⟩
        simp only at hi hl ⊢
        obtain rfl := (hst i j).mp hl
        rw [updP_ne (by omega), e3] at hi
        rw [updP_eq]
        exact hT i hi
/-! the other way -/
theorem own_sub : ∀ (t : Pt) (a : Nat) (s : Nat × List Mv), ∀ x ∈ s.2, x ∈ (ownP t a s).2 := by
  have one : ∀ {p a b} {s : Nat × List Mv}, ∀ x ∈ s.2, x ∈ s.2 ++ [(⟨a, p, b⟩ : Mv)] := fun x hx => List.mem_append_left _ hx
  refine ptInd (fun a s => one) (fun o w a s => one) (fun o w a s => one) ?_ ?_
  · intro o ps ih a
    have alls : ∀ ps : List Pt, (∀ p ∈ ps, ∀ (a : Nat) (s : Nat × List Mv), ∀ x ∈ s.2, x ∈ (ownP p a s).2) → ∀ (a : Nat) (s : Nat × List Mv) (es : List Nat), ∀ x ∈ s.2, x ∈ (ownA ps a s es).1.2 := by
      intro ps
      induction ps with
      | nil => exact fun _ a s es x hx => hx
      | cons p ps ih2 => exact fun ih a s es x hx => ih2 (fun q hq => ih q (List.mem_cons_of_mem _ hq)) a _ _ x (ih p List.mem_cons_self a s x hx)
    have rows : ∀ ps : List Pt, (∀ p ∈ ps, ∀ (a : Nat) (s : Nat × List Mv), ∀ x ∈ s.2, x ∈ (ownP p a s).2) → ∀ (s : Nat × List Mv), ∀ x ∈ s.2, x ∈ (ownR ps s).2 := by
      intro ps
      induction ps with
      | nil => exact fun _ s x hx => hx
      | cons p ps ih2 => exact fun ih s x hx => ih2 (fun q hq => ih q (List.mem_cons_of_mem _ hq)) _ x (ih p List.mem_cons_self s.1 s x hx)
    intro s x hx
    cases o with
    | false => exact List.mem_append_left _ (alls ps ih a s [] x hx)
    | true => exact rows ps ih _ x (one x hx)
  · intro p ih a s x hx
    exact List.mem_append_left _ (ih _ _ x (one x hx))
theorem ownR_sub : ∀ (ps : List Pt) (s : Nat × List Mv), ∀ x ∈ s.2, x ∈ (ownR ps s).2
  | [], _ => fun _ hx => hx
  | p :: ps, s => fun x hx => ownR_sub ps _ x (own_sub p s.1 s x hx)
theorem ownA_sub : ∀ (ps : List Pt) (a : Nat) (s : Nat × List Mv) (es : List Nat), (∀ x ∈ s.2, x ∈ (ownA ps a s es).1.2) ∧ ∀ e ∈ es, e ∈ (ownA ps a s es).2
  | [], _, _, _ => ⟨fun _ hx => hx, fun _ hx => hx⟩
  | p :: ps, a, s, es => ⟨fun x hx => (ownA_sub ps a _ _).1 x (own_sub p a s x hx), fun e he => (ownA_sub ps a _ _).2 e (List.mem_append_left _ he)⟩
theorem cmp_own {lf : Lf} (hst : ∀ i j, lf .stay i j ↔ i = j) {mv : List Mv} : ∀ (t : Pt) (a : Nat) (s : Nat × List Mv), (∀ x ∈ (ownP t a s).2, x ∈ mv) → ∀ i j, Ft lf t i j → Go lf mv a i (ownP t a s).1 j := by
  have one : ∀ {p : Pt} {a b : Nat} {K : List Mv}, (∀ x ∈ K ++ [(⟨a, p, b⟩ : Mv)], x ∈ mv) → ∀ i j, lf p i j → Go lf mv a i b j := fun {p a b K} h i j l =>
    .step (x := ⟨a, p, b⟩) (.refl a i) (h _ (List.mem_append_right _ (List.mem_singleton.mpr rfl))) l
  refine ptInd (fun a s h i j l => one h i j l) (fun o w a s h i j l => one h i j l) (fun o w a s h i j l => one h i j l) ?_ ?_
  · intro o ps ih a
    have alls : ∀ ps : List Pt, (∀ p ∈ ps, ∀ (a : Nat) (s : Nat × List Mv), (∀ x ∈ (ownP p a s).2, x ∈ mv) → ∀ i j, Ft lf p i j → Go lf mv a i (ownP p a s).1 j) → ∀ (a : Nat) (s : Nat × List Mv) (es : List Nat), (∀ x ∈ (ownA ps a s es).1.2, x ∈ mv) → ∀ i j, FtO lf ps i j →
        ∃ e ∈ (ownA ps a s es).2, Go lf mv a i e j := by
      intro ps
      induction ps with
      | nil => exact fun _ a s es _ i j l => l.elim
      | cons p ps ih2 =>
        intro ih a s es h i j l
        rcases l with l | l
        · exact ⟨_, (ownA_sub ps a _ _).2 _ (List.mem_append_right _ (List.mem_singleton.mpr rfl)), ih p List.mem_cons_self a s (fun x hx => h x ((ownA_sub ps a _ _).1 x hx)) i j l⟩
        · exact ih2 (fun q hq => ih q (List.mem_cons_of_mem _ hq)) a _ _ h i j l
    have rows : ∀ ps : List Pt, (∀ p ∈ ps, ∀ (a : Nat) (s : Nat × List Mv), (∀ x ∈ (ownP p a s).2, x ∈ mv) → ∀ i j, Ft lf p i j → Go lf mv a i (ownP p a s).1 j) → ∀ (s : Nat × List Mv), (∀ x ∈ (ownR ps s).2, x ∈ mv) → ∀ i j, FtS lf ps i j → Go lf mv s.1 i (ownR ps s).1 j := by
      intro ps
      induction ps with
      | nil =>
        intro _ s h i j l
        obtain rfl : i = j := l
        exact .refl _ _
      | cons p ps ih2 =>
        intro ih s h i j l
        obtain ⟨k, l1, l2⟩ := l
        exact (ih p List.mem_cons_self s.1 s (fun x hx => h x (ownR_sub ps _ x hx)) i k l1).trans (ih2 (fun q hq => ih q (List.mem_cons_of_mem _ hq)) _ h k j l2)
    intro s h i j l
    cases o with
    | false =>
      obtain ⟨e, he, g⟩ := alls ps ih a s [] (fun x hx => h x (List.mem_append_left _ hx)) i j l
      exact g.step (x := ⟨e, .stay, (ownA ps a s []).1.1 + 1⟩) (h _ (List.mem_append_right _ (List.mem_map.mpr ⟨e, he, rfl⟩))) ((hst j j).mpr rfl)
    | true =>
      have h : ∀ x ∈ (ownR ps (s.1 + 1, s.2 ++ [(⟨a, .stay, s.1 + 1⟩ : Mv)])).2, x ∈ mv := h
      exact (one (p := .stay) (a := a) (b := s.1 + 1) (K := s.2) (fun x hx => h x (ownR_sub ps _ x hx)) i i ((hst i i).mpr rfl)).trans (rows ps ih (s.1 + 1, s.2 ++ [(⟨a, .stay, s.1 + 1⟩ : Mv)]) h i j l)
  · intro p ih a s h i j l
    have h : ∀ x ∈ (ownP p (s.1 + 1) (s.1 + 1, s.2 ++ [⟨a, .stay, s.1 + 1⟩])).2 ++ [(⟨(ownP p (s.1 + 1) (s.1 + 1, s.2 ++ [⟨a, .stay, s.1 + 1⟩])).1, .stay, s.1 + 1⟩ : Mv), ⟨s.1 + 1, .stay, (ownP p (s.1 + 1) (s.1 + 1, s.2 ++ [⟨a, .stay, s.1 + 1⟩])).1 + 1⟩], x ∈ mv := h
    have m1 : (⟨a, .stay, s.1 + 1⟩ : Mv) ∈ mv := h _ (List.mem_append_left _ (own_sub p _ _ _ (List.mem_append_right _ (List.mem_singleton.mpr rfl))))
    have m2 := h _ (List.mem_append_right _ List.mem_cons_self)
    have m3 := h _ (List.mem_append_right _ (List.mem_cons_of_mem _ List.mem_cons_self))
    have mid : ∀ {i j}, Star (Ft lf p) i j → Go lf mv (s.1 + 1) i (s.1 + 1) j := fun z => by
      induction z with
      | nil => exact .refl _ _
      | snoc _ r ih2 => exact (ih2.trans (ih (s.1 + 1) (s.1 + 1, s.2 ++ [⟨a, .stay, s.1 + 1⟩]) (fun x hx => h x (List.mem_append_left _ hx)) _ _ r)).step m2 ((hst _ _).mpr rfl)
    exact ((Go.step (x := ⟨a, .stay, s.1 + 1⟩) (.refl a i) m1 ((hst i i).mpr rfl)).trans (mid l)).step m3 ((hst j j).mpr rfl)
/-- the law's own machine goes from 0 to its last stand just what the pattern fits -/
theorem own_go {lf : Lf} (hst : ∀ i j, lf .stay i j ↔ i = j) {t : Pt} (i j : Nat) : Go lf (ownP t 0 (0, [])).2 0 i (ownP t 0 (0, [])).1 j ↔ Ft lf t i j := by
  refine ⟨fun g => ?_, cmp_own hst t 0 (0, []) (fun x hx => hx) i j⟩
  obtain ⟨P, e, _, tt, h⟩ := snd_own hst t 0 (0, []) (fun _ k => k = i) (fun k => Ft lf t i k) (Nat.le_refl _) (fun i' j' x y => by
    have x : i' = i := x
    rw [← x]; exact y) fun x hx => by cases hx
  have key : ∀ {v k}, Go lf (ownP t 0 (0, [])).2 0 i v k → P v k := fun g => by
    induction g with
    | refl => rw [e 0 (Nat.le_refl _)]
    | step _ hx hl ih => exact (h _ hx).2.2 _ _ ih hl
  exact tt j (key g)
/-! sizes -/
mutual
def lvs : Pt → List Pt
  | .seq _ ps => lvsS ps
  | .many p => lvs p
  | .stay => [.stay]
  | .step o w => [.step o w]
  | .mark o w => [.mark o w]
def lvsS : List Pt → List Pt
  | [] => []
  | p :: ps => lvs p ++ lvsS ps
end
theorem lvsS_flat : ∀ ps : List Pt, lvsS ps = ps.flatMap lvs
  | [] => rfl
  | p :: ps => by show lvs p ++ lvsS ps = _; rw [lvsS_flat ps]; rfl
def isSt : Pt → Bool
  | .step _ _ => true
  | _ => false
abbrev cntS (l : List Mv) : Nat := (l.filter fun m => isSt m.p).length
theorem cntS_app (a b : List Mv) : cntS (a ++ b) = cntS a + cntS b := by unfold cntS; rw [List.filter_append, List.length_append]
theorem cntS_addM (K : List Mv) (x : Mv) : cntS (addM K x) ≤ cntS K + (if isSt x.p then 1 else 0) := by
  unfold addM
  split
  · omega
  · rw [cntS_app]
    by_cases h : isSt x.p = true <;> simp [cntS, h]
theorem own_cnt : ∀ (t : Pt) (a : Nat) (s : Nat × List Mv), cntS (ownP t a s).2 ≤ cntS s.2 + (lvs t).length := by
  refine ptInd (fun a s => by show cntS (_ ++ _) ≤ _; rw [cntS_app]; simp [cntS, lvs, isSt]) (fun o w a s => by show cntS (_ ++ _) ≤ _; rw [cntS_app]; simp [cntS, lvs, isSt]) (fun o w a s => by show cntS (_ ++ _) ≤ _; rw [cntS_app]; simp [cntS, lvs, isSt]) ?_ ?_
  · intro o ps ih a
    have alls : ∀ ps : List Pt, (∀ p ∈ ps, ∀ (a : Nat) (s : Nat × List Mv), cntS (ownP p a s).2 ≤ cntS s.2 + (lvs p).length) → ∀ (a : Nat) (s : Nat × List Mv) (es : List Nat), cntS (ownA ps a s es).1.2 ≤ cntS s.2 + (lvsS ps).length := by
      intro ps
      induction ps with
      | nil => exact fun _ a s es => Nat.le_refl _
      | cons p ps ih2 =>
        intro ih a s es
        have h1 := ih2 (fun q hq => ih q (List.mem_cons_of_mem _ hq)) a (ownP p a s) (es ++ [(ownP p a s).1])
        have h2 := ih p List.mem_cons_self a s
        show cntS (ownA ps a (ownP p a s) (es ++ [(ownP p a s).1])).1.2 ≤ cntS s.2 + (lvs p ++ lvsS ps).length
        rw [List.length_append]; omega
    have rows : ∀ ps : List Pt, (∀ p ∈ ps, ∀ (a : Nat) (s : Nat × List Mv), cntS (ownP p a s).2 ≤ cntS s.2 + (lvs p).length) → ∀ (s : Nat × List Mv), cntS (ownR ps s).2 ≤ cntS s.2 + (lvsS ps).length := by
      intro ps
      induction ps with
      | nil => exact fun _ s => Nat.le_refl _
      | cons p ps ih2 =>
        intro ih s
        have h1 := ih2 (fun q hq => ih q (List.mem_cons_of_mem _ hq)) (ownP p s.1 s)
        have h2 := ih p List.mem_cons_self s.1 s
        show cntS (ownR ps (ownP p s.1 s)).2 ≤ cntS s.2 + (lvs p ++ lvsS ps).length
        rw [List.length_append]; omega
    intro s
    cases o with
    | false =>
      have := alls ps ih a s []
      show cntS ((ownA ps a s []).1.2 ++ _) ≤ cntS s.2 + (lvsS ps).length
      rw [cntS_app]
      have : cntS ((ownA ps a s []).2.map fun e => (⟨e, .stay, (ownA ps a s []).1.1 + 1⟩ : Mv)) = 0 := by
        unfold cntS
        rw [List.filter_map, List.length_map, List.length_eq_zero_iff, List.filter_eq_nil_iff]
        intro e _
        simp [isSt]
      omega
    | true =>
      have := rows ps ih (s.1 + 1, s.2 ++ [⟨a, .stay, s.1 + 1⟩])
      simp only [cntS_app] at this
      have e : cntS [(⟨a, .stay, s.1 + 1⟩ : Mv)] = 0 := rfl
      show cntS (ownR ps (s.1 + 1, s.2 ++ [⟨a, .stay, s.1 + 1⟩])).2 ≤ cntS s.2 + (lvsS ps).length
      omega
  · intro p ih a s
    have := ih (s.1 + 1) (s.1 + 1, s.2 ++ [⟨a, .stay, s.1 + 1⟩])
    show cntS (_ ++ _) ≤ cntS s.2 + (lvs p).length
    simp only [cntS_app] at this ⊢
    have e : cntS [(⟨a, .stay, s.1 + 1⟩ : Mv)] = 0 := rfl
    have e2 : ∀ x y z, cntS [(⟨x, .stay, y⟩ : Mv), ⟨y, .stay, z⟩] = 0 := fun x y z => rfl
    rw [e2]; omega
theorem lay_cnt : ∀ (t : Pt) (a b : Nat) (s : Nat × List Mv), cntS (layP t a b s).2 ≤ cntS s.2 + (lvs t).length := by
  have one : ∀ {p : Pt} {a b : Nat} {K : List Mv} {n : Nat}, (if isSt p then 1 else 0) ≤ n → cntS (addM K ⟨a, p, b⟩) ≤ cntS K + n := fun {p a b K n} h => by
    have := cntS_addM K ⟨a, p, b⟩
    simp only at this
    omega
  refine ptInd (fun a b s => one (n := 1) (by decide)) (fun o w a b s => one (n := 1) (by simp [isSt])) (fun o w a b s => one (n := 1) (by simp [isSt])) ?_ ?_
  · intro o ps ih a b
    have alls : ∀ ps : List Pt, (∀ p ∈ ps, ∀ (a b : Nat) (s : Nat × List Mv), cntS (layP p a b s).2 ≤ cntS s.2 + (lvs p).length) → ∀ (a b : Nat) (s : Nat × List Mv), cntS (layA ps a b s).2 ≤ cntS s.2 + (lvsS ps).length := by
      intro ps
      induction ps with
      | nil => exact fun _ a b s => Nat.le_refl _
      | cons p ps ih2 =>
        intro ih a b s
        have h1 := ih2 (fun q hq => ih q (List.mem_cons_of_mem _ hq)) a b (layP p a b s)
        have h2 := ih p List.mem_cons_self a b s
        show cntS (layA ps a b (layP p a b s)).2 ≤ cntS s.2 + (lvs p ++ lvsS ps).length
        rw [List.length_append]; omega
    have rows : ∀ ps : List Pt, (∀ p ∈ ps, ∀ (a b : Nat) (s : Nat × List Mv), cntS (layP p a b s).2 ≤ cntS s.2 + (lvs p).length) → ∀ (a b : Nat) (s : Nat × List Mv), cntS (layR ps a b s).2 ≤ cntS s.2 + (lvsS ps).length := by
      intro ps
      induction ps with
      | nil => exact fun _ a b s => Nat.le_refl _
      | cons p ps ih2 =>
        intro ih a b s
        cases ps with
        | nil =>
          have := ih p List.mem_cons_self a b s
          show cntS (layP p a b s).2 ≤ cntS s.2 + (lvs p ++ []).length
          rwa [List.append_nil]
        | cons q ps =>
          have h1 := ih2 (fun q hq => ih q (List.mem_cons_of_mem _ hq)) s.1 b (layP p a s.1 (s.1 + 1, s.2))
          have h2 := ih p List.mem_cons_self a s.1 (s.1 + 1, s.2)
          show cntS (layR (q :: ps) s.1 b (layP p a s.1 (s.1 + 1, s.2))).2 ≤ cntS s.2 + (lvs p ++ lvsS (q :: ps)).length
          rw [List.length_append]; simp only at h2; omega
    intro s
    cases o with
    | false => exact alls ps ih a b s
    | true =>
      cases ps with
      | nil => exact one (by decide)
      | cons p ps => exact rows (p :: ps) ih a b s
  · intro p ih a b s
    have h1 := ih s.1 s.1 (s.1 + 1, addM (addM s.2 ⟨a, .stay, s.1⟩) ⟨s.1, .stay, b⟩)
    have h2 : cntS (addM s.2 ⟨a, .stay, s.1⟩) ≤ cntS s.2 + 0 := one (by decide)
    have h3 : cntS (addM (addM s.2 ⟨a, .stay, s.1⟩) ⟨s.1, .stay, b⟩) ≤ cntS (addM s.2 ⟨a, .stay, s.1⟩) + 0 := one (by decide)
    show cntS (layP p s.1 s.1 (s.1 + 1, addM (addM s.2 ⟨a, .stay, s.1⟩) ⟨s.1, .stay, b⟩)).2 ≤ cntS s.2 + (lvs p).length
    simp only at h1
    omega
theorem own_len : ∀ (t : Pt) (a : Nat) (s : Nat × List Mv), (ownP t a s).2.length + 1 ≤ s.2.length + 4 * t.all.length := by
  refine ptInd (fun a s => by show (_ ++ _ : List Mv).length + 1 ≤ _ + 4 * 1; simp) (fun o w a s => by show (_ ++ _ : List Mv).length + 1 ≤ _ + 4 * 1; simp) (fun o w a s => by show (_ ++ _ : List Mv).length + 1 ≤ _ + 4 * 1; simp) ?_ ?_
  · intro o ps ih a
    have alls : ∀ ps : List Pt, (∀ p ∈ ps, ∀ (a : Nat) (s : Nat × List Mv), (ownP p a s).2.length + 1 ≤ s.2.length + 4 * p.all.length) → ∀ (a : Nat) (s : Nat × List Mv) (es : List Nat), (ownA ps a s es).1.2.length + ps.length ≤ s.2.length + 4 * (Pt.alls ps).length ∧ (ownA ps a s es).2.length = es.length + ps.length := by
      intro ps
      induction ps with
      | nil => exact fun _ a s es => ⟨by show s.2.length + 0 ≤ _; omega, rfl⟩
      | cons p ps ih2 =>
        intro ih a s es
        obtain ⟨h1, h3⟩ := ih2 (fun q hq => ih q (List.mem_cons_of_mem _ hq)) a (ownP p a s) (es ++ [(ownP p a s).1])
        have h2 := ih p List.mem_cons_self a s
        rw [List.length_append] at h3
        refine ⟨?_, by show (ownA ps a (ownP p a s) (es ++ [(ownP p a s).1])).2.length = _; rw [h3]; simp; omega⟩
        show (ownA ps a (ownP p a s) (es ++ [(ownP p a s).1])).1.2.length + (p :: ps).length ≤ s.2.length + 4 * (p.all ++ Pt.alls ps).length
        rw [List.length_append, List.length_cons]; omega
    have rows : ∀ ps : List Pt, (∀ p ∈ ps, ∀ (a : Nat) (s : Nat × List Mv), (ownP p a s).2.length + 1 ≤ s.2.length + 4 * p.all.length) → ∀ (s : Nat × List Mv), (ownR ps s).2.length ≤ s.2.length + 4 * (Pt.alls ps).length := by
      intro ps
      induction ps with
      | nil => exact fun _ s => Nat.le_add_right _ _
      | cons p ps ih2 =>
        intro ih s
        have h1 := ih2 (fun q hq => ih q (List.mem_cons_of_mem _ hq)) (ownP p s.1 s)
        have h2 := ih p List.mem_cons_self s.1 s
        show (ownR ps (ownP p s.1 s)).2.length ≤ s.2.length + 4 * (p.all ++ Pt.alls ps).length
        rw [List.length_append]; omega
    intro s
    have ea : (Pt.seq o ps).all.length = 1 + (Pt.alls ps).length := by
      show (Pt.seq o ps :: Pt.alls ps).length = _
      rw [List.length_cons]; omega
    rw [ea]
    cases o with
    | false =>
      obtain ⟨h1, h2⟩ := alls ps ih a s []
      show ((ownA ps a s []).1.2 ++ _ : List Mv).length + 1 ≤ _
      rw [List.length_append, List.length_map, h2]
      simp only [List.length_nil]
      omega
    | true =>
      have := rows ps ih (s.1 + 1, s.2 ++ [⟨a, .stay, s.1 + 1⟩])
      simp only [List.length_append, List.length_cons, List.length_nil] at this
      show (ownR ps (s.1 + 1, s.2 ++ [⟨a, .stay, s.1 + 1⟩])).2.length + 1 ≤ _
      omega
  · intro p ih a s
    have := ih (s.1 + 1) (s.1 + 1, s.2 ++ [⟨a, .stay, s.1 + 1⟩])
    simp only [List.length_append, List.length_cons, List.length_nil] at this
    have ea : (Pt.many p).all.length = 1 + p.all.length := by
      show (Pt.many p :: p.all).length = _
      rw [List.length_cons]; omega
    rw [ea]
    show (_ ++ _ : List Mv).length + 1 ≤ _
    simp only [List.length_append, List.length_cons, List.length_nil]
    omega
end L33
set_option maxRecDepth 100000
set_option maxHeartbeats 4000000
namespace L33
open PySem PySem.Spec L2
open Rt
open Rb
open Rs
open Rm
open Rc hiding N_l_pattern r_l_leaf r_l_pattern sp_l_leaf sp_l_leaf_mono sp_l_pattern sp_l_pattern_mono t_l_pattern
open ShB hiding N_l_leaf N_l_still dSeqWhile_gen r_l_leaf r_l_still sp_l_leaf sp_l_leaf_mono sp_l_still sp_l_still_mono t_l_leaf t_l_still
open Sh hiding N_l_cell_at N_l_feed N_l_leaf N_l_names N_l_pattern deeps_le deeps_mem perm_map_ex r_l_cell_at r_l_leaf r_l_pattern sp_l_leaf sp_l_leaf_mono sp_l_names sp_l_pattern sp_l_pattern_mono srt_strict t_l_cell_at t_l_feed t_l_leaf t_l_names t_l_pattern
open Dt hiding nkeys sp_l_cell_at sp_l_cell_at_mono sp_l_feed
/-! K33q: words of marks and steps; both machines come to their ends by the same. -/
/-- newest first: the marks that held, the step's side and word -/
abbrev Wd := List (List Str × Str × Str)
noncomputable def pre (mv : List Mv) (b : Nat) : Wd → List Nat
  | [] => [b]
  | (ms, sd, w) :: us => sortN (ByStep mv (sortN (Come mv ms (pre mv b us))) sd w)
def lfR0 : Wd → List Str → Lf
  | [], m, p, i, j => i = 0 ∧ j = 0 ∧ holdsP m p = true
  | (m1, sd, w) :: us, m, p, i, j => lfR0 us m1 p i j ∨ (i = us.length ∧ j = us.length + 1 ∧ fitsP sd w p = true) ∨ (i = us.length + 1 ∧ j = us.length + 1 ∧ holdsP m p = true)
def lfR (us : Wd) (m : List Str) : Lf := fun p i j => lfR0 us m p i j ∨ (p = .stay ∧ i = j)
theorem lfR0_le : ∀ {us : Wd} {m : List Str} {p : Pt} {i j : Nat}, lfR0 us m p i j → i ≤ us.length ∧ j ≤ us.length ∧ (p = .stay → i = j)
  | [], _, _, _, _, h => by
    obtain ⟨rfl, rfl, _⟩ := h
    exact ⟨Nat.le_refl _, Nat.le_refl _, fun _ => rfl⟩
  | (m1, sd, w) :: us, m, p, i, j, h => by
    rcases h with h | ⟨rfl, rfl, h⟩ | ⟨rfl, rfl, _⟩
    · obtain ⟨h1, h2, h3⟩ := lfR0_le h
      exact ⟨Nat.le_succ_of_le h1, Nat.le_succ_of_le h2, h3⟩
    · exact ⟨Nat.le_succ _, Nat.le_refl _, fun e => by rw [e] at h; cases h⟩
    · exact ⟨Nat.le_refl _, Nat.le_refl _, fun _ => rfl⟩
theorem lfR_stay {us : Wd} {m : List Str} (i j : Nat) : lfR us m .stay i j ↔ i = j :=
  ⟨fun h => h.elim (fun h => (lfR0_le h).2.2 rfl) fun h => h.2, fun h => .inr ⟨rfl, h⟩⟩
theorem lfR0_hold : ∀ (us : Wd) {m : List Str} {p : Pt}, holdsP m p = true → lfR0 us m p us.length us.length
  | [], _, _, h => ⟨rfl, rfl, h⟩
  | (_, _, _) :: _, _, _, h => .inr (.inr ⟨rfl, rfl, h⟩)
theorem go_mono {lf lf' : Lf} {mv : List Mv} (h : ∀ p i j, lf p i j → lf' p i j) {a i b j : Nat} (g : Go lf mv a i b j) : Go lf' mv a i b j := by
  induction g with
  | refl => exact .refl _ _
  | step _ hx hl ih => exact .step ih hx (h _ _ _ hl)
theorem clo_go {mv : List Mv} {b : Nat} : ∀ (us : Wd) (m : List Str) (v : Nat), Come mv m (pre mv b us) v ↔ Go (lfR us m) mv b 0 v us.length
  | [], m, v => by
    constructor
    · intro c
      induction c with
      | start h => rw [List.mem_singleton.mp h]; exact .refl b 0
      | move hm _ hp ih => exact .step ih hm (.inl ⟨rfl, rfl, hp⟩)
    · intro g
      have key : ∀ {v k}, Go (lfR [] m) mv b 0 v k → k = 0 ∧ Come mv m [b] v := fun g => by
        induction g with
        | refl => exact ⟨rfl, .start (List.mem_singleton.mpr rfl)⟩
        | step _ hx hl ih =>
          rcases hl with ⟨_, e, hp⟩ | ⟨e, e2⟩
          · exact ⟨e, .move hx ih.2 hp⟩
          · exact ⟨by omega, .move hx ih.2 (by rw [e]; rfl)⟩
      exact (key g).2
  | (m1, sd, w) :: us, m, v => by
    have ih0 := clo_go us m1 (mv := mv) (b := b)
    have hB := fun n => (sortN_is (by_fin mv (sortN (Come mv m1 (pre mv b us))) sd w)).2 n
    have hC := fun n => (sortN_is (come_fin mv m1 (pre mv b us))).2 n
    have up : ∀ p i j, lfR us m1 p i j → lfR ((m1, sd, w) :: us) m p i j := fun p i j h => h.elim (fun h => .inl (.inl h)) .inr
    constructor
    · intro c
      induction c with
      | start h =>
        obtain ⟨x, hx, ha, hf, rfl⟩ := (hB _).mp h
        exact (go_mono up ((ih0 _).mp ((hC _).mp ha))).step hx (.inl (.inr (.inl ⟨rfl, rfl, hf⟩)))
      | move hm _ hp ih => exact .step ih hm (.inl (lfR0_hold ((m1, sd, w) :: us) hp))
    · intro g
      have key : ∀ {v k}, Go (lfR ((m1, sd, w) :: us) m) mv b 0 v k → (k ≤ us.length ∧ Go (lfR us m1) mv b 0 v k) ∨ (k = us.length + 1 ∧ Come mv m (pre mv b ((m1, sd, w) :: us)) v) := fun g => by
        induction g with
        | refl => exact .inl ⟨Nat.zero_le _, .refl _ _⟩
        | step _ hx hl ih =>
          rcases ih with ⟨l, ih⟩ | ⟨l, ih⟩
          · rcases hl with (hl | ⟨e1, e2, hf⟩ | ⟨e1, _, _⟩) | ⟨e, e2⟩
            · exact .inl ⟨(lfR0_le hl).2.1, .step ih hx (.inl hl)⟩
            · refine .inr ⟨e2, .start ((hB _).mpr ⟨_, hx, (hC _).mpr ((ih0 _).mpr ?_), hf, rfl⟩)⟩
              rw [← e1]; exact ih
            · omega
            · exact .inl ⟨by omega, .step ih hx (.inr ⟨e, e2⟩)⟩
          · rcases hl with (hl | ⟨e1, e2, hf⟩ | ⟨e1, e2, hp⟩) | ⟨e, e2⟩
            · have := (lfR0_le hl).1; omega
            · omega
            · exact .inr ⟨e2, .move hx ih hp⟩
            · exact .inr ⟨by omega, .move hx ih (by rw [e]; rfl)⟩
      rcases key g with ⟨l, _⟩ | ⟨_, h⟩
      · have l : us.length + 1 ≤ us.length := l
        omega
      · exact h
/-- both machines of a pattern have an end by the same -/
theorem end_alike {t : Pt} {mv : List Mv} (hm : ∀ x, x ∈ mv ↔ x ∈ (layP t 0 1 (2, [])).2) (us : Wd) (m : List Str) :
    Come mv m (pre mv 0 us) 1 ↔ Come (ownP t 0 (0, [])).2 m (pre (ownP t 0 (0, [])).2 0 us) (ownP t 0 (0, [])).1 :=
  (clo_go us m 1).trans ((lay_go lfR_stay hm 0 us.length).trans ((own_go lfR_stay 0 us.length).symm.trans (clo_go us m _).symm))
/-! so many sets of stands there are at most -/
def subs {α : Type} : List α → List (List α)
  | [] => [[]]
  | a :: l => subs l ++ (subs l).map (a :: ·)
theorem subs_len {α : Type} : ∀ l : List α, (subs l).length = 2 ^ l.length
  | [] => rfl
  | a :: l => by
    show (subs l ++ (subs l).map (a :: ·)).length = 2 ^ (l.length + 1)
    rw [List.length_append, List.length_map, subs_len l, Nat.pow_succ]; omega
theorem filter_subs {α : Type} (p : α → Bool) : ∀ l : List α, l.filter p ∈ subs l
  | [] => List.mem_singleton.mpr rfl
  | a :: l => by
    show _ ∈ subs l ++ (subs l).map (a :: ·)
    rw [List.filter_cons]
    split
    · exact List.mem_append_right _ (List.mem_map.mpr ⟨_, filter_subs p l, rfl⟩)
    · exact List.mem_append_left _ (filter_subs p l)
noncomputable def cand (mv : List Mv) (b : Nat) : List (List Nat) := [b] :: (subs (mv.filter fun m => isSt m.p)).map fun l => sortN fun n => ∃ m ∈ l, m.b = n
theorem cand_len (mv : List Mv) (b : Nat) : (cand mv b).length = 2 ^ cntS mv + 1 := by
  unfold cand
  rw [List.length_cons, List.length_map, subs_len]
theorem pre_cand (mv : List Mv) (b : Nat) : ∀ us : Wd, pre mv b us ∈ cand mv b
  | [] => List.mem_cons_self
  | (ms, sd, w) :: us => by
    refine List.mem_cons_of_mem _ (List.mem_map.mpr ⟨_, filter_subs (fun m => decide (m.a ∈ sortN (Come mv ms (pre mv b us))) && fitsP sd w m.p) _, ?_⟩)
    show _ = sortN (ByStep mv (sortN (Come mv ms (pre mv b us))) sd w)
    congr 1
    funext n
    refine propext ⟨?_, ?_⟩
    · rintro ⟨m, hm, e⟩
      simp only [List.mem_filter, Bool.and_eq_true, decide_eq_true_eq] at hm
      exact ⟨m, hm.1.1, hm.2.1, hm.2.2, e⟩
    · rintro ⟨m, hm, ha, hf, e⟩
      refine ⟨m, ?_, e⟩
      simp only [List.mem_filter, Bool.and_eq_true, decide_eq_true_eq]
      refine ⟨⟨hm, ?_⟩, ha, hf⟩
      cases hp : m.p <;> rw [hp] at hf <;> first | rfl | cases hf
theorem nodup_len3 {α : Type} : ∀ {xs ys : List α}, xs.Nodup → (∀ x ∈ xs, x ∈ ys) → xs.length ≤ ys.length := by
  classical
  intro xs
  induction xs with
  | nil => exact fun _ _ => Nat.zero_le _
  | cons x xs ih =>
    intro ys nd h
    obtain ⟨n1, n2⟩ := List.nodup_cons.mp nd
    have h1 := ih (ys := ys.erase x) n2 fun y hy => (List.mem_erase_of_ne fun e : y = x => n1 (e ▸ hy)).mpr (h y (List.mem_cons_of_mem _ hy))
    have hx := h x List.mem_cons_self
    have e := List.length_erase_of_mem hx
    have : 0 < ys.length := List.length_pos_of_mem hx
    rw [List.length_cons]; omega
abbrev PrN := List Nat × List Nat
theorem prs_few {m1 m2 : List Mv} {E : List PrN} (nd : E.Nodup) (h : ∀ x ∈ E, x.1 ∈ cand m1 0 ∧ x.2 ∈ cand m2 0) : E.length ≤ (2 ^ cntS m1 + 1) * (2 ^ cntS m2 + 1) := by
  have h2 : ∀ x ∈ E, x ∈ (cand m1 0).flatMap fun a => (cand m2 0).map fun b => (a, b) := fun x hx => List.mem_flatMap.mpr ⟨x.1, (h x hx).1, List.mem_map.mpr ⟨x.2, (h x hx).2, rfl⟩⟩
  have := nodup_len3 nd h2
  rw [List.length_flatMap] at this
  have e : (List.map (fun a => ((cand m2 0).map fun b => (a, b)).length) (cand m1 0)).sum = (cand m1 0).length * (cand m2 0).length := by
    simp only [List.length_map]
    generalize (cand m2 0).length = n
    generalize cand m1 0 = l
    induction l with
    | nil => simp
    | cons a l ih => rw [List.map_cons, List.sum_cons, ih, List.length_cons, Nat.add_mul]; omega
  rw [e, cand_len, cand_len] at this
  exact this
end L33
set_option maxRecDepth 100000
set_option maxHeartbeats 4000000
/-! DatDp: dict(list of pairs), keys tuples. -/
namespace Dt
open PySem PySem.Spec L2 PySem.W
def ptAll (acc kvs : List (D × D)) : List (D × D) := kvs.foldl (fun a p => pt a p.1 p.2) acc
theorem RX.all {K : PySem.W.Frag} {H : Hp} : ∀ {kvs acc : List (D × D)} {ps xs : List (NestedKey × Addr × Value)}, RX K H acc xs → RX K H kvs ps → RX K H (ptAll acc kvs) (storedAllH xs ps)
  | [], _, _, _, h, hp => by cases hp; exact h
  | (k, d) :: kvs, acc, _, xs, h, ⟨nk, b, u, s, e, ⟨e1, e2, r1, v, r2, r3⟩, hp⟩ => by
    subst e
    show RX K H (ptAll (Dt.pt acc k d) kvs) (storedAllH (storedH xs nk b u) s)
    exact RX.all (h.pt e1 e2 r1 r2 r3) hp
@[simp] def cDictP : RCD := fun ds S Q => match ds with
  | [d] => opt (seqD S d) fun xs => ∃ kvs : List (D × D), xs = kvs.map (fun p => .tup [p.1, p.2]) ∧ (∀ p ∈ kvs, okT p.1 = true) ∧ newO S (.dN (ptAll [] kvs)) fun p S' => Q (.ref p) S'
  | _ => False
section
variable {X : Cx} {pins : List (Addr × Obj)} {σ : L2.St} {H : Hp} {s : Shared}
end
section
variable {X : Cx}
end
end Dt
set_option maxRecDepth 100000
set_option maxHeartbeats 4000000
/-! DatDd: {k: v}, one pair, the key a tuple. -/
namespace Dt
open PySem PySem.Spec L2 PyProof.Rows
section
variable {X : Cx} {pos : Pos}
@[simp] def dDispN (tk tv : DTE) : DTE := fun E τ S Q => newO S (.dN []) fun p S1 => tk E τ S1 fun k S2 => tv E τ S2 fun d S3 => S3 p = some (.dN []) ∧ okT k = true ∧ Q (.ref p) (upo S3 p (.dN [(k, d)]))
theorem de_dispN {k v : Expr} {tk tv : DTE} (hu : X.A.units + 64 < cLine) (hk : DE X k tk) (hv : DE X v tv) : DE X (.Dict [some k] [v] pos) (dDispN tk tv) := by
  refine ⟨fun E E' τ S Q Q' he m q p hp => hk.mono _ _ _ _ _ _ he (fun _ _ z => hv.mono _ _ _ _ _ _ he (fun _ _ z => ⟨z.1, z.2.1, m _ _ z.2.2⟩) z) (q p hp), ⟨fun pins s σ H Q I ⟨E, τ, S, w, r, q⟩ => ?_⟩⟩
  have hp : H s.heap.objs.size = none := I.hok.fresh (Nat.le_refl _)
  have ok : RawRows X.w [] s.heap.objs.size (s.heap.push { cls := .type "dict", data := .dict #[] }) := by
    obtain ⟨z1, z2, _⟩ := dt_empty (P := X.prog) (w := X.w) (H := H) s.heap I.big
    exact ⟨z2, _, #[], 0, Heap.get?_push_size _ rfl, ⟨rfl, rfl, rfl⟩, rfl, .nil⟩
  have le0 : LeH H (upd H s.heap.objs.size (dnHO X.w [] s.heap.objs.size)) := LeH.new hp
  have I1 := I.laid (a := s.heap.objs.size) (o := dnHO X.w [] s.heap.objs.size) (h' := s.heap.push { cls := .type "dict", data := .dict #[] }) (t' := s.toks) (fun _ _ q => Heap.get?_push_of_some _ q) (Nat.le_refl _) ⟨ok, ⟨_, Heap.get?_push_size _ rfl⟩, fun h1 h2 z k => by
    obtain ⟨z1, o', es', ep', q1, q2⟩ := z
    exact ⟨z1, o', es', ep', k _ q1, q2⟩⟩
  have r0 : Rel X.w X.K τ (upo S s.heap.objs.size (.dN [])) σ (upd H s.heap.objs.size (dnHO X.w [] s.heap.objs.size)) := r.le le0 (r.rep.new hp (o := .dN []) ⟨[], upd_same, Nat.zero_le _, .nil, rfl⟩)
  rw [arm_eval_Dict, zip_pairTrees _ _ _ _ rfl rfl, dictDisplay_pairs (pairTrees [some k] [v] X.env pos) (fun z => nomatch z) (by rw [pairTrees_length _ _ _ _ rfl rfl]; show 1 < 17; omega)]
  refine wpAny_bind (wpAny_standAt (wpAny_bind (wpAny_subDictH (knd := nestedKind X.prog X.w) (Q := fun d s' => wpAny (model X.prog X.w) X.A (pure (Value.ref d)) (EP X pins σ Q) X.xe s') (by show X.A.units + 8 < cLine; omega) (by rw [pairTrees_length _ _ _ _ rfl rfl]; show 1 ≤ _; omega) ?_)))
  refine thn ((pps_cons hk.run hv.run pps_nil).run pins _ σ _ (fun ps H3 => ∃ x y kd d S3, ps = [(x, y)] ∧ Wish X E H3 ∧ Rel X.w X.K τ S3 σ H3 ∧ RD X.K H3 kd x ∧ RD X.K H3 d y ∧ LeH H H3 ∧ S3 s.heap.objs.size = some (.dN []) ∧ okT kd = true ∧ ∀ (v : V) (H' : Hp), LeH H H' → Rep X.w X.K (upo S3 s.heap.objs.size (.dN [(kd, d)])) H' → RD X.K H' (.ref s.heap.objs.size) v → Q v H') I1
    (hk.to (w.le le0) r0 (q _ (r.rep.free hp)) fun kd S1 x H1 le1 w1 r1 rd1 z => hv.to w1 r1 z fun d S2 y H2 le2 w2 r2 rd2 z => ⟨x, y, kd, d, S2, rfl, w2, r2, rd1.le le2, rd2, le0.trans (le1.trans le2), z.1, z.2.1, z.2.2⟩)) fun ws s3 ⟨ps, H3, I3, vv, x, y, kd, d, S3, e, w3, r3, rdk, rdd, le3, e3, hok, z⟩ => ?_
  subst e
  cases vv with
  | @cons a bq as bs rel t =>
  cases t
  obtain ⟨u1, u2⟩ := bq
  obtain ⟨rel1, rel2⟩ := rel
  have rob : ROb X.w X.K H3 s.heap.objs.size (.dN []) := r3.rep _ _ e3
  obtain ⟨xs, dd, rx', hsys, _, nd, mu⟩ := dn_open I3 rob
  obtain ⟨nk, b, ek, hd8, rfl, e2, his⟩ := okT_key I3 hok rdk rel1
  have e2 : u1 = .ref b := e2
  subst e2
  cases rx'
  refine ⟨[(nk, b, u2)], ⟨rfl, rfl, his, trivial⟩, dd, fun h' tk dd' sb => wpAny_pure ?_⟩
  have rx0 : RX X.K H3 [] [] := rfl
  obtain ⟨rows, I4, le4, rb4⟩ := dn_close (t := tk) I3 mu hsys (rx0.pt ek hd8 rdk rel2 rdd) (by rw [sizeLine_eq]; show 1 ≤ _; omega) (pt_nodup kd d .nil) dd' sb
  obtain ⟨u3, e3'⟩ : ∃ u, H3 s.heap.objs.size = some u := by
    cases q : H3 s.heap.objs.size with
    | none => rw [q] at mu; exact mu.elim
    | some u => exact ⟨u, rfl⟩
  rw [e3'] at mu
  exact ⟨.ref s.heap.objs.size, _, I4, rfl, z _ _ (le3.trans le4) (r3.rep.put e3' mu rb4) rfl⟩
end
end Dt
set_option maxRecDepth 100000
set_option maxHeartbeats 4000000
namespace L33
open PySem PySem.Spec L2
open Rt
open Rb
open Rs
open Rm
open Rc hiding N_l_pattern r_l_leaf r_l_pattern sp_l_leaf sp_l_leaf_mono sp_l_pattern sp_l_pattern_mono t_l_pattern
open ShB hiding N_l_leaf N_l_still dSeqWhile_gen r_l_leaf r_l_still sp_l_leaf sp_l_leaf_mono sp_l_still sp_l_still_mono t_l_leaf t_l_still
open Sh hiding N_l_cell_at N_l_feed N_l_leaf N_l_names N_l_pattern deeps_le deeps_mem perm_map_ex r_l_cell_at r_l_leaf r_l_pattern sp_l_leaf sp_l_leaf_mono sp_l_names sp_l_pattern sp_l_pattern_mono srt_strict t_l_cell_at t_l_feed t_l_leaf t_l_names t_l_pattern
open Dt hiding nkeys sp_l_cell_at sp_l_cell_at_mono sp_l_feed
/-! K33r: the law lays its own machine; a pattern's leaves; all sets of some marks. -/
def sp_l_own (k : Nat) : DSp := fun ds S Q _ => ∃ (t : Pt) (a l : Nat) (p : Addr) (ms : List Mv), ds = [ptD t, .int (a : Nat), .ref p, .int (l : Nat)] ∧ S p = some (.lst (ms.map mvD)) ∧ t.deep ≤ k + 1 ∧ t.okP Nm ∧ t.all.length ≤ 10000 ∧ ms.length + 4 * t.all.length ≤ 100000 ∧
  Q (.int ((ownP t a (l, ms)).1 : Nat)) (upo S p (.lst ((ownP t a (l, ms)).2.map mvD)))
theorem sp_l_own_mono (k : Nat) : SpMono (sp_l_own k) := fun ds S Q Q' E E' kk _ ⟨t, a, l, p, ms, h1, h2, h3, h4, h5, h6, h⟩ => ⟨t, a, l, p, ms, h1, h2, h3, h4, h5, h6, kk _ _ h⟩
def sp_l_leaves (k : Nat) : DSp := fun ds S Q _ => ∃ t : Pt, ds = [ptD t] ∧ t.deep ≤ k + 1 ∧ t.okP Nm ∧ t.all.length ≤ 10000 ∧ Q (.rol ((lvs t).map ptD)) S
theorem sp_l_leaves_mono (k : Nat) : SpMono (sp_l_leaves k) := fun ds S Q Q' E E' kk _ ⟨t, h1, h2, h3, h4, h⟩ => ⟨t, h1, h2, h3, h4, kk _ _ h⟩
abbrev setsD (r : List (List Str)) : D := .rol (r.map fun l => .rol (strsD l))
def sp_l_sets : DSp := fun ds S Q _ => ∃ xs : List Str, ds = [.rol (strsD xs)] ∧ xs.length ≤ 16 ∧ ∀ r : List (List Str), (∀ l ∈ r, ∀ x ∈ l, x ∈ xs) → Q (setsD r) S
theorem sp_l_sets_mono : SpMono sp_l_sets := fun ds S Q Q' E E' kk _ ⟨xs, h1, h2, h⟩ => ⟨xs, h1, h2, fun r a => kk _ _ (h r a)⟩
def t_l_sets : DTS := (dSeq (dAsg (dLstF (dCons (dLstF dNil) dNil)) (dGN 1))
    (dSeq (dFor (dSeqI (dVar 0)) (dGN 2)
      (dAsg (dOp dAddF (dVar 1) (dFz (dLc (dSeqI (dVar 1)) (dGN 3) dYes (dOp dAddF (dVar 3) (dLstF (dCons (dVar 2) dNil))) [3]))) (dGN 1)))
    (dRet (dVar 1))))
abbrev N_l_sets : List Str := ["_law_some", "_law_found", "_law_one", "_law_rest"]
def t_l_own (spR : DSp) : DTS := (dSeq (dIf (dTest (dOp (dIn true) (dOp dIxS (dVar 0) (dC (.int 0))) (dTup (dCons (dC (.str "then")) (dCons (dC (.str "either")) (dCons (dC (.str "many")) dNil))))))
      (dSeq (dDrop (dBM "list" mAppend (dVar 2) (dCons (dTup (dCons (dVar 1) (dCons (dVar 0) (dCons (dOp dAddF (dVar 3) (dC (.int 1))) dNil)))) dNil)))
    (dRet (dOp dAddF (dVar 3) (dC (.int 1)))))
      dNx)
    (dSeq (dIf (dTest (dOp (dEq false) (dOp dIxS (dVar 0) (dC (.int 0))) (dC (.str "then"))))
      (dSeq (dDrop (dBM "list" mAppend (dVar 2) (dCons (dTup (dCons (dVar 1) (dCons (dTup (dCons (dC (.str "stay")) dNil)) (dCons (dOp dAddF (dVar 3) (dC (.int 1))) dNil)))) dNil)))
    (dSeq (dAsg (dOp dAddF (dVar 3) (dC (.int 1))) (dGN 3))
    (dSeq (dFor (dSeqI (dOp dIxS (dVar 0) (dC (.int 1)))) (dGN 4)
      (dAsg (dCall spR (dCons (dVar 4) (dCons (dVar 3) (dCons (dVar 2) (dCons (dVar 3) dNil))))) (dGN 3)))
    (dRet (dVar 3)))))
      dNx)
    (dSeq (dIf (dTest (dOp (dEq false) (dOp dIxS (dVar 0) (dC (.int 0))) (dC (.str "many"))))
      (dSeq (dAsg (dOp dAddF (dVar 3) (dC (.int 1))) (dGN 5))
    (dSeq (dDrop (dBM "list" mAppend (dVar 2) (dCons (dTup (dCons (dVar 1) (dCons (dTup (dCons (dC (.str "stay")) dNil)) (dCons (dVar 5) dNil)))) dNil)))
    (dSeq (dAsg (dCall spR (dCons (dOp dIxS (dVar 0) (dC (.int 1))) (dCons (dVar 5) (dCons (dVar 2) (dCons (dVar 5) dNil))))) (dGN 3))
    (dSeq (dDrop (dBM "list" mAppend (dVar 2) (dCons (dTup (dCons (dVar 3) (dCons (dTup (dCons (dC (.str "stay")) dNil)) (dCons (dVar 5) dNil)))) dNil)))
    (dSeq (dDrop (dBM "list" mAppend (dVar 2) (dCons (dTup (dCons (dVar 5) (dCons (dTup (dCons (dC (.str "stay")) dNil)) (dCons (dOp dAddF (dVar 3) (dC (.int 1))) dNil)))) dNil)))
    (dRet (dOp dAddF (dVar 3) (dC (.int 1)))))))))
      dNx)
    (dSeq (dAsg (dLst dNil) (dGN 6))
    (dSeq (dFor (dSeqI (dOp dIxS (dVar 0) (dC (.int 1)))) (dGN 4)
      (dSeq (dAsg (dCall spR (dCons (dVar 4) (dCons (dVar 1) (dCons (dVar 2) (dCons (dVar 3) dNil))))) (dGN 3))
    (dDrop (dBM "list" mAppend (dVar 6) (dCons (dVar 3) dNil)))))
    (dSeq (dFor (dSeqI (dVar 6)) (dGN 7)
      (dDrop (dBM "list" mAppend (dVar 2) (dCons (dTup (dCons (dVar 7) (dCons (dTup (dCons (dC (.str "stay")) dNil)) (dCons (dOp dAddF (dVar 3) (dC (.int 1))) dNil)))) dNil))))
    (dRet (dOp dAddF (dVar 3) (dC (.int 1))))))))))
abbrev N_l_own : List Str := ["_law_pattern_here", "_law_one", "_law_moves", "_law_last", "_law_part_here", "_law_inner", "_law_ends", "_law_end"]
def t_l_leaves (spR : DSp) : DTS := (dSeq (dIf (dTest (dOp (dIn false) (dOp dIxS (dVar 0) (dC (.int 0))) (dTup (dCons (dC (.str "then")) (dCons (dC (.str "either")) dNil)))))
      (dSeq (dAsg (dLstF dNil) (dGN 1))
    (dSeq (dFor (dSeqI (dOp dIxS (dVar 0) (dC (.int 1)))) (dGN 2)
      (dAsg (dOp dAddF (dVar 1) (dCall spR (dCons (dVar 2) dNil))) (dGN 1)))
    (dRet (dVar 1))))
      dNx)
    (dSeq (dIf (dTest (dOp (dEq false) (dOp dIxS (dVar 0) (dC (.int 0))) (dC (.str "many"))))
      (dRet (dCall spR (dCons (dOp dIxS (dVar 0) (dC (.int 1))) dNil)))
      dNx)
    (dRet (dLstF (dCons (dVar 0) dNil)))))
abbrev N_l_leaves : List Str := ["_law_pattern_here", "_law_found", "_law_part_here"]
theorem deep_pos (t : Pt) : 1 ≤ t.deep := by
  cases t <;> first | exact Nat.le_refl 1 | (rw [Pt.deep_many]; omega) | (rw [Pt.deep_seq]; omega)
theorem own_many (q : Pt) (a l : Nat) (ms : List Mv) : ownP (.many q) a (l, ms) = ((ownP q (l + 1) (l + 1, ms ++ [(⟨a, .stay, l + 1⟩ : Mv)])).1 + 1, (ownP q (l + 1) (l + 1, ms ++ [(⟨a, .stay, l + 1⟩ : Mv)])).2 ++ [(⟨(ownP q (l + 1) (l + 1, ms ++ [(⟨a, .stay, l + 1⟩ : Mv)])).1, .stay, l + 1⟩ : Mv), ⟨l + 1, .stay, (ownP q (l + 1) (l + 1, ms ++ [(⟨a, .stay, l + 1⟩ : Mv)])).1 + 1⟩]) := rfl
theorem own_seqT (ps : List Pt) (a l : Nat) (ms : List Mv) : ownP (.seq true ps) a (l, ms) = ownR ps (l + 1, ms ++ [(⟨a, .stay, l + 1⟩ : Mv)]) := rfl
theorem own_seqF (ps : List Pt) (a l : Nat) (ms : List Mv) : ownP (.seq false ps) a (l, ms) = ((ownA ps a (l, ms) []).1.1 + 1, (ownA ps a (l, ms) []).1.2 ++ (ownA ps a (l, ms) []).2.map fun e => (⟨e, .stay, (ownA ps a (l, ms) []).1.1 + 1⟩ : Mv)) := rfl
theorem ownR_len : ∀ (ps : List Pt) (s : Nat × List Mv), (ownR ps s).2.length ≤ s.2.length + 4 * (Pt.alls ps).length
  | [], s => Nat.le_add_right _ _
  | p :: ps, s => by
    have h1 := ownR_len ps (ownP p s.1 s)
    have h2 := own_len p s.1 s
    show (ownR ps (ownP p s.1 s)).2.length ≤ s.2.length + 4 * (p.all ++ Pt.alls ps).length
    rw [List.length_append]; omega
theorem ownA_len (a : Nat) : ∀ (ps : List Pt) (s : Nat × List Mv) (es : List Nat), (ownA ps a s es).1.2.length + ps.length ≤ s.2.length + 4 * (Pt.alls ps).length ∧ (ownA ps a s es).2.length = es.length + ps.length
  | [], s, es => ⟨by show s.2.length + 0 ≤ _; omega, rfl⟩
  | p :: ps, s, es => by
    obtain ⟨h1, h3⟩ := ownA_len a ps (ownP p a s) (es ++ [(ownP p a s).1])
    have h2 := own_len p a s
    rw [List.length_append] at h3
    refine ⟨?_, by show (ownA ps a (ownP p a s) (es ++ [(ownP p a s).1])).2.length = _; rw [h3]; simp; omega⟩
    show (ownA ps a (ownP p a s) (es ++ [(ownP p a s).1])).1.2.length + (p :: ps).length ≤ s.2.length + 4 * (p.all ++ Pt.alls ps).length
    rw [List.length_append, List.length_cons]; omega
theorem upo_self {S : DH} {a : Addr} {o : Ob} (h : S a = some o) : upo S a o = S := by
  funext b
  by_cases e : b = a
  · rw [e, h]; simp
  · rw [upo_ne e]
theorem sub_new2 {S : DH} {e p : Addr} {u v : Ob} (he : S e = none) : Dt.Sub (upo S p v) (upo (upo S e u) p v) := fun a o h => by
  by_cases ap : a = p
  · rw [ap] at h ⊢; simpa using h
  · rw [upo_ne ap] at h ⊢
    rw [upo_ne fun z => by rw [z, he] at h; cases h]
    exact h
theorem alls_ge : ∀ ps : List Pt, ps.length ≤ (Pt.alls ps).length
  | [] => Nat.zero_le _
  | p :: ps => by
    have := alls_ge ps
    have := Pt.all_pos p
    show ps.length + 1 ≤ (p.all ++ Pt.alls ps).length
    rw [List.length_append]; omega
theorem r_l_own (k : Nat) (ds S Q E) (h : sp_l_own k ds S Q E) : t_l_own (prevSp sp_l_own k) (dEnd Q E) (dstart N_l_own ds) S := by
  obtain ⟨t, a, l, p, ms, rfl, hp, hd, ho, hal, hb, h⟩ := h
  have i1 : inF (.str (Str.ofString "stay")) [.str (Str.ofString "then"), .str (Str.ofString "either"), .str (Str.ofString "many")] = false ∧ inF (.str (Str.ofString "step")) [.str (Str.ofString "then"), .str (Str.ofString "either"), .str (Str.ofString "many")] = false ∧
    inF (.str (Str.ofString "at")) [.str (Str.ofString "then"), .str (Str.ofString "either"), .str (Str.ofString "many")] = false ∧ inF (.str (Str.ofString "off")) [.str (Str.ofString "then"), .str (Str.ofString "either"), .str (Str.ofString "many")] = false ∧
    inF (.str (Str.ofString "then")) [.str (Str.ofString "then"), .str (Str.ofString "either"), .str (Str.ofString "many")] = true ∧ inF (.str (Str.ofString "either")) [.str (Str.ofString "then"), .str (Str.ofString "either"), .str (Str.ofString "many")] = true ∧
    inF (.str (Str.ofString "many")) [.str (Str.ofString "then"), .str (Str.ofString "either"), .str (Str.ofString "many")] = true := by decide +kernel
  have lp := Pt.all_pos t
  unfold t_l_own
  refine dSeqIf_gen fun A1 B1 R hA hB hR => ?_
  cases t with
  | stay =>
    simp [dstart, ptD, i1]
    subst hA
    simp [hp]
    exact ⟨by omega, .same (by simpa [ownP, mvD, ptD] using h)⟩
  | step o w =>
    simp [dstart, ptD, i1]
    subst hA
    simp [hp]
    exact ⟨by omega, .same (by simpa [ownP, mvD, ptD] using h)⟩
  | mark o w =>
    cases o
    all_goals
      simp [dstart, ptD, i1]
      subst hA
      simp [hp]
      exact ⟨by omega, .same (by simpa [ownP, mvD, ptD] using h)⟩
  | many q =>
    have hq := deep_pos q
    rw [Pt.deep_many] at hd
    rw [Pt.all_many, List.length_cons] at hal hb
    obtain ⟨n, rfl⟩ : ∃ n, k = n + 1 := ⟨k - 1, by omega⟩
    simp [dstart, ptD, i1]
    subst hB
    simp
    subst hR
    refine dSeqIf_gen fun A2 B2 R hA2 hB2 hR => ?_
    simp [ptD]
    subst hB2
    simp
    subst hR
    refine dSeqIf_gen fun A2 B2 R hA2 hB2 hR => ?_
    simp [ptD]
    subst hA2
    refine dSeq_gen fun R hR => ?_
    simp
    subst hR
    refine dSeq_gen fun R hR => ?_
    simp [hp]
    refine ⟨by omega, ?_⟩
    subst hR
    refine dSeq_gen fun R hR => ?_
    simp [-prevSp]
    refine ⟨q, l + 1, l + 1, p, ms ++ [⟨a, .stay, l + 1⟩], rfl, by simp [mvD, ptD], by omega, okP_kids ho (by simp [Pt.kids]), by omega, by simp; omega, ?_⟩
    have e0 : upo (upo S p (.lst (ms.map mvD ++ [.tup [.int (a : Nat), .tup [.str (Str.ofString "stay")], .int ((l : Int) + 1)]]))) p (.lst ((ownP q (l + 1) (l + 1, ms ++ [(⟨a, .stay, l + 1⟩ : Mv)])).2.map mvD)) = upo S p (.lst ((ownP q (l + 1) (l + 1, ms ++ [(⟨a, .stay, l + 1⟩ : Mv)])).2.map mvD)) := upo_upo
    have hl2 := own_len q (l + 1) (l + 1, ms ++ [(⟨a, .stay, l + 1⟩ : Mv)])
    simp only [List.length_append, List.length_cons, List.length_nil] at hl2
    rw [own_many] at h
    generalize ownP q (l + 1) (l + 1, ms ++ [(⟨a, .stay, l + 1⟩ : Mv)]) = r at h e0 hl2 ⊢
    simp [e0]
    subst hR
    refine dSeq_gen fun R hR => ?_
    simp
    refine ⟨by omega, ?_⟩
    subst hR
    refine dSeq_gen fun R hR => ?_
    simp
    refine ⟨by omega, ?_⟩
    subst hR
    simp
    exact .same (by simpa [mvD, ptD] using h)
  | seq o ps =>
    rw [Pt.deep_seq] at hd
    rw [Pt.all_seq, List.length_cons] at hal hb
    have hps : ∀ q ∈ ps, q.deep ≤ k ∧ q.okP Nm := fun q hq => ⟨by have := deeps_mem hq; omega, okP_kids ho (by simpa [Pt.kids] using hq)⟩
    cases o with
    | true =>
      simp [dstart, ptD, i1]
      subst hB
      simp
      subst hR
      refine dSeqIf_gen fun A2 B2 R hA2 hB2 hR => ?_
      simp [ptD]
      subst hA2
      refine dSeq_gen fun R hR => ?_
      simp [hp]
      refine ⟨by omega, ?_⟩
      subst hR
      refine dSeq_gen fun R hR => ?_
      simp
      subst hR
      refine dSeqFor_gen fun B R hB hR => ?_
      simp
      let s1 : Nat × List Mv := (l + 1, ms ++ [(⟨a, .stay, l + 1⟩ : Mv)])
      have e1 : (.lst (ms.map mvD ++ [.tup [.int (a : Nat), .tup [.str (Str.ofString "stay")], .int ((l : Int) + 1)]]) : Ob) = .lst (s1.2.map mvD) := by simp [s1, mvD, ptD]
      rw [e1]
      have bd : ∀ j, j ≤ ps.length → (ownR (ps.take j) s1).2.length ≤ s1.2.length + 4 * (Pt.alls (ps.take j)).length := fun j _ => ownR_len _ _
      have l1 : s1.2.length = ms.length + 1 := by simp [s1]
      refine loop_inv (fun j τ S' => ∃ (x4 : Option D), τ = [some (ptD (.seq true ps)), some (.int (a : Nat)), some (.ref p), some (.int ((ownR (ps.take j) s1).1 : Nat)), x4, none, none, none] ∧ S' = upo S p (.lst ((ownR (ps.take j) s1).2.map mvD))) ⟨none, by simp [s1, ownR, ptD], rfl⟩ (fun _ _ _ _ _ => trivial) ?_ ?_
      · rintro j d τ S1 N hd1 ⟨x4, rfl, rfl⟩ hN
        have hj : j < ps.length := by
          have h1 := (List.getElem?_eq_some_iff.mp hd1).1
          rwa [ptDs_len] at h1
        rw [ptDs_at hj] at hd1
        cases hd1
        have hq := hps _ (List.getElem_mem hj)
        have hpos := deep_pos ps[j]
        obtain ⟨n, rfl⟩ : ∃ n, k = n + 1 := ⟨k - 1, by omega⟩
        have b1 := bd j (by omega)
        have tk := alls_take hj
        have tl := alls_take_le (ps := ps) (j + 1)
        have es : ownR (ps.take (j + 1)) s1 = ownP ps[j] (ownR (ps.take j) s1).1 (ownR (ps.take j) s1) := by
          rw [List.take_succ_eq_append_getElem hj, ownR_snoc]
        rw [es] at hN
        generalize ownR (ps.take j) s1 = r at hN b1
        subst hB
        simp [-prevSp]
        refine ⟨ps[j], r.1, r.1, p, r.2, rfl, by simp, by omega, hq.2, by omega, by omega, ?_⟩
        have e0 : upo (upo S p (.lst (r.2.map mvD))) p (.lst ((ownP ps[j] r.1 (r.1, r.2)).2.map mvD)) = upo S p (.lst ((ownP ps[j] r.1 r).2.map mvD)) := upo_upo
        simp [e0]
        exact hN _ _ ⟨_, rfl, rfl⟩
      · rintro τ S1 ⟨x4, rfl, rfl⟩
        rw [ptDs_len, List.take_length]
        subst hR
        simp
        exact .same h
    | false =>
      simp [dstart, ptD, i1]
      subst hB
      simp
      subst hR
      refine dSeqIf_gen fun A2 B2 R hA2 hB2 hR => ?_
      simp [ptD]
      subst hB2
      simp
      subst hR
      refine dSeqIf_gen fun A2 B2 R hA2 hB2 hR => ?_
      simp [ptD]
      subst hB2
      simp
      subst hR
      refine dSeq_gen fun R hR => ?_
      simp
      intro e he
      have hep : e ≠ p := fun z => by rw [z, hp] at he; cases he
      subst hR
      refine dSeqFor_gen fun B R hB hR => ?_
      simp
      refine loop_inv (fun j τ S' => ∃ (x4 : Option D), τ = [some (ptD (.seq false ps)), some (.int (a : Nat)), some (.ref p), some (.int ((ownA (ps.take j) a (l, ms) []).1.1 : Nat)), x4, none, some (.ref e), none] ∧ S' = upo (upo S e (.lst (natsD (ownA (ps.take j) a (l, ms) []).2))) p (.lst ((ownA (ps.take j) a (l, ms) []).1.2.map mvD)))
        ⟨none, by simp [ownA, ptD], by rw [List.take_zero]; exact (upo_self (by rw [upo_ne hep.symm]; exact hp)).symm⟩ (fun _ _ _ _ _ => trivial) ?_ ?_
      · rintro j d τ S1 N hd1 ⟨x4, rfl, rfl⟩ hN
        have hj : j < ps.length := by
          have h1 := (List.getElem?_eq_some_iff.mp hd1).1
          rwa [ptDs_len] at h1
        rw [ptDs_at hj] at hd1
        cases hd1
        have hq := hps _ (List.getElem_mem hj)
        have hpos := deep_pos ps[j]
        obtain ⟨n, rfl⟩ : ∃ n, k = n + 1 := ⟨k - 1, by omega⟩
        obtain ⟨b1, b2⟩ := ownA_len a (ps.take j) (l, ms) []
        dsimp only at b1
        rw [List.length_take, Nat.min_eq_left (by omega)] at b1 b2
        have tk := alls_take hj
        have tl := alls_take_le (ps := ps) (j + 1)
        have al : ps.length ≤ (Pt.alls ps).length := alls_ge ps
        have es : ownA (ps.take (j + 1)) a (l, ms) [] = (ownP ps[j] a (ownA (ps.take j) a (l, ms) []).1, (ownA (ps.take j) a (l, ms) []).2 ++ [(ownP ps[j] a (ownA (ps.take j) a (l, ms) []).1).1]) := by
          rw [List.take_succ_eq_append_getElem hj, ownA_snoc]
        rw [es] at hN
        generalize ownA (ps.take j) a (l, ms) [] = r at hN b1 b2
        simp
        subst hB
        refine dSeq_gen fun R2 hR2 => ?_
        simp [-prevSp]
        refine ⟨ps[j], a, r.1.1, p, r.1.2, rfl, by simp, by omega, hq.2, by omega, by omega, ?_⟩
        have e0 : upo (upo (upo S e (.lst (natsD r.2))) p (.lst (r.1.2.map mvD))) p (.lst ((ownP ps[j] a (r.1.1, r.1.2)).2.map mvD)) = upo (upo S e (.lst (natsD r.2))) p (.lst ((ownP ps[j] a r.1).2.map mvD)) := upo_upo
        simp only [natsD] at e0
        simp [e0]
        subst hR2
        simp [upo_ne hep, upo_swap hep]
        simp at b2
        refine ⟨by omega, hN _ _ ⟨_, rfl, by simp⟩⟩
      · rintro τ S1 ⟨x4, rfl, rfl⟩
        rw [ptDs_len, List.take_length]
        subst hR
        dsimp only
        have b2 := (ownA_len a ps (l, ms) []).2
        have b1 := (ownA_len a ps (l, ms) []).1
        have al : ps.length ≤ (Pt.alls ps).length := alls_ge ps
        rw [own_seqF] at h
        generalize ownA ps a (l, ms) [] = r at h b1 b2 ⊢
        simp at b1 b2
        refine dSeqFor_gen fun B R hB hR => ?_
        simp [upo_ne hep]
        refine loop_inv (fun j τ S' => ∃ (x7 : Option D), τ = [some (ptD (.seq false ps)), some (.int (a : Nat)), some (.ref p), some (.int (r.1.1 : Nat)), x4, none, some (.ref e), x7] ∧ S' = upo (upo S e (.lst (natsD r.2))) p (.lst ((r.1.2 ++ (r.2.take j).map fun e => (⟨e, .stay, r.1.1 + 1⟩ : Mv)).map mvD)))
          ⟨none, rfl, by simp⟩ (fun j τ S' hj hI => by
            obtain ⟨x7, rfl, rfl⟩ := hI
            simp [upo_ne hep]) ?_ ?_
        · rintro j d τ S1 N hd1 ⟨x7, rfl, rfl⟩ hN
          obtain ⟨hj, rfl⟩ : ∃ hj : j < r.2.length, d = .int ((r.2[j] : Nat) : Int) := by
            rw [List.getElem?_map] at hd1
            obtain ⟨x, hx, e1⟩ := Option.map_eq_some_iff.mp hd1
            obtain ⟨hj, rfl⟩ := List.getElem?_eq_some_iff.mp hx
            exact ⟨hj, e1.symm⟩
          have hj2 := List.length_take_le j r.2
          have ht : r.2.take (j + 1) = r.2.take j ++ [r.2[j]] := List.take_succ_eq_append_getElem hj
          rw [ht] at hN
          generalize r.2[j] = c at hN
          simp
          subst hB
          simp
          refine ⟨by omega, hN _ _ ⟨_, rfl, by simp [mvD, ptD]⟩⟩
        · rintro τ S1 ⟨x7, rfl, rfl⟩
          dsimp only
          subst hR
          simp
          simp at h
          exact .keep (sub_new2 he) h

theorem lvs_len : ∀ t : Pt, (lvs t).length ≤ t.all.length := by
  refine ptInd (Nat.le_refl 1) (fun _ _ => Nat.le_refl 1) (fun _ _ => Nat.le_refl 1) ?_ ?_
  · intro o ps ih
    have alls : ∀ ps : List Pt, (∀ p ∈ ps, (lvs p).length ≤ p.all.length) → (lvsS ps).length ≤ (Pt.alls ps).length := by
      intro ps
      induction ps with
      | nil => exact fun _ => Nat.le_refl _
      | cons p ps ih2 =>
        intro ih
        have h1 := ih p List.mem_cons_self
        have h2 := ih2 fun q hq => ih q (List.mem_cons_of_mem _ hq)
        show (lvs p ++ lvsS ps).length ≤ (p.all ++ Pt.alls ps).length
        rw [List.length_append, List.length_append]; omega
    have := alls ps ih
    rw [Pt.all_seq, List.length_cons]
    show (lvsS ps).length ≤ _
    omega
  · intro p ih
    rw [Pt.all_many, List.length_cons]
    show (lvs p).length ≤ _
    omega
theorem lvsS_len : ∀ ps : List Pt, (lvsS ps).length ≤ (Pt.alls ps).length
  | [] => Nat.le_refl _
  | p :: ps => by
    have h1 := lvs_len p
    have h2 := lvsS_len ps
    show (lvs p ++ lvsS ps).length ≤ (p.all ++ Pt.alls ps).length
    rw [List.length_append, List.length_append]; omega
theorem r_l_leaves (k : Nat) (ds S Q E) (h : sp_l_leaves k ds S Q E) : t_l_leaves (prevSp sp_l_leaves k) (dEnd Q E) (dstart N_l_leaves ds) S := by
  obtain ⟨t, rfl, hd, ho, hal, h⟩ := h
  have i1 : inF (.str (Str.ofString "stay")) [.str (Str.ofString "then"), .str (Str.ofString "either")] = false ∧ inF (.str (Str.ofString "step")) [.str (Str.ofString "then"), .str (Str.ofString "either")] = false ∧
    inF (.str (Str.ofString "at")) [.str (Str.ofString "then"), .str (Str.ofString "either")] = false ∧ inF (.str (Str.ofString "off")) [.str (Str.ofString "then"), .str (Str.ofString "either")] = false ∧
    inF (.str (Str.ofString "then")) [.str (Str.ofString "then"), .str (Str.ofString "either")] = true ∧ inF (.str (Str.ofString "either")) [.str (Str.ofString "then"), .str (Str.ofString "either")] = true ∧
    inF (.str (Str.ofString "many")) [.str (Str.ofString "then"), .str (Str.ofString "either")] = false := by decide +kernel
  unfold t_l_leaves
  refine dSeqIf_gen fun A1 B1 R hA hB hR => ?_
  cases t with
  | stay =>
    simp [dstart, ptD, i1]
    subst hB
    simp
    subst hR
    simp
    exact .same (by simpa [lvs, ptD] using h)
  | step o w =>
    simp [dstart, ptD, i1]
    subst hB
    simp
    subst hR
    simp
    exact .same (by simpa [lvs, ptD] using h)
  | mark o w =>
    cases o
    all_goals
      simp [dstart, ptD, i1]
      subst hB
      simp
      subst hR
      simp
      exact .same (by simpa [lvs, ptD] using h)
  | many q =>
    have hq := deep_pos q
    rw [Pt.deep_many] at hd
    rw [Pt.all_many, List.length_cons] at hal
    obtain ⟨n, rfl⟩ : ∃ n, k = n + 1 := ⟨k - 1, by omega⟩
    simp [dstart, ptD, i1]
    subst hB
    simp
    subst hR
    simp [-prevSp]
    exact ⟨q, rfl, by omega, okP_kids ho (by simp [Pt.kids]), by omega, .same h⟩
  | seq o ps =>
    rw [Pt.deep_seq] at hd
    rw [Pt.all_seq, List.length_cons] at hal
    have hps : ∀ q ∈ ps, q.deep ≤ k ∧ q.okP Nm := fun q hq => ⟨by have := deeps_mem hq; omega, okP_kids ho (by simpa [Pt.kids] using hq)⟩
    cases o
    all_goals
      simp [dstart, ptD, i1]
      subst hA
      refine dSeq_gen fun R hR => ?_
      simp
      subst hR
      refine dSeqFor_gen fun B R hB hR => ?_
      simp
      refine loop_inv (fun j τ S' => ∃ (x0 x2 : Option D), τ = [x0, some (.rol ((lvsS (ps.take j)).map ptD)), x2] ∧ S' = S) ⟨_, none, rfl, rfl⟩ (fun _ _ _ _ _ => trivial) ?_ ?_
      · rintro j d τ S1 N hd1 ⟨x0, x2, rfl, rfl⟩ hN
        have hj : j < ps.length := by
          have h1 := (List.getElem?_eq_some_iff.mp hd1).1
          rwa [ptDs_len] at h1
        rw [ptDs_at hj] at hd1
        cases hd1
        have hq := hps _ (List.getElem_mem hj)
        have hpos := deep_pos ps[j]
        obtain ⟨n, rfl⟩ : ∃ n, k = n + 1 := ⟨k - 1, by omega⟩
        have tk := alls_take hj
        have tl := alls_take_le (ps := ps) (j + 1)
        have ll := lvsS_len (ps.take j)
        have lq := lvs_len ps[j]
        have es : lvsS (ps.take (j + 1)) = lvsS (ps.take j) ++ lvs ps[j] := by
          rw [List.take_succ_eq_append_getElem hj, lvsS_flat, lvsS_flat, List.flatMap_append]; simp
        rw [es] at hN
        simp
        subst hB
        simp [-prevSp]
        refine ⟨ps[j], rfl, by omega, hq.2, by omega, ?_⟩
        simp
        refine ⟨?_, hN _ _ ⟨x0, some (ptD ps[j]), by simp, rfl⟩⟩
        rw [List.length_map, List.length_map, sizeLine_eq]
        omega
      · rintro τ S1 ⟨x0, x2, rfl, rfl⟩
        rw [ptDs_len, List.take_length]
        dsimp only
        subst hR
        simp
        exact .same h
theorem r_l_sets (ds S Q E) (h : sp_l_sets ds S Q E) : t_l_sets (dEnd Q E) (dstart N_l_sets ds) S := by
  obtain ⟨xs, rfl, hl, h⟩ := h
  unfold t_l_sets
  refine dSeq_gen fun R hR => ?_
  simp [dstart]
  subst hR
  refine dSeqFor_gen fun B R hB hR => ?_
  simp
  refine loop_inv (fun j τ S' => ∃ (r : List (List Str)) (x2 : Option D), τ = [some (.rol (strsD xs)), some (setsD r), x2, none] ∧ S' = S ∧ r.length ≤ 2 ^ j ∧ ∀ l ∈ r, l.length ≤ j ∧ ∀ x ∈ l, x ∈ xs) ⟨[[]], none, rfl, rfl, Nat.le_refl _, by simp⟩ (fun _ _ _ _ _ => trivial) ?_ ?_
  · rintro j d τ S1 N hd1 ⟨r, x2, rfl, rfl, h1, h2⟩ hN
    obtain ⟨hj, rfl⟩ : ∃ hj : j < xs.length, d = .str xs[j] := by
      rw [List.getElem?_map] at hd1
      obtain ⟨x, hx, e1⟩ := Option.map_eq_some_iff.mp hd1
      obtain ⟨hj, rfl⟩ := List.getElem?_eq_some_iff.mp hx
      exact ⟨hj, e1.symm⟩
    have hx := List.getElem_mem hj
    generalize xs[j] = x at hx
    have pw : 2 ^ j ≤ 2 ^ 16 := Nat.pow_le_pow_right (by decide) (by omega)
    simp
    subst hB
    simp
    refine lcF_map (fun d => match d with | .rol l => .rol (l ++ [.str x]) | _ => d) (fun p acc hp => by simp) (fun d hd acc p N hp ha hN2 => ?_) (by simp; omega) ?_
    · obtain ⟨l, hl2, rfl⟩ := List.mem_map.mp hd
      have := (h2 l hl2).1
      simp [catD]
      refine ⟨by omega, ha, by simpa using hN2⟩
    · have h3 : (r.map fun l => D.rol (strsD l)).map (fun d => match d with | .rol l => .rol (l ++ [D.str x]) | _ => d) = (r.map (· ++ [x])).map fun l => D.rol (strsD l) := by
        rw [List.map_map, List.map_map]
        exact List.map_congr_left fun l _ => by simp
      rw [h3]
      simp [catD]
      refine ⟨by omega, hN _ _ ⟨r ++ r.map (· ++ [x]), some (.str x), by simp, rfl, by rw [List.length_append, List.length_map, Nat.pow_succ]; omega, fun l hl => ?_⟩⟩
      rcases List.mem_append.mp hl with hl | hl
      · exact ⟨Nat.le_succ_of_le (h2 l hl).1, (h2 l hl).2⟩
      · obtain ⟨l', hl', rfl⟩ := List.mem_map.mp hl
        refine ⟨by have := (h2 l' hl').1; simp; omega, fun y hy => ?_⟩
        rcases List.mem_append.mp hy with hy | hy
        · exact (h2 l' hl').2 y hy
        · rw [List.mem_singleton.mp hy]; exact hx
  · rintro τ S1 ⟨r, x2, rfl, rfl, h1, h2⟩
    dsimp only
    subst hR
    simp
    exact .same (h r fun l hl => (h2 l hl).2)
end L33
set_option maxRecDepth 100000
set_option maxHeartbeats 4000000
namespace L33
open PySem PySem.Spec L2
open Rt
open Rb
open Rs
open Rm
open Rc hiding N_l_pattern r_l_leaf r_l_pattern sp_l_leaf sp_l_leaf_mono sp_l_pattern sp_l_pattern_mono t_l_pattern
open ShB hiding N_l_leaf N_l_still dSeqWhile_gen r_l_leaf r_l_still sp_l_leaf sp_l_leaf_mono sp_l_still sp_l_still_mono t_l_leaf t_l_still
open Sh hiding N_l_cell_at N_l_feed N_l_leaf N_l_names N_l_pattern deeps_le deeps_mem perm_map_ex r_l_cell_at r_l_leaf r_l_pattern sp_l_leaf sp_l_leaf_mono sp_l_names sp_l_pattern sp_l_pattern_mono srt_strict t_l_cell_at t_l_feed t_l_leaf t_l_names t_l_pattern
open Dt hiding nkeys sp_l_cell_at sp_l_cell_at_mono sp_l_feed
/-! K33s: the two machines side by side. -/
def KT (d : D) (n : Nat) : Prop := ∃ k, nkey d = some k ∧ k.depth ≤ n
theorem kt_tup {ds : List D} {n : Nat} (h : ∀ d ∈ ds, KT d n) : KT (.tup ds) (n + 1) := by
  have : ∃ ks, Dt.nkeys ds = some ks ∧ NestedKey.depthAll ks ≤ n := by
    induction ds with
    | nil => exact ⟨[], rfl, Nat.zero_le _⟩
    | cons d ds ih =>
      obtain ⟨k, a, b⟩ := h d List.mem_cons_self
      obtain ⟨ks, c, e⟩ := ih fun x hx => h x (List.mem_cons_of_mem _ hx)
      exact ⟨k :: ks, by simp only [Dt.nkeys, a, c], Nat.max_le.mpr ⟨b, e⟩⟩
  obtain ⟨ks, c, e⟩ := this
  exact ⟨.tup ks, by simp only [nkey, c], Nat.succ_le_succ e⟩
theorem kt_nats (S : List Nat) : KT (.tup (natsD S)) 1 := kt_tup fun d hd => by
  obtain ⟨n, _, rfl⟩ := List.mem_map.mp hd
  exact ⟨_, rfl, Nat.le_refl _⟩
/-- a pair of rows of stands -/
abbrev prD (x : PrN) : D := .tup [.tup (natsD x.1), .tup (natsD x.2)]
theorem prD_ok (x : PrN) : okT (prD x) = true := by
  obtain ⟨k, a, b⟩ : KT (prD x) 2 := kt_tup fun d hd => by
    rcases List.mem_cons.mp hd with rfl | hd
    · exact kt_nats _
    · rw [List.mem_singleton.mp hd]; exact kt_nats _
  unfold okT
  rw [a]
  exact decide_eq_true (Nat.le_trans b (by decide))
theorem natsD_inj : ∀ {a b : List Nat}, natsD a = natsD b → a = b
  | [], [], _ => rfl
  | [], _ :: _, h => nomatch h
  | _ :: _, [], h => nomatch h
  | x :: a, y :: b, h => by
    simp only [natsD, List.map_cons, List.cons.injEq, D.int.injEq] at h
    have := natsD_inj (a := a) (b := b) h.2
    have : x = y := by omega
    subst this
    simp_all
theorem prD_inj {x y : PrN} (h : prD x = prD y) : x = y := by
  simp only [prD, D.tup.injEq, List.cons.injEq, and_true] at h
  exact Prod.ext (natsD_inj h.1) (natsD_inj h.2)
theorem prD_sm (x : PrN) : Sm 60 (prD x) := (Sm_tup.mpr fun d hd => by
  have h : ∀ l : List Nat, Sm 58 (.tup (natsD l)) := fun l => Sm_tup.mpr fun d hd => by
    obtain ⟨n, _, rfl⟩ := List.mem_map.mp hd
    exact Sm_int
  rcases List.mem_cons.mp hd with rfl | hd
  · exact (h _).mono (by decide)
  · rw [List.mem_singleton.mp hd]; exact (h _).mono (by decide) : Sm 60 (.tup _))
abbrev seenD (E : List PrN) : List (D × D) := E.map fun x => (prD x, D.bl true)
theorem seen_lk {E : List PrN} {x : PrN} : (lk (seenD E) (prD x)).isSome = decide (x ∈ E) := by
  induction E with
  | nil => rfl
  | cons y E ih =>
    show (if prD y = prD x then some (D.bl true) else lk (seenD E) (prD x)).isSome = _
    by_cases e : y = x
    · subst e; simp
    · rw [if_neg fun z => e (prD_inj z), ih]
      simp [Ne.symm e]
theorem seen_put {E : List PrN} {x : PrN} (h : x ∉ E) : pt (seenD E) (prD x) (.bl true) = seenD (E ++ [x]) := by
  have e : lk (seenD E) (prD x) = none := by
    have := seen_lk (E := E) (x := x)
    rw [decide_eq_false h] at this
    cases q : lk (seenD E) (prD x) with
    | none => rfl
    | some d => rw [q] at this; cases this
  unfold pt
  rw [e]
  simp [seenD]
theorem pre_ok (mv : List Mv) : ∀ us : Wd, (pre mv 0 us).Pairwise (· < ·) ∧ (pre mv 0 us).length ≤ mv.length + 1
  | [] => ⟨List.pairwise_singleton _ _, by show 1 ≤ _; omega⟩
  | (ms, sd, w) :: us => by
    obtain ⟨h1, h2⟩ := sortN_is (by_fin mv (sortN (Come mv ms (pre mv 0 us))) sd w)
    refine ⟨h1, ?_⟩
    have := nodup_len3 (ys := mv.map (·.b)) (h1.imp fun {a b} z => Nat.ne_of_lt z) fun n hn => by
      obtain ⟨m, hm, _, _, e⟩ := (h2 n).mp hn
      exact List.mem_map.mpr ⟨m, hm, e⟩
    rw [List.length_map] at this
    exact Nat.le_succ_of_le this
theorem own_lf : ∀ (t : Pt) (a : Nat) (s : Nat × List Mv), ∀ x ∈ (ownP t a s).2, x ∈ s.2 ∨ x.p = .stay ∨ x.p ∈ lvs t := by
  have one : ∀ {p : Pt} {a b : Nat} {s : Nat × List Mv}, p ∈ lvs p → ∀ x ∈ s.2 ++ [(⟨a, p, b⟩ : Mv)], x ∈ s.2 ∨ x.p = .stay ∨ x.p ∈ lvs p := fun hp x hx => by
    rcases List.mem_append.mp hx with hx | hx
    · exact .inl hx
    · rw [List.mem_singleton.mp hx]; exact .inr (.inr hp)
  refine ptInd (fun a s => one (List.mem_singleton.mpr rfl)) (fun o w a s => one (List.mem_singleton.mpr rfl)) (fun o w a s => one (List.mem_singleton.mpr rfl)) ?_ ?_
  · intro o ps ih a
    have alls : ∀ ps : List Pt, (∀ p ∈ ps, ∀ (a : Nat) (s : Nat × List Mv), ∀ x ∈ (ownP p a s).2, x ∈ s.2 ∨ x.p = .stay ∨ x.p ∈ lvs p) → ∀ (a : Nat) (s : Nat × List Mv) (es : List Nat), ∀ x ∈ (ownA ps a s es).1.2, x ∈ s.2 ∨ x.p = .stay ∨ x.p ∈ lvsS ps := by
      intro ps
      induction ps with
      | nil => exact fun _ a s es x hx => .inl hx
      | cons p ps ih2 =>
        intro ih a s es x hx
        rcases ih2 (fun q hq => ih q (List.mem_cons_of_mem _ hq)) a _ _ x hx with h | h | h
        · rcases ih p List.mem_cons_self a s x h with h | h | h
          · exact .inl h
          · exact .inr (.inl h)
          · exact .inr (.inr (List.mem_append_left _ h))
        · exact .inr (.inl h)
        · exact .inr (.inr (List.mem_append_right _ h))
    have rows : ∀ ps : List Pt, (∀ p ∈ ps, ∀ (a : Nat) (s : Nat × List Mv), ∀ x ∈ (ownP p a s).2, x ∈ s.2 ∨ x.p = .stay ∨ x.p ∈ lvs p) → ∀ (s : Nat × List Mv), ∀ x ∈ (ownR ps s).2, x ∈ s.2 ∨ x.p = .stay ∨ x.p ∈ lvsS ps := by
      intro ps
      induction ps with
      | nil => exact fun _ s x hx => .inl hx
      | cons p ps ih2 =>
        intro ih s x hx
        rcases ih2 (fun q hq => ih q (List.mem_cons_of_mem _ hq)) _ x hx with h | h | h
        · rcases ih p List.mem_cons_self s.1 s x h with h | h | h
          · exact .inl h
          · exact .inr (.inl h)
          · exact .inr (.inr (List.mem_append_left _ h))
        · exact .inr (.inl h)
        · exact .inr (.inr (List.mem_append_right _ h))
    intro s x hx
    cases o with
    | false =>
      rcases List.mem_append.mp hx with hx | hx
      · exact alls ps ih a s [] x hx
      · obtain ⟨e, _, rfl⟩ := List.mem_map.mp hx
        exact .inr (.inl rfl)
    | true =>
      rcases rows ps ih _ x hx with h | h | h
      · rcases List.mem_append.mp h with h | h
        · exact .inl h
        · rw [List.mem_singleton.mp h]; exact .inr (.inl rfl)
      · exact .inr (.inl h)
      · exact .inr (.inr h)
  · intro p ih a s x hx
    rcases List.mem_append.mp hx with hx | hx
    · rcases ih _ _ x hx with h | h
      · rcases List.mem_append.mp h with h | h
        · exact .inl h
        · rw [List.mem_singleton.mp h]; exact .inr (.inl rfl)
      · exact .inr h
    · rcases List.mem_cons.mp hx with rfl | hx
      · exact .inr (.inl rfl)
      · rw [List.mem_singleton.mp hx]; exact .inr (.inl rfl)
theorem alls_mem3 {p q : Pt} : ∀ {ps : List Pt}, p ∈ ps → q ∈ p.all → q ∈ Pt.alls ps
  | r :: ps, h, hq => by
    show q ∈ r.all ++ Pt.alls ps
    rcases List.mem_cons.mp h with rfl | h
    · exact List.mem_append_left _ hq
    · exact List.mem_append_right _ (alls_mem3 h hq)
theorem okP_in {P : Str → Prop} : ∀ (t : Pt) {q : Pt}, t.okP P → q ∈ t.all → q.okP P := by
  refine ptInd ?_ ?_ ?_ ?_ ?_
  · intro q h hq; rw [List.mem_singleton.mp hq]; exact h
  · intro o w q h hq; rw [List.mem_singleton.mp hq]; exact h
  · intro o w q h hq; rw [List.mem_singleton.mp hq]; exact h
  · intro o ps ih q h hq
    rw [Pt.all_seq] at hq
    rcases List.mem_cons.mp hq with rfl | hq
    · exact h
    · have key : ∀ ps : List Pt, (∀ p ∈ ps, ∀ {q : Pt}, p.okP P → q ∈ p.all → q.okP P) → (∀ p ∈ ps, p.okP P) → q ∈ Pt.alls ps → q.okP P := by
        intro ps
        induction ps with
        | nil => exact fun _ _ h => nomatch h
        | cons p ps ih2 =>
          intro ih ho hq
          rcases List.mem_append.mp (show q ∈ p.all ++ Pt.alls ps from hq) with hq | hq
          · exact ih p List.mem_cons_self (ho p List.mem_cons_self) hq
          · exact ih2 (fun r hr => ih r (List.mem_cons_of_mem _ hr)) (fun r hr => ho r (List.mem_cons_of_mem _ hr)) hq
      exact key ps ih (fun p hp => okP_kids h (by simpa [Pt.kids] using hp)) hq
  · intro p ih q h hq
    rw [Pt.all_many] at hq
    rcases List.mem_cons.mp hq with rfl | hq
    · exact h
    · exact ih (okP_kids h (by simp [Pt.kids])) hq
theorem lvs_all : ∀ t : Pt, ∀ q ∈ lvs t, q ∈ t.all ∧ q.isLeaf = true := by
  have one : ∀ {p : Pt}, p.isLeaf = true → ∀ q ∈ [p], q ∈ p.all ∧ q.isLeaf = true := fun hp q hq => by rw [List.mem_singleton.mp hq]; exact ⟨Pt.self_all _, hp⟩
  refine ptInd (one rfl) (fun _ _ => one rfl) (fun _ _ => one rfl) ?_ ?_
  · intro o ps ih q hq
    have hq : q ∈ lvsS ps := hq
    rw [lvsS_flat] at hq
    obtain ⟨p, hp, hq⟩ := List.mem_flatMap.mp hq
    obtain ⟨h1, h2⟩ := ih p hp q hq
    exact ⟨by rw [Pt.all_seq]; exact List.mem_cons_of_mem _ (alls_mem3 hp h1), h2⟩
  · intro p ih q hq
    obtain ⟨h1, h2⟩ := ih q hq
    exact ⟨by rw [Pt.all_many]; exact List.mem_cons_of_mem _ h1, h2⟩
theorem own_mvs {t : Pt} (ho : t.okP Nm) : ∀ m ∈ (ownP t 0 (0, [])).2, OkMv m := fun m hm => by
  rcases own_lf t 0 (0, []) m hm with h | h | h
  · cases h
  · exact ⟨by rw [h]; rfl, by rw [h]; exact okP_imp (fun _ => Nm.okS) stay_ok⟩
  · obtain ⟨h1, h2⟩ := lvs_all t _ h
    exact ⟨h2, okP_imp (fun _ => Nm.okS) (okP_in t ho h1)⟩
theorem lvs_pow : ∀ (t : Pt) (d : Nat), (∀ q ∈ t.all, q.kids.length ≤ 3) → t.deep ≤ d + 1 → (lvs t).length ≤ 3 ^ d := by
  have one : ∀ d, 1 ≤ 3 ^ d := fun d => Nat.pos_of_ne_zero fun h => by have := Nat.pow_eq_zero.mp h; omega
  refine ptInd (fun d _ _ => one d) (fun _ _ d _ _ => one d) (fun _ _ d _ _ => one d) ?_ ?_
  · intro o ps ih d hf hd
    rw [Pt.deep_seq] at hd
    have hl : ps.length ≤ 3 := hf _ (Pt.self_all _)
    have sum : ∀ (n : Nat) (ps : List Pt), (∀ p ∈ ps, (lvs p).length ≤ n) → (lvsS ps).length ≤ ps.length * n := by
      intro n ps
      induction ps with
      | nil => exact fun _ => Nat.zero_le _
      | cons p ps ih2 =>
        intro h
        have h1 := h p List.mem_cons_self
        have h2 := ih2 fun q hq => h q (List.mem_cons_of_mem _ hq)
        show (lvs p ++ lvsS ps).length ≤ (ps.length + 1) * n
        rw [List.length_append, Nat.add_mul]; omega
    cases d with
    | zero =>
      have e : ps = [] := by
        cases ps with
        | nil => rfl
        | cons p ps =>
          have := deep_pos p
          have := deeps_mem (ps := p :: ps) List.mem_cons_self
          omega
      rw [e]; exact Nat.zero_le _
    | succ d =>
      have := sum (3 ^ d) ps fun p hp => ih p hp d (kids_few hf (by simpa [Pt.kids] using hp)) (by have := deeps_mem hp; omega)
      have h3 : ps.length * 3 ^ d ≤ 3 * 3 ^ d := Nat.mul_le_mul_right _ hl
      rw [Nat.pow_succ]
      show (lvsS ps).length ≤ _
      omega
  · intro p ih d hf hd
    rw [Pt.deep_many] at hd
    exact ih d (kids_few hf (by simp [Pt.kids])) (by omega)
/-- a pair that the walk comes to -/
def Rch2 (t : Pt) (mv : List Mv) (x : PrN) : Prop := ∃ us : Wd, x = (pre mv 0 us, pre (ownP t 0 (0, [])).2 0 us)
theorem seen_few {t : Pt} (o : OkB 2 t) {mv : List Mv} (hm : mv.Perm (layP t 0 1 (2, [])).2) {E : List PrN} (nd : E.Nodup) (h : ∀ x ∈ E, Rch2 t mv x) : E.length ≤ 263169 := by
  have h1 := prs_few (m1 := mv) (m2 := (ownP t 0 (0, [])).2) nd fun x hx => by
    obtain ⟨us, rfl⟩ := h x hx
    exact ⟨pre_cand _ _ us, pre_cand _ _ us⟩
  have hl := lvs_pow t 2 o.few (by have := o.deep; omega)
  have c1 : cntS mv ≤ 9 := by
    have e : cntS mv = cntS (layP t 0 1 (2, [])).2 := (hm.filter _).length_eq
    have := lay_cnt t 0 1 (2, [])
    have z : cntS ((2, []) : Nat × List Mv).2 = 0 := rfl
    omega
  have c2 : cntS (ownP t 0 (0, [])).2 ≤ 9 := by
    have := own_cnt t 0 (0, [])
    have z : cntS ((0, []) : Nat × List Mv).2 = 0 := rfl
    omega
  have p1 : 2 ^ cntS mv ≤ 2 ^ 9 := Nat.pow_le_pow_right (by decide) c1
  have p2 : 2 ^ cntS (ownP t 0 (0, [])).2 ≤ 2 ^ 9 := Nat.pow_le_pow_right (by decide) c2
  exact Nat.le_trans h1 (Nat.le_trans (Nat.mul_le_mul (Nat.succ_le_succ p1) (Nat.succ_le_succ p2)) (by decide))
theorem strs_of {P : Str → Prop} : ∀ {L : List D}, (∀ d ∈ L, ∃ w, d = .str w ∧ P w) → ∃ ws : List Str, L = strsD ws ∧ ∀ w ∈ ws, P w
  | [], _ => ⟨[], rfl, fun _ h => nomatch h⟩
  | d :: L, h => by
    obtain ⟨ws, e, hw⟩ := strs_of (P := P) fun x hx => h x (List.mem_cons_of_mem _ hx)
    obtain ⟨w, rfl, pw⟩ := h d List.mem_cons_self
    exact ⟨w :: ws, by rw [e]; rfl, fun x hx => by
      rcases List.mem_cons.mp hx with rfl | hx
      · exact pw
      · exact hw x hx⟩
end L33
set_option maxRecDepth 100000
set_option maxHeartbeats 4000000
namespace L33
open PySem PySem.Spec L2
open Rt
open Rb
open Rs
open Rm
open Rc hiding N_l_pattern r_l_leaf r_l_pattern sp_l_leaf sp_l_leaf_mono sp_l_pattern sp_l_pattern_mono t_l_pattern
open ShB hiding N_l_leaf N_l_still dSeqWhile_gen r_l_leaf r_l_still sp_l_leaf sp_l_leaf_mono sp_l_still sp_l_still_mono t_l_leaf t_l_still
open Sh hiding N_l_cell_at N_l_feed N_l_leaf N_l_names N_l_pattern deeps_le deeps_mem perm_map_ex r_l_cell_at r_l_leaf r_l_pattern sp_l_leaf sp_l_leaf_mono sp_l_names sp_l_pattern sp_l_pattern_mono srt_strict t_l_cell_at t_l_feed t_l_leaf t_l_names t_l_pattern
open Dt hiding nkeys sp_l_cell_at sp_l_cell_at_mono sp_l_feed
/-! K33t: the walk side by side. -/
abbrev ownM (t : Pt) : List Mv := (ownP t 0 (0, [])).2
abbrev ownE (t : Pt) : Nat := (ownP t 0 (0, [])).1
def sp_l_alike : DSp := fun ds S Q _ => ∃ (t : Pt) (M : Mc), ds = [machD M, mcD (.int ((ownE t : Int) + 1)) (.int 0) (.tup [.int (ownE t : Nat)]) (ownM t), .rol ((lvs t).map ptD)] ∧ OkB 2 t ∧ OkMc M ∧ M.b = 0 ∧ M.es = [1] ∧ M.mv.Perm (layP t 0 1 (2, [])).2 ∧ Q (.bl true) S
theorem sp_l_alike_mono : SpMono sp_l_alike := fun ds S Q Q' E E' kk _ ⟨t, M, h1, h2, h3, h4, h5, h6, h⟩ => ⟨t, M, h1, h2, h3, h4, h5, h6, kk _ _ h⟩
def t_l_alike : DTS := (dSeq (dAsg (dOp dAddF (dSortSetAF (dFz (dLc (dSeqI (dVar 2)) (dGN 16) (dAnd (dTest (dOp (dEq false) (dOp dIxS (dVar 16) (dC (.int 0))) (dC (.str "step")))) (dTest (dOp (dEq true) (dOp dIxS (dVar 16) (dC (.int 2))) (dC (.str "*"))))) (dOp dIxS (dVar 16) (dC (.int 2))) [16]))) (dLstF (dCons (dC (.str "other")) dNil))) (dGN 3))
    (dSeq (dAsg (dCall sp_l_sets (dCons (dSortSetAF (dFz (dLc (dSeqI (dVar 2)) (dGN 16) (dTest (dOp (dIn false) (dOp dIxS (dVar 16) (dC (.int 0))) (dTup (dCons (dC (.str "at")) (dCons (dC (.str "off")) dNil))))) (dOp dIxS (dVar 16) (dC (.int 1))) [16]))) dNil)) (dGN 4))
    (dSeq (dAsg (dDispN (dTup (dCons (dTup (dCons (dOp dIxS (dVar 0) (dC (.int 1))) dNil)) (dCons (dTup (dCons (dOp dIxS (dVar 1) (dC (.int 1))) dNil)) dNil))) (dC (.bl true))) (dGN 5))
    (dSeq (dAsg (dCB cListA (dCons (dVar 5) dNil)) (dGN 6))
    (dSeq (dWhile (dTest (dOp (dEq true) (dVar 6) (dLstF dNil)))
      (dSeq (dAsg (dBM "list" mPop (dVar 6) dNil) (dGTupA 2 (dGCons (dGN 7) (dGCons (dGN 8) dGNil))))
    (dFor (dSeqI (dVar 4)) (dGN 9)
      (dSeq (dAsg (dCall sp_l_still (dCons (dVar 0) (dCons (dCB cListAF (dCons (dVar 7) dNil)) (dCons (dVar 9) dNil)))) (dGN 10))
    (dSeq (dAsg (dCall sp_l_still (dCons (dVar 1) (dCons (dCB cListAF (dCons (dVar 8) dNil)) (dCons (dVar 9) dNil)))) (dGN 11))
    (dSeq (dIf (dTest (dOp (dEq true) (dOp (dEq true) (dFz (dLc (dSeqI (dVar 10)) (dGN 17) (dTest (dOp (dIn false) (dVar 17) (dOp dIxS (dVar 0) (dC (.int 2))))) (dVar 17) [17])) (dLstF dNil)) (dOp (dIn false) (dOp dIxS (dOp dIxS (dVar 1) (dC (.int 2))) (dC (.int 0))) (dVar 11))))
      (dRet (dC (.bl false)))
      dNx)
    (dFor (dSeqI (dVar 3)) (dGN 12)
      (dFor (dSeqI (dLstF (dCons (dC (.str "on")) (dCons (dC (.str "back")) dNil)))) (dGN 13)
      (dSeq (dAsg (dCB cSortAF (dCons (dCall sp_l_by (dCons (dVar 0) (dCons (dVar 10) (dCons (dVar 13) (dCons (dVar 12) dNil))))) dNil)) (dGN 14))
    (dSeq (dAsg (dTup (dCons (dCB cTuple (dCons (dVar 14) dNil)) (dCons (dCB cTuple (dCons (dCB cSortAF (dCons (dCall sp_l_by (dCons (dVar 1) (dCons (dVar 11) (dCons (dVar 13) (dCons (dVar 12) dNil))))) dNil)) dNil)) dNil))) (dGN 15))
    (dIf (dTest (dOp (dIn true) (dVar 15) (dVar 5)))
      (dSeq (dPut (dVar 5) (dVar 15) (dC (.bl true)))
    (dDrop (dBM "list" mAppend (dVar 6) (dCons (dVar 15) dNil))))
      dNx)))))))))))
    (dRet (dC (.bl true))))))))
abbrev N_l_alike : List Str := ["_law_machine", "_law_own_here", "_law_leaves_here", "_law_words_here", "_law_sets_here", "_law_seen", "_law_line", "_law_one", "_law_other", "_law_marks_here", "_law_here", "_law_there", "_law_word", "_law_side", "_law_behind", "_law_pair", "_law_leaf_here", "_law_end"]
theorem step_okS {o : Bool} {w : Str} (h : (Pt.step o w).okP Nm) : okS w := by
  have := h _ (Pt.self_all _)
  exact this.elim (fun e => by rw [e]; unfold okS; decide +kernel) Nm.okS
theorem mark_okS {o : Bool} {w : Str} (h : (Pt.mark o w).okP Nm) : okS w := Nm.okS (h _ (Pt.self_all _))
/-- what the walk keeps: the pairs seen, the pairs that wait -/
def Kept (t : Pt) (mv : List Mv) (S : DH) (p q : Addr) (m : Nat) (S' : DH) : Prop := ∃ E L : List PrN, S' = upo (upo S p (.dN (seenD E))) q (.lst (L.map prD)) ∧ E.Nodup ∧ (∀ x ∈ E, Rch2 t mv x) ∧ (∀ x ∈ L, Rch2 t mv x) ∧ L.length ≤ E.length ∧ 2 * (300000 - E.length) + L.length ≤ m
def meas (p q : Addr) (S' : DH) : Nat := match S' p, S' q with
  | some (.dN E), some (.lst L) => 2 * (300000 - E.length) + L.length
  | _, _ => 0
theorem Kept.meas {t : Pt} {mv : List Mv} {S : DH} {p q : Addr} {m : Nat} {S' : DH} (h : Kept t mv S p q m S') (ne : q ≠ p) : L33.meas p q S' ≤ m := by
  obtain ⟨E, L, rfl, _, _, _, _, h⟩ := h
  unfold L33.meas
  simp [upo_ne ne.symm]
  exact h
theorem byStep_mem {mv : List Mv} {A B : List Nat} {sd w : Str} {n : Nat} (h : ∀ v, v ∈ A ↔ v ∈ B) : ByStep mv A sd w n ↔ ByStep mv B sd w n :=
  ⟨fun ⟨m, a, b, c⟩ => ⟨m, a, (h _).mp b, c⟩, fun ⟨m, a, b, c⟩ => ⟨m, a, (h _).mpr b, c⟩⟩
theorem cSrt_nats {L : List Nat} {k : List D → Prop} (h : k (srtD (natsD L))) : cSrt (natsD L) k := ⟨⟨.int, rfl, natsD_ty _⟩, h⟩
theorem r_l_alike (ds S Q E) (h : sp_l_alike ds S Q E) : t_l_alike (dEnd Q E) (dstart N_l_alike ds) S := by
  obtain ⟨t, M, rfl, ob, om, mb, me, pm, h⟩ := h
  have hm : ∀ x, x ∈ M.mv ↔ x ∈ (layP t 0 1 (2, [])).2 := fun x => pm.mem_iff
  have lv := lvs_pow t 2 ob.few (by have := ob.deep; omega)
  have lva : ∀ p ∈ lvs t, p.isLeaf = true ∧ p.okP Nm := fun p hp => ⟨(lvs_all t p hp).2, okP_in t ob.ok (lvs_all t p hp).1⟩
  have ml : M.mv.length ≤ 48 := by
    have bd := layP_bd t 0 1 (2, [])
    have al := Nat.le_trans ob.len (show 4 ^ 2 ≤ 16 by decide)
    have := bd.b2
    rw [pm.length_eq]
    simp only [List.length_nil] at this
    omega
  have ol : (ownM t).length ≤ 64 := by
    have al := Nat.le_trans ob.len (show 4 ^ 2 ≤ 16 by decide)
    have := own_len t 0 (0, [])
    simp only [List.length_nil] at this
    show (ownP t 0 (0, [])).2.length ≤ 64
    omega
  unfold t_l_alike
  refine dSeq_gen fun R hR => ?_
  simp [dstart]
  refine lcF_inv (fun i acc S1 => S1 = S ∧ acc.length ≤ i ∧ ∀ d ∈ acc, ∃ w, d = D.str w ∧ okS w) ⟨rfl, Nat.le_refl _, fun _ h => nomatch h⟩ (fun i acc S1 p hi ⟨e, _⟩ hp => by subst e; simp) (fun i d acc S1 p N hd ⟨e1, e2, e3⟩ hp ha hN => ?_) (by simp; omega) (fun acc S1 ⟨e1, e2, e3⟩ => ?_)
  · subst e1
    obtain ⟨p', hp', rfl⟩ : ∃ p' ∈ lvs t, d = ptD p' := by
      rw [List.getElem?_map] at hd
      obtain ⟨x, hx, e1⟩ := Option.map_eq_some_iff.mp hd
      exact ⟨x, List.mem_of_getElem? hx, e1.symm⟩
    obtain ⟨lf, okp⟩ := lva p' hp'
    have no : N (upo S1 p (.lst acc)) := hN acc S1 hp ⟨rfl, Nat.le_succ_of_le e2, e3⟩ (by omega)
    cases p' with
    | stay => simp [ptD]; exact no
    | mark o w => cases o <;> simp [ptD] <;> exact no
    | step o w =>
      by_cases e : w = Str.ofString "*"
      · simp [ptD, e]; exact no
      · simp [ptD, e]
        refine ⟨by omega, hN _ _ hp ⟨rfl, by simp; omega, fun d hd => ?_⟩ (by simp)⟩
        rcases List.mem_append.mp hd with hd | hd
        · exact e3 d hd
        · exact ⟨w, List.mem_singleton.mp hd, step_okS okp⟩
    | many q => cases lf
    | seq o q => cases lf
  · replace e1 := e1.symm
    subst e1
    simp at e2
    obtain ⟨ws, rfl, hws⟩ := strs_of e3
    obtain ⟨ws2, ew, hws2⟩ := strs_of (L := ssD (strsD ws)) (P := okS) fun d hd => by
      obtain ⟨w, hw, rfl⟩ := List.mem_map.mp (ss_mem.mp hd)
      exact ⟨w, rfl, hws w hw⟩
    have l2 : ws2.length ≤ 9 := by
      have := ss_len (strsD ws)
      rw [ew] at this
      simp at this e2
      omega
    simp at e2
    simp [ew, catD, scTy]
    refine ⟨?_, by unfold scanBound; omega, by omega, ?_⟩
    · exact .inl fun a ha => hws a ha
    subst hR
    refine dSeq_gen fun R hR => ?_
    simp
    refine lcF_inv (fun i acc S1 => S1 = S ∧ acc.length ≤ i ∧ ∀ d ∈ acc, ∃ w, d = D.str w ∧ okS w) ⟨rfl, Nat.le_refl _, fun _ h => nomatch h⟩ (fun i acc S1 p hi ⟨e, _⟩ hp => by subst e; simp) (fun i d acc S1 p N hd ⟨e1, e2, e3⟩ hp ha hN => ?_) (by simp; omega) (fun acc S1 ⟨e1, e2, e3⟩ => ?_)
    · subst e1
      obtain ⟨p', hp', rfl⟩ : ∃ p' ∈ lvs t, d = ptD p' := by
        rw [List.getElem?_map] at hd
        obtain ⟨x, hx, e1⟩ := Option.map_eq_some_iff.mp hd
        exact ⟨x, List.mem_of_getElem? hx, e1.symm⟩
      obtain ⟨lf, okp⟩ := lva p' hp'
      have no : N (upo S1 p (.lst acc)) := hN acc S1 hp ⟨rfl, Nat.le_succ_of_le e2, e3⟩ (by omega)
      have i2 : inF (.str (Str.ofString "stay")) [.str (Str.ofString "at"), .str (Str.ofString "off")] = false ∧ inF (.str (Str.ofString "step")) [.str (Str.ofString "at"), .str (Str.ofString "off")] = false ∧
        inF (.str (Str.ofString "at")) [.str (Str.ofString "at"), .str (Str.ofString "off")] = true ∧ inF (.str (Str.ofString "off")) [.str (Str.ofString "at"), .str (Str.ofString "off")] = true := by decide +kernel
      cases p' with
      | stay => simp [ptD, i2]; exact no
      | step o w => simp [ptD, i2]; exact no
      | mark o w =>
        have yes : N (upo S1 p (.lst (acc ++ [.str w]))) := hN _ _ hp ⟨rfl, by simp; omega, fun d hd => by
          rcases List.mem_append.mp hd with hd | hd
          · exact e3 d hd
          · exact ⟨w, List.mem_singleton.mp hd, mark_okS okp⟩⟩ (by simp)
        cases o <;> simp [ptD, i2] <;> exact ⟨by omega, yes⟩
      | many q => cases lf
      | seq o q => cases lf
    · replace e1 := e1.symm
      subst e1
      simp at e2
      obtain ⟨ks, rfl, hks⟩ := strs_of e3
      obtain ⟨ks2, ek, hks2⟩ := strs_of (L := ssD (strsD ks)) (P := okS) fun d hd => by
        obtain ⟨w, hw, rfl⟩ := List.mem_map.mp (ss_mem.mp hd)
        exact ⟨w, rfl, hks w hw⟩
      have l3 : ks2.length ≤ 9 := by
        have := ss_len (strsD ks)
        rw [ek] at this
        simp at this e2
        omega
      simp at e2
      simp [ek, scTy, rowD]
      refine ⟨.inl fun a ha => hks a ha, by unfold scanBound; omega, ?_⟩
      refine ⟨ks2, rfl, by omega, fun sets hsets => ?_⟩
      have hsets : ∀ l ∈ sets, ∀ x ∈ l, okS x := fun l hl x hx => hks2 x (hsets l hl x hx)
      dsimp only
      subst hR
      refine dSeq_gen fun R hR => ?_
      simp [machD, mcD, mb]
      intro sp hsp
      refine ⟨by simp, prD_ok ([0], [0]), ?_⟩
      rw [upo_upo]
      subst hR
      refine dSeq_gen fun R hR => ?_
      simp
      intro lp hlp
      have hlp0 : S lp = none ∧ lp ≠ sp := by
        by_cases e : lp = sp
        · rw [e] at hlp; simp at hlp
        · rw [upo_ne e] at hlp; exact ⟨hlp, e⟩
      subst hR
      have ew3 : strsD ws2 ++ [D.str (Str.ofString "other")] = strsD (ws2 ++ [Str.ofString "other"]) := by simp
      rw [ew3]
      generalize ws2 ++ [Str.ofString "other"] = ws3
      refine dSeqWhile_gen fun B R hB hR => ?_
      let I : DSt → DH → Prop := fun τ S' => ∃ (x7 x8 x9 x10 x11 x12 x13 x14 x15 x16 x17 : Option D) (m : Nat), τ = [some (D.tup [D.int M.n, D.int 0, D.tup (natsD M.es), D.tup (List.map mvD M.mv)]), some (D.tup [D.int ((ownE t : Int) + 1), D.int 0, D.tup [D.int (ownE t : Nat)], D.tup (List.map mvD (ownM t))]),
        some (D.rol (List.map ptD (lvs t))), some (D.rol (strsD ws3)), some (setsD sets), some (D.ref sp), some (D.ref lp), x7, x8, x9, x10, x11, x12, x13, x14, x15, x16, x17] ∧ Kept t M.mv S sp lp m S'
      refine while_inv I (fun τ S' => meas sp lp S') ⟨none, none, none, none, none, none, none, none, none, none, none, 2 * (300000 - 1) + 1, rfl, [([0], [0])], [([0], [0])], rfl, by simp, fun x hx => ⟨[], List.mem_singleton.mp hx⟩, fun x hx => ⟨[], List.mem_singleton.mp hx⟩, Nat.le_refl _, Nat.le_refl _⟩ ?_
      rintro τ S1 N ⟨x7, x8, x9, x10, x11, x12, x13, x14, x15, x16, x17, m, rfl, E0, L0, rfl, nd0, rE, rL, hle, hmm⟩ hN
      have hfew := seen_few ob pm nd0 rE
      simp [upo_ne hlp0.2]
      refine dEq_seq (xs := L0.map prD) (ys := []) (by simp) rfl (fun d hd => by
        obtain ⟨x, _, rfl⟩ := List.mem_map.mp hd
        exact prD_sm x) (fun _ h => nomatch h) ?_
      simp
      split
      · subst hR
        simp
        refine .keep (fun a o ha => ?_) h
        have h1 : a ≠ lp := fun z => by rw [z, hlp0.1] at ha; cases ha
        have h2 : a ≠ sp := fun z => by rw [z, hsp] at ha; cases ha
        rw [upo_ne h1, upo_ne h2]; exact ha
      · rename_i hne
        obtain ⟨L, x, rfl⟩ : ∃ L x, L0 = L ++ [x] := ⟨L0.dropLast, L0.getLast hne, (List.dropLast_concat_getLast hne).symm⟩
        subst hB
        refine dSeq_gen fun R2 hR2 => ?_
        simp
        subst hR2
        obtain ⟨us, rfl⟩ := rL x (List.mem_append_right _ (List.mem_singleton.mpr rfl))
        have rL1 : ∀ y ∈ L, Rch2 t M.mv y := fun y hy => rL y (List.mem_append_left _ hy)
        have hm1 : 2 * (300000 - E0.length) + L.length < meas sp lp (upo (upo S sp (.dN (seenD E0))) lp (.lst ((L ++ [(pre M.mv 0 us, pre (ownM t) 0 us)]).map prD))) := by
          unfold meas
          simp [upo_ne hlp0.2.symm]
        have hN1 : ∀ (y7 y8 y9 y10 y11 y12 y13 y14 y15 y16 y17 : Option D) (S' : DH), Kept t M.mv S sp lp (2 * (300000 - E0.length) + L.length) S' → N [some (D.tup [D.int M.n, D.int 0, D.tup (natsD M.es), D.tup (List.map mvD M.mv)]), some (D.tup [D.int ((ownE t : Int) + 1), D.int 0, D.tup [D.int (ownE t : Nat)], D.tup (List.map mvD (ownM t))]),
            some (D.rol (List.map ptD (lvs t))), some (D.rol (strsD ws3)), some (setsD sets), some (D.ref sp), some (D.ref lp), y7, y8, y9, y10, y11, y12, y13, y14, y15, y16, y17] S' := fun y7 y8 y9 y10 y11 y12 y13 y14 y15 y16 y17 S' k =>
          hN _ _ ⟨y7, y8, y9, y10, y11, y12, y13, y14, y15, y16, y17, _, rfl, k⟩ (Nat.lt_of_le_of_lt (k.meas hlp0.2) hm1)
        have k0 : Kept t M.mv S sp lp (2 * (300000 - E0.length) + L.length) (upo (upo S sp (.dN (seenD E0))) lp (.lst (L.map prD))) := ⟨E0, L, rfl, nd0, rE, rL1, by simp at hle; omega, Nat.le_refl _⟩
        clear hN hm1 hmm
        generalize 2 * (300000 - E0.length) + L.length = m0 at hN1 k0
        generalize upo (upo S sp (.dN (seenD E0))) lp (.lst (L.map prD)) = S1 at k0
        refine dFor_gen fun B hB => ?_
        simp
        refine loop_inv (fun j τ S' => ∃ (x9 x10 x11 x12 x13 x14 x15 x16 x17 : Option D), τ = [some (D.tup [D.int M.n, D.int 0, D.tup (natsD M.es), D.tup (List.map mvD M.mv)]), some (D.tup [D.int ((ownE t : Int) + 1), D.int 0, D.tup [D.int (ownE t : Nat)], D.tup (List.map mvD (ownM t))]),
            some (D.rol (List.map ptD (lvs t))), some (D.rol (strsD ws3)), some (setsD sets), some (D.ref sp), some (D.ref lp), some (D.tup (natsD (pre M.mv 0 us))), some (D.tup (natsD (pre (ownM t) 0 us))), x9, x10, x11, x12, x13, x14, x15, x16, x17] ∧ Kept t M.mv S sp lp m0 S')
          ⟨x9, x10, x11, x12, x13, x14, x15, x16, x17, rfl, k0⟩ (fun _ _ _ _ _ => trivial) ?_ ?_
        · rintro j d τ S2 N2 hd2 ⟨x9, x10, x11, x12, x13, x14, x15, x16, x17, rfl, kp⟩ hN2
          obtain ⟨ms, hms, rfl⟩ : ∃ ms ∈ sets, d = .rol (strsD ms) := by
            rw [List.getElem?_map] at hd2
            obtain ⟨x, hx, e1⟩ := Option.map_eq_some_iff.mp hd2
            exact ⟨x, List.mem_of_getElem? hx, e1.symm⟩
          have hokm := hsets ms hms
          simp
          subst hB
          refine dSeq_gen fun R2 hR2 => ?_
          simp
          obtain ⟨pa1, pa2⟩ := pre_ok M.mv us
          obtain ⟨pb1, pb2⟩ := pre_ok (ownM t) us
          refine ⟨.int M.n, .int 0, .tup (natsD M.es), M.mv, pre M.mv 0 us, ms, .rol (strsD ms), rfl, rfl, om.mvs, hokm, by omega, pa1.imp fun {a b} z => Nat.ne_of_lt z, fun H ndH hH => ?_⟩
          dsimp only
          subst hR2
          refine dSeq_gen fun R2 hR2 => ?_
          simp
          refine ⟨.int ((ownE t : Int) + 1), .int 0, .tup [.int (ownE t : Nat)], ownM t, pre (ownM t) 0 us, ms, .rol (strsD ms), rfl, rfl, own_mvs ob.ok, hokm, by omega, pb1.imp fun {a b} z => Nat.ne_of_lt z, fun T ndT hT => ?_⟩
          dsimp only
          have cH := come_len ndH fun n hn => (hH n).mp hn
          have cT := come_len ndT fun n hn => (hT n).mp hn
          have hend : decide ((1 : Nat) ∈ H) = decide (ownE t ∈ T) := decide_eq_decide.mpr (by rw [hH, hT]; exact end_alike hm us ms)
          subst hR2
          refine dSeqIf_gen fun A3 B3 R3 hA3 hB3 hR3 => ?_
          simp [me]
          refine lcF_of (fun d => decide (d = D.int (1 : Nat))) (fun d => d) (fun p acc hp => by simp) (fun d hd acc p N hp ha h1 h2 => ?_) (by simp; omega) ?_
          · obtain ⟨n, hn, rfl⟩ := List.mem_map.mp hd
            by_cases e : n = 1
            · subst e
              have := h1 (decide_eq_true rfl)
              simp [inF, eqF] at this ⊢
              exact ⟨by omega, this⟩
            · have e2 : ¬ (n : Int) = 1 := by omega
              have := h2 (decide_eq_false fun z => by injection z with z; exact e2 z)
              simp [inF, eqF, Ne.symm e2]
              first | exact this | exact (0 : Nat)
          · generalize hX : List.map (fun d => d) (List.filter (fun d => decide (d = D.int (1 : Nat))) (natsD H)) = X
            have hXe : X = [] ↔ ¬ (1 ∈ H) := by
              rw [← hX, List.map_eq_nil_iff, List.filter_eq_nil_iff]
              constructor
              · intro z h1
                exact absurd (decide_eq_true rfl) (z (.int (1 : Nat)) (List.mem_map.mpr ⟨1, h1, rfl⟩))
              · intro z d hd hd2
                obtain ⟨n, hn, rfl⟩ := List.mem_map.mp hd
                have e := of_decide_eq_true hd2
                injection e with e
                have : n = 1 := by omega
                exact z (this ▸ hn)
            refine dEq_seq (xs := X) (ys := []) rfl rfl (fun x hx => by
              rw [← hX, List.map_id'] at hx
              obtain ⟨n, _, rfl⟩ := List.mem_map.mp (List.mem_filter.mp hx).1
              exact Sm_int) (fun _ h => nomatch h) ?_
            rw [← hend]
            simp [hXe]
            subst hB3
            simp
            subst hR3
            refine dFor_gen fun B4 hB4 => ?_
            simp
            refine loop_inv (fun j τ S' => ∃ (x12 x13 x14 x15 x16 x17 : Option D), τ = [some (D.tup [D.int M.n, D.int 0, D.tup [D.int 1], D.tup (List.map mvD M.mv)]), some (D.tup [D.int ((ownE t : Int) + 1), D.int 0, D.tup [D.int (ownE t : Nat)], D.tup (List.map mvD (ownM t))]),
                some (D.rol (List.map ptD (lvs t))), some (D.rol (strsD ws3)), some (setsD sets), some (D.ref sp), some (D.ref lp), some (D.tup (natsD (pre M.mv 0 us))), some (D.tup (natsD (pre (ownM t) 0 us))), some (D.rol (strsD ms)), some (D.rol (natsD H)), some (D.rol (natsD T)), x12, x13, x14, x15, x16, x17] ∧ Kept t M.mv S sp lp m0 S')
              ⟨x12, x13, x14, x15, x16, x17, rfl, kp⟩ (fun _ _ _ _ _ => trivial) ?_ ?_
            · rintro j4 d τ S3 N3 hd3 ⟨x12, x13, x14, x15, x16, x17, rfl, kp⟩ hN3
              obtain ⟨word, rfl⟩ : ∃ word, d = .str word := by
                rw [List.getElem?_map] at hd3
                obtain ⟨x, hx, e1⟩ := Option.map_eq_some_iff.mp hd3
                exact ⟨x, e1.symm⟩
              clear hd3
              simp
              subst hB4
              refine dFor_gen fun B5 hB5 => ?_
              simp only [dFor, dSeqI, dLstF, dCons, dNil, dC]
              have hsd : ∀ d ∈ [D.str (Str.ofString "on"), D.str (Str.ofString "back")], ∃ side, d = D.str side := by simp
              have hsl : [D.str (Str.ofString "on"), D.str (Str.ofString "back")].length ≤ 16777216 := by simp
              generalize [D.str (Str.ofString "on"), D.str (Str.ofString "back")] = sds at hsd hsl
              simp
              refine ⟨hsl, ?_⟩
              refine loop_inv (fun j τ S' => ∃ (x13 x14 x15 x16 x17 : Option D), τ = [some (D.tup [D.int M.n, D.int 0, D.tup [D.int 1], D.tup (List.map mvD M.mv)]), some (D.tup [D.int ((ownE t : Int) + 1), D.int 0, D.tup [D.int (ownE t : Nat)], D.tup (List.map mvD (ownM t))]),
                  some (D.rol (List.map ptD (lvs t))), some (D.rol (strsD ws3)), some (setsD sets), some (D.ref sp), some (D.ref lp), some (D.tup (natsD (pre M.mv 0 us))), some (D.tup (natsD (pre (ownM t) 0 us))), some (D.rol (strsD ms)), some (D.rol (natsD H)), some (D.rol (natsD T)), some (D.str word), x13, x14, x15, x16, x17] ∧ Kept t M.mv S sp lp m0 S')
                ⟨x13, x14, x15, x16, x17, rfl, kp⟩ (fun _ _ _ _ _ => trivial) ?_ ?_
              · rintro j5 d τ S4 N4 hd4 ⟨x13, x14, x15, x16, x17, rfl, kp⟩ hN4
                obtain ⟨side, rfl⟩ := hsd d (List.mem_of_getElem? hd4)
                clear hd4
                simp
                subst hB5
                refine dSeq_gen fun R5 hR5 => ?_
                simp
                refine ⟨.int M.n, .int 0, .tup [.int 1], M.mv, H, side, word, .rol (natsD H), rfl, .inl rfl, om.mvs, by omega, fun B1 ndB hB1 => ?_⟩
                dsimp only
                simp
                have s1 := nats_sorted (sortN_is (by_fin M.mv (sortN (Come M.mv ms (pre M.mv 0 us))) side word)).1 ndB fun n => by
                  rw [(sortN_is (by_fin M.mv (sortN (Come M.mv ms (pre M.mv 0 us))) side word)).2, hB1]
                  exact byStep_mem (fun v => by rw [(sortN_is (come_fin _ _ _)).2, hH])
                refine cSrt_nats ?_
                rw [s1]
                subst hR5
                refine dSeq_gen fun R5 hR5 => ?_
                simp
                refine ⟨.int ((ownE t : Int) + 1), .int 0, .tup [.int (ownE t : Nat)], ownM t, T, side, word, .rol (natsD T), rfl, .inl rfl, own_mvs ob.ok, by omega, fun B2 ndB2 hB2 => ?_⟩
                dsimp only
                have s2 := nats_sorted (sortN_is (by_fin (ownM t) (sortN (Come (ownM t) ms (pre (ownM t) 0 us))) side word)).1 ndB2 fun n => by
                  rw [(sortN_is (by_fin (ownM t) (sortN (Come (ownM t) ms (pre (ownM t) 0 us))) side word)).2, hB2]
                  exact byStep_mem (fun v => by rw [(sortN_is (come_fin _ _ _)).2, hT])
                simp
                refine cSrt_nats ?_
                rw [s2]
                have hR2n : Rch2 t M.mv (sortN (ByStep M.mv (sortN (Come M.mv ms (pre M.mv 0 us))) side word), sortN (ByStep (ownM t) (sortN (Come (ownM t) ms (pre (ownM t) 0 us))) side word)) := ⟨(ms, side, word) :: us, rfl⟩
                clear s1 s2 hB1 hB2 ndB ndB2
                generalize sortN (ByStep M.mv (sortN (Come M.mv ms (pre M.mv 0 us))) side word) = ya at hR2n ⊢
                generalize sortN (ByStep (ownM t) (sortN (Come (ownM t) ms (pre (ownM t) 0 us))) side word) = yb at hR2n ⊢
                obtain ⟨E1, L1, rfl, nd1, rE1, rL2, hle1, hm1⟩ := kp
                have hfew1 := seen_few ob pm nd1 rE1
                subst hR5
                simp [upo_ne hlp0.2.symm]
                refine ⟨prD_ok (ya, yb), ?_⟩
                have slk := seen_lk (E := E1) (x := (ya, yb))
                simp only [prD] at slk
                by_cases hin : (ya, yb) ∈ E1
                · rw [decide_eq_true hin] at slk
                  rw [if_neg fun z => by rw [z] at slk; cases slk]
                  exact hN4 _ _ ⟨_, _, _, _, _, rfl, E1, L1, rfl, nd1, rE1, rL2, hle1, hm1⟩
                · rw [decide_eq_false hin] at slk
                  have lkN : lk (seenD E1) (D.tup [D.tup (natsD ya), D.tup (natsD yb)]) = none := by
                    cases q : lk (seenD E1) (D.tup [D.tup (natsD ya), D.tup (natsD yb)]) with
                    | none => rfl
                    | some d => rw [q] at slk; cases slk
                  have sp2 := seen_put hin
                  simp only [prD] at sp2
                  have nd2 : (E1 ++ [(ya, yb)]).Nodup := List.nodup_append.mpr ⟨nd1, by simp, fun a ha b hb e => hin (by rw [← List.mem_singleton.mp hb, ← e]; exact ha)⟩
                  have rE2 : ∀ x ∈ E1 ++ [(ya, yb)], Rch2 t M.mv x := fun x hx => by
                    rcases List.mem_append.mp hx with hx | hx
                    · exact rE1 x hx
                    · rw [List.mem_singleton.mp hx]; exact hR2n
                  have hfew2 := seen_few ob pm nd2 rE2
                  simp only [List.length_append, List.length_cons, List.length_nil] at hfew2
                  rw [if_pos lkN, if_pos ⟨prD_ok (ya, yb), by omega⟩, sp2]
                  simp [upo_ne hlp0.2, upo_swap hlp0.2.symm]
                  refine ⟨by omega, hN4 _ _ ⟨_, _, _, _, _, rfl, E1 ++ [(ya, yb)], L1 ++ [(ya, yb)], by simp, nd2, rE2, fun x hx => ?_, by simp; omega, by simp; omega⟩⟩
                  rcases List.mem_append.mp hx with hx | hx
                  · exact rL2 x hx
                  · rw [List.mem_singleton.mp hx]; exact hR2n
              · rintro τ S4 ⟨x13, x14, x15, x16, x17, rfl, kp⟩
                exact hN3 _ _ ⟨_, _, _, _, _, _, rfl, kp⟩
            · rintro τ S3 ⟨x12, x13, x14, x15, x16, x17, rfl, kp⟩
              exact hN2 _ _ ⟨_, _, _, _, _, _, _, _, _, by rw [me]; rfl, kp⟩
        · rintro τ S2 ⟨x9, x10, x11, x12, x13, x14, x15, x16, x17, rfl, kp⟩
          exact hN1 _ _ _ _ _ _ _ _ _ _ _ _ kp
end L33
set_option maxRecDepth 100000
set_option maxHeartbeats 4000000
namespace L33
open PySem PySem.Spec L2
open Rt
open Rb
open Rs
open Rm
open Rc hiding N_l_pattern r_l_leaf r_l_pattern sp_l_leaf sp_l_leaf_mono sp_l_pattern sp_l_pattern_mono t_l_pattern
open ShB hiding N_l_leaf N_l_still dSeqWhile_gen r_l_leaf r_l_still sp_l_leaf sp_l_leaf_mono sp_l_still sp_l_still_mono t_l_leaf t_l_still
open Sh hiding N_l_cell_at N_l_feed N_l_leaf N_l_names N_l_pattern deeps_le deeps_mem perm_map_ex r_l_cell_at r_l_leaf r_l_pattern sp_l_leaf sp_l_leaf_mono sp_l_names sp_l_pattern sp_l_pattern_mono srt_strict t_l_cell_at t_l_feed t_l_leaf t_l_names t_l_pattern
open Dt hiding nkeys sp_l_cell_at sp_l_cell_at_mono sp_l_feed
/-! K33u: the law. -/
def sp_law : DSp := fun ds S Q _ => ∃ ns : List Int, ds = [.rol (ns.map D.int)] ∧ ns.length ≤ 63 ∧ ∀ S', Q (.bl true) S'
theorem sp_law_mono : SpMono sp_law := fun ds S Q Q' E E' k _ ⟨ns, h1, h2, h⟩ => ⟨ns, h1, h2, fun S' => k _ _ (h S')⟩
def t_law (C_Maker : Addr) : DTS := (dSeq (dFor (dRng1 (dCons (dOp dAddF (dC (.int 1)) (dCB cLen (dCons (dSlF (dVar 0) dNoP (dSoP (dC (.int 1)))) dNil))) dNil)) (dGN 1)
      (dSeq (dAsg (dCall sp_l_pattern (dCons (dCall sp_l_cell_at (dCons (dVar 0) (dCons (dVar 1) dNil))) (dCons (dC (.int 2)) dNil))) (dGN 2))
    (dSeq (dAsg (dLst dNil) (dGN 3))
    (dSeq (dAsg (dCall (sp_l_own 2) (dCons (dVar 2) (dCons (dC (.int 0)) (dCons (dVar 3) (dCons (dC (.int 0)) dNil))))) (dGN 4))
    (dIf (dNot (dTest (dCall sp_l_alike (dCons (dCall (sp_machine_of C_Maker) (dCons (dVar 2) dNil)) (dCons (dTup (dCons (dOp dAddF (dVar 4) (dC (.int 1))) (dCons (dC (.int 0)) (dCons (dTup (dCons (dVar 4) dNil)) (dCons (dCB cTuple (dCons (dVar 3) dNil)) dNil))))) (dCons (dCall (sp_l_leaves 2) (dCons (dVar 2) dNil)) dNil))))))
      (dRet (dC (.bl false)))
      dNx)))))
    (dRet (dC (.bl true))))
abbrev N_law : List Str := ["_law_script", "_law_k", "_law_pattern_here", "_law_moves", "_law_last"]
theorem cut_one3 (ds : List D) : (cutD ds none (some 1)).length ≤ 1 := by
  unfold cutD
  rw [List.length_take, List.length_drop]
  have e : HT.sIx ds.length ds.length (some 1) ≤ 1 := by
    rw [show (some (1 : Int)) = some ((1 : Nat) : Int) from rfl, HT.sIx_nat]
    omega
  omega
theorem r_law {CM : Addr} (ds S Q E) (h : sp_law ds S Q E) : t_law CM (dEnd Q E) (dstart N_law ds) S := by
  obtain ⟨ns, rfl, hl, h⟩ := h
  unfold t_law
  refine dSeqFor_gen fun B R1 hB hR => ?_
  have hc := cut_one3 (ns.map D.int)
  simp [dstart]
  generalize (cutD (ns.map D.int) none (some 1)).length = cl at hc
  refine ⟨⟨by omega, by omega⟩, ?_⟩
  rw [show (1 + (cl : Int)).toNat = 1 + cl by omega]
  refine loop_inv (fun i τ S' => ∃ x1 x2 x3 x4 : Option D, τ = [some (.rol (ns.map D.int)), x1, x2, x3, x4]) ⟨none, none, none, none, rfl⟩ (fun _ _ _ _ _ => trivial) (fun i d0 τ S0 N hd0 ⟨x1, x2, x3, x4, et⟩ hN => ?_) (fun τ S1 ⟨x1, x2, x3, x4, et⟩ => ?_)
  · subst et
    obtain ⟨hi, rfl⟩ := rng_get hd0
    simp
    subst hB
    refine dSeq_gen fun R2 hR2 => ?_
    simp
    refine ⟨ns, i, by simp, ?_⟩
    generalize ns.getD i 0 = c
    refine ⟨c, rfl, fun t ob => ?_⟩
    dsimp only
    have al := Nat.le_trans ob.len (show 4 ^ 2 ≤ 16 by decide)
    have hd := ob.deep
    subst hR2
    refine dSeq_gen fun R2 hR2 => ?_
    simp
    intro q hq
    subst hR2
    refine dSeq_gen fun R2 hR2 => ?_
    simp
    refine ⟨t, 0, 0, q, [], rfl, by simp, by omega, ob.ok, by omega, by simp; omega, ?_⟩
    simp
    subst hR2
    simp
    refine ⟨t, rfl, ob.ok, by omega, by omega, fun r hr => by have := ob.few r hr; omega, fun M om mn mb me mp => ?_⟩
    simp
    refine ⟨t, rfl, by omega, ob.ok, by omega, ?_⟩
    simp
    refine ⟨t, M, rfl, ob, om, mb, me, mp, ?_⟩
    simp
    exact hN _ _ ⟨_, _, _, _, rfl⟩
  · subst et hR
    simp
    exact .same (h _)
end L33
set_option maxRecDepth 100000
set_option maxHeartbeats 4000000
namespace K33X
open PySem PySem.Spec L2
open L33
open Rt
open Rb hiding Wd pre_ok
open Rs hiding prD prD_inj
open Rm
open Rc hiding N_l_pattern r_l_leaf r_l_pattern sp_l_leaf sp_l_leaf_mono sp_l_pattern sp_l_pattern_mono t_l_pattern
open ShB hiding N_l_leaf N_l_still dSeqWhile_gen r_l_leaf r_l_still sp_l_leaf sp_l_leaf_mono sp_l_still sp_l_still_mono t_l_leaf t_l_still
open Sh hiding N_l_cell_at N_l_feed N_l_leaf N_l_names N_l_pattern deeps_le deeps_mem perm_map_ex r_l_cell_at r_l_leaf r_l_pattern sp_l_leaf sp_l_leaf_mono sp_l_names sp_l_pattern sp_l_pattern_mono srt_strict t_l_cell_at t_l_feed t_l_leaf t_l_names t_l_pattern
open Dt hiding nkeys sp_l_cell_at sp_l_cell_at_mono sp_l_feed
/-! the text by places -/
def topS (i : Nat) : Stmt := PySem.Challenge.pw_pathask_k33_whole_every_web.main.body.getD i (.Pass ⟨0, 0, 0, 0⟩)
abbrev s_Maker_init : Stmt := inClass (topS 2) 0
theorem sc_Maker_init : FnScope ["self"] ["self"] (defScope s_Maker_init) := ⟨rfl, rfl, rfl, by decide +kernel, rfl, by decide +kernel, by decide +kernel⟩
abbrev s_Maker_fresh : Stmt := inClass (topS 2) 1
theorem sc_Maker_fresh : FnScope ["self"] ["self"] (defScope s_Maker_fresh) := ⟨rfl, rfl, rfl, by decide +kernel, rfl, by decide +kernel, by decide +kernel⟩
abbrev s_l_cell_at : Stmt := topS 5
theorem sc_l_cell_at : FnScope ["_law_script", "_law_k"] ["_law_script", "_law_k"] (defScope s_l_cell_at) := ⟨rfl, rfl, rfl, by decide +kernel, rfl, by decide +kernel, by decide +kernel⟩
abbrev s_l_draws : Stmt := topS 6
theorem sc_l_draws : FnScope ["_law_cell", "_law_sizes", "_law_found", "_law_figures", "_law_k", "_law_mixed"] ["_law_cell", "_law_sizes"] (defScope s_l_draws) := ⟨rfl, rfl, rfl, by decide +kernel, rfl, by decide +kernel, by decide +kernel⟩
abbrev s_l_words : Stmt := topS 7
theorem sc_l_words : FnScope [] [] (defScope s_l_words) := ⟨rfl, rfl, rfl, by decide +kernel, rfl, by decide +kernel, by decide +kernel⟩
abbrev s_l_marks : Stmt := topS 8
theorem sc_l_marks : FnScope [] [] (defScope s_l_marks) := ⟨rfl, rfl, rfl, by decide +kernel, rfl, by decide +kernel, by decide +kernel⟩
abbrev s_l_still : Stmt := topS 12
theorem sc_l_still : FnScope ["_law_machine", "_law_stands", "_law_marks_here", "_law_found", "_law_at", "_law_one", "_law_leaf_here", "_law_other"] ["_law_machine", "_law_stands", "_law_marks_here"] (defScope s_l_still) := ⟨rfl, rfl, rfl, by decide +kernel, rfl, by decide +kernel, by decide +kernel⟩
abbrev s_l_by : Stmt := topS 13
theorem sc_l_by : FnScope ["_law_machine", "_law_stands", "_law_side", "_law_word", "_law_found", "_law_one", "_law_leaf_here", "_law_other"] ["_law_machine", "_law_stands", "_law_side", "_law_word"] (defScope s_l_by) := ⟨rfl, rfl, rfl, by decide +kernel, rfl, by decide +kernel, by decide +kernel⟩
abbrev s_l_sets : Stmt := topS 16
theorem sc_l_sets : FnScope ["_law_some", "_law_found", "_law_one", "_law_rest"] ["_law_some"] (defScope s_l_sets) := ⟨rfl, rfl, rfl, by decide +kernel, rfl, by decide +kernel, by decide +kernel⟩
abbrev s_l_leaf : Stmt := topS 9
theorem sc_l_leaf : FnScope ["_law_way", "_law_number"] ["_law_way", "_law_number"] (defScope s_l_leaf) := ⟨rfl, rfl, rfl, by decide +kernel, rfl, by decide +kernel, by decide +kernel⟩
abbrev s_l_alike : Stmt := topS 17
theorem sc_l_alike : FnScope ["_law_machine", "_law_own_here", "_law_leaves_here", "_law_words_here", "_law_sets_here", "_law_seen", "_law_line", "_law_one", "_law_other", "_law_marks_here", "_law_here", "_law_there", "_law_word", "_law_side", "_law_behind", "_law_pair", "_law_leaf_here", "_law_end"] ["_law_machine", "_law_own_here", "_law_leaves_here"] (defScope s_l_alike) := ⟨rfl, rfl, rfl, by decide +kernel, rfl, by decide +kernel, by decide +kernel⟩
abbrev s_l_own : Stmt := topS 14
theorem sc_l_own : FnScope ["_law_pattern_here", "_law_one", "_law_moves", "_law_last", "_law_part_here", "_law_inner", "_law_ends", "_law_end"] ["_law_pattern_here", "_law_one", "_law_moves", "_law_last"] (defScope s_l_own) := ⟨rfl, rfl, rfl, by decide +kernel, rfl, by decide +kernel, by decide +kernel⟩
abbrev s_l_leaves : Stmt := topS 15
theorem sc_l_leaves : FnScope ["_law_pattern_here", "_law_found", "_law_part_here"] ["_law_pattern_here"] (defScope s_l_leaves) := ⟨rfl, rfl, rfl, by decide +kernel, rfl, by decide +kernel, by decide +kernel⟩
abbrev s_l_part : Stmt := topS 10
theorem sc_l_part : FnScope ["_law_ds", "_law_at", "_law_deep", "_law_way", "_law_number", "_law_part_here", "_law_parts", "_law_k"] ["_law_ds", "_law_at", "_law_deep"] (defScope s_l_part) := ⟨rfl, rfl, rfl, by decide +kernel, rfl, by decide +kernel, by decide +kernel⟩
abbrev s_l_pattern : Stmt := topS 11
theorem sc_l_pattern : FnScope ["_law_cell", "_law_deep"] ["_law_cell", "_law_deep"] (defScope s_l_pattern) := ⟨rfl, rfl, rfl, by decide +kernel, rfl, by decide +kernel, by decide +kernel⟩
abbrev s_Maker_lay : Stmt := inClass (topS 2) 2
theorem sc_Maker_lay : FnScope ["self", "pattern", "one", "other", "part", "middle"] ["self", "pattern", "one", "other"] (defScope s_Maker_lay) := ⟨rfl, rfl, rfl, by decide +kernel, rfl, by decide +kernel, by decide +kernel⟩
abbrev s_Maker_lay_row : Stmt := inClass (topS 2) 3
theorem sc_Maker_lay_row : FnScope ["self", "parts", "one", "other", "here", "place", "there"] ["self", "parts", "one", "other"] (defScope s_Maker_lay_row) := ⟨rfl, rfl, rfl, by decide +kernel, rfl, by decide +kernel, by decide +kernel⟩
abbrev s_machine_of : Stmt := topS 3
theorem sc_machine_of : FnScope ["pattern", "maker"] ["pattern"] (defScope s_machine_of) := ⟨rfl, rfl, rfl, by decide +kernel, rfl, by decide +kernel, by decide +kernel⟩
abbrev s_law : Stmt := topS 18
theorem sc_law : FnScope ["_law_script", "_law_k", "_law_pattern_here", "_law_moves", "_law_last"] ["_law_script"] (defScope s_law) := ⟨rfl, rfl, rfl, by decide +kernel, rfl, by decide +kernel, by decide +kernel⟩
set_option genInjectivity false in
set_option genSizeOf false in
structure Txt (w : World) (K : PySem.W.Frag) (mg : Str → Option Value) where
  C_Maker : Addr
  c_Maker : Cls K C_Maker
  g_Maker : mg "Maker" = some (.ref C_Maker)
  n_Maker_laid : NoAttr K C_Maker "laid"
  n_Maker_size : NoAttr K C_Maker "size"
  a_Maker_init : Addr
  f_Maker_init : FuncData
  F_Maker_init : Fun K "__init__" "Maker.__init__" s_Maker_init a_Maker_init f_Maker_init
  k_Maker : Mk K C_Maker a_Maker_init
  d_Maker_init : Binds K f_Maker_init ["self"] []
  a_Maker_fresh : Addr
  f_Maker_fresh : FuncData
  F_Maker_fresh : Fun K "fresh" "Maker.fresh" s_Maker_fresh a_Maker_fresh f_Maker_fresh
  M_Maker_fresh : Meth K C_Maker "fresh" a_Maker_fresh
  d_Maker_fresh : Binds K f_Maker_fresh ["self"] []
  a_l_cell_at : Addr
  f_l_cell_at : FuncData
  F_l_cell_at : Fun K "_law_cell_at" "_law_cell_at" s_l_cell_at a_l_cell_at f_l_cell_at
  m_l_cell_at : mg "_law_cell_at" = some (.ref a_l_cell_at)
  d_l_cell_at : Binds K f_l_cell_at ["_law_script", "_law_k"] []
  a_l_draws : Addr
  f_l_draws : FuncData
  F_l_draws : Fun K "_law_draws" "_law_draws" s_l_draws a_l_draws f_l_draws
  m_l_draws : mg "_law_draws" = some (.ref a_l_draws)
  d_l_draws : Binds K f_l_draws ["_law_cell", "_law_sizes"] []
  a_l_words : Addr
  f_l_words : FuncData
  F_l_words : Fun K "_law_words" "_law_words" s_l_words a_l_words f_l_words
  m_l_words : mg "_law_words" = some (.ref a_l_words)
  d_l_words : Binds K f_l_words [] []
  a_l_marks : Addr
  f_l_marks : FuncData
  F_l_marks : Fun K "_law_marks" "_law_marks" s_l_marks a_l_marks f_l_marks
  m_l_marks : mg "_law_marks" = some (.ref a_l_marks)
  d_l_marks : Binds K f_l_marks [] []
  a_l_still : Addr
  f_l_still : FuncData
  F_l_still : Fun K "_law_still" "_law_still" s_l_still a_l_still f_l_still
  m_l_still : mg "_law_still" = some (.ref a_l_still)
  d_l_still : Binds K f_l_still ["_law_machine", "_law_stands", "_law_marks_here"] []
  a_l_by : Addr
  f_l_by : FuncData
  F_l_by : Fun K "_law_by" "_law_by" s_l_by a_l_by f_l_by
  m_l_by : mg "_law_by" = some (.ref a_l_by)
  d_l_by : Binds K f_l_by ["_law_machine", "_law_stands", "_law_side", "_law_word"] []
  a_l_sets : Addr
  f_l_sets : FuncData
  F_l_sets : Fun K "_law_sets" "_law_sets" s_l_sets a_l_sets f_l_sets
  m_l_sets : mg "_law_sets" = some (.ref a_l_sets)
  d_l_sets : Binds K f_l_sets ["_law_some"] []
  a_l_leaf : Addr
  f_l_leaf : FuncData
  F_l_leaf : Fun K "_law_leaf" "_law_leaf" s_l_leaf a_l_leaf f_l_leaf
  m_l_leaf : mg "_law_leaf" = some (.ref a_l_leaf)
  d_l_leaf : Binds K f_l_leaf ["_law_way", "_law_number"] []
  a_l_alike : Addr
  f_l_alike : FuncData
  F_l_alike : Fun K "_law_alike" "_law_alike" s_l_alike a_l_alike f_l_alike
  m_l_alike : mg "_law_alike" = some (.ref a_l_alike)
  d_l_alike : Binds K f_l_alike ["_law_machine", "_law_own_here", "_law_leaves_here"] []
  a_l_own : Addr
  f_l_own : FuncData
  F_l_own : Fun K "_law_own" "_law_own" s_l_own a_l_own f_l_own
  m_l_own : mg "_law_own" = some (.ref a_l_own)
  d_l_own : Binds K f_l_own ["_law_pattern_here", "_law_one", "_law_moves", "_law_last"] []
  a_l_leaves : Addr
  f_l_leaves : FuncData
  F_l_leaves : Fun K "_law_leaves" "_law_leaves" s_l_leaves a_l_leaves f_l_leaves
  m_l_leaves : mg "_law_leaves" = some (.ref a_l_leaves)
  d_l_leaves : Binds K f_l_leaves ["_law_pattern_here"] []
  a_l_part : Addr
  f_l_part : FuncData
  F_l_part : Fun K "_law_part" "_law_part" s_l_part a_l_part f_l_part
  m_l_part : mg "_law_part" = some (.ref a_l_part)
  d_l_part : Binds K f_l_part ["_law_ds", "_law_at", "_law_deep"] []
  a_l_pattern : Addr
  f_l_pattern : FuncData
  F_l_pattern : Fun K "_law_pattern" "_law_pattern" s_l_pattern a_l_pattern f_l_pattern
  m_l_pattern : mg "_law_pattern" = some (.ref a_l_pattern)
  d_l_pattern : Binds K f_l_pattern ["_law_cell", "_law_deep"] []
  a_Maker_lay : Addr
  f_Maker_lay : FuncData
  F_Maker_lay : Fun K "lay" "Maker.lay" s_Maker_lay a_Maker_lay f_Maker_lay
  M_Maker_lay : Meth K C_Maker "lay" a_Maker_lay
  d_Maker_lay : Binds K f_Maker_lay ["self", "pattern", "one", "other"] []
  a_Maker_lay_row : Addr
  f_Maker_lay_row : FuncData
  F_Maker_lay_row : Fun K "lay_row" "Maker.lay_row" s_Maker_lay_row a_Maker_lay_row f_Maker_lay_row
  M_Maker_lay_row : Meth K C_Maker "lay_row" a_Maker_lay_row
  d_Maker_lay_row : Binds K f_Maker_lay_row ["self", "parts", "one", "other"] []
  a_machine_of : Addr
  f_machine_of : FuncData
  F_machine_of : Fun K "machine_of" "machine_of" s_machine_of a_machine_of f_machine_of
  m_machine_of : mg "machine_of" = some (.ref a_machine_of)
  d_machine_of : Binds K f_machine_of ["pattern"] []
  a_law : Addr
  f_law : FuncData
  F_law : Fun K "law" "law" s_law a_law f_law
  m_law : mg "law" = some (.ref a_law)
  d_law : Binds K f_law ["_law_script"] []
  a_LEAVES : Addr
  i_LEAVES : Array Value
  n_LEAVES : Nat
  o_LEAVES : Option Addr
  s_LEAVES : Array (Option Value)
  g_LEAVES : mg "LEAVES" = some (.ref a_LEAVES)
  l_LEAVES : K.lookup a_LEAVES = some ⟨.type "tuple", o_LEAVES, .seq i_LEAVES n_LEAVES, s_LEAVES⟩
  z_LEAVES : i_LEAVES.size ≤ sizeLine
  v_LEAVES : ∃ vs : List V, Vals vs i_LEAVES.toList ∧ ∀ H, RDs K H [.str "stay", .str "step", .str "at", .str "off"] vs
  b_len : mg "len" = none
  b_list : mg "list" = none
  b_min : mg "min" = none
  b_range : mg "range" = none
  b_set : mg "set" = none
  b_sorted : mg "sorted" = none
  b_tuple : mg "tuple" = none
end K33X
set_option maxRecDepth 100000
set_option maxHeartbeats 4000000
namespace K33X
open PySem PySem.Spec L2
open L33
open Rt
open Rb hiding Wd pre_ok
open Rs hiding prD prD_inj
open Rm
open Rc hiding N_l_pattern r_l_leaf r_l_pattern sp_l_leaf sp_l_leaf_mono sp_l_pattern sp_l_pattern_mono t_l_pattern
open ShB hiding N_l_leaf N_l_still dSeqWhile_gen r_l_leaf r_l_still sp_l_leaf sp_l_leaf_mono sp_l_still sp_l_still_mono t_l_leaf t_l_still
open Sh hiding N_l_cell_at N_l_feed N_l_leaf N_l_names N_l_pattern deeps_le deeps_mem perm_map_ex r_l_cell_at r_l_leaf r_l_pattern sp_l_leaf sp_l_leaf_mono sp_l_names sp_l_pattern sp_l_pattern_mono srt_strict t_l_cell_at t_l_feed t_l_leaf t_l_names t_l_pattern
open Dt hiding nkeys sp_l_cell_at sp_l_cell_at_mono sp_l_feed

/-! Maker_init -/
def t_Maker_init (C_Maker : Addr) : DTS := (dSeq (dPutF C_Maker "size" (dVar 0) (dC (.int 2)))
    (dPutF C_Maker "laid" (dVar 0) dDnN))
abbrev N_Maker_init : List Str := ["self"]
theorem ok_Maker_init {P : Program} {w : World} {K : PySem.W.Frag} {mg : Str → Option Value} {base : Heap} (T : Txt w K mg) {sp : DSp}
    (mono : SpMono sp) (len : ∀ ds S Q E, sp ds S Q E → ds.length = 1)
    (h : ∀ ds S Q E, sp ds S Q E → (t_Maker_init T.C_Maker) (dEnd Q E) (dstart ["self"] ds) S) : DFn P w K mg base 1 T.a_Maker_init T.f_Maker_init ["self"] sp := by
  refine dfn_of2 (t := (t_Maker_init T.C_Maker)) T.F_Maker_init sc_Maker_init mono len (fun cdv A outer s H E hr gu => ?_) h
  have hu1 := hu_of hr
  have hu2 := hu_big hr
  exact (dss_cons (ds_fput (dv 0) de_int T.c_Maker T.n_Maker_size)
    (dss_one (ds_fput (dv 0) de_dnN T.c_Maker T.n_Maker_laid)))

/-! Maker_fresh -/
def t_Maker_fresh (C_Maker : Addr) : DTS := (dSeq (dPutF C_Maker "size" (dVar 0) (dOp dAddF (dFld C_Maker "size" (dVar 0)) (dC (.int 1))))
    (dRet (dOp rSub (dFld C_Maker "size" (dVar 0)) (dC (.int 1)))))
abbrev N_Maker_fresh : List Str := ["self"]
theorem ok_Maker_fresh {P : Program} {w : World} {K : PySem.W.Frag} {mg : Str → Option Value} {base : Heap} (T : Txt w K mg) {sp : DSp}
    (mono : SpMono sp) (len : ∀ ds S Q E, sp ds S Q E → ds.length = 1)
    (h : ∀ ds S Q E, sp ds S Q E → (t_Maker_fresh T.C_Maker) (dEnd Q E) (dstart ["self"] ds) S) : DFn P w K mg base 1 T.a_Maker_fresh T.f_Maker_fresh ["self"] sp := by
  refine dfn_of2 (t := (t_Maker_fresh T.C_Maker)) T.F_Maker_fresh sc_Maker_fresh mono len (fun cdv A outer s H E hr gu => ?_) h
  have hu1 := hu_of hr
  have hu2 := hu_big hr
  exact (dss_cons (ds_fput (dv 0) (de_op od_addF (de_fld (dv 0) T.c_Maker T.n_Maker_size) de_int) T.c_Maker T.n_Maker_size)
    (dss_one (ds_ret (de_op od_sub (de_fld (dv 0) T.c_Maker T.n_Maker_size) de_int))))

/-! l_cell_at -/
def t_l_cell_at : DTS := (dSeq (dIf (dTest (dOp rLt (dVar 1) (dCB cLen (dCons (dVar 0) dNil))))
      (dRet (dOp dIxS (dVar 0) (dVar 1)))
      dNx)
    (dRet (dC (.int 0))))
abbrev N_l_cell_at : List Str := ["_law_script", "_law_k"]
theorem ok_l_cell_at {P : Program} {w : World} {K : PySem.W.Frag} {mg : Str → Option Value} {base : Heap} (T : Txt w K mg) {sp : DSp}
    (mono : SpMono sp) (len : ∀ ds S Q E, sp ds S Q E → ds.length = 2)
    (h : ∀ ds S Q E, sp ds S Q E → t_l_cell_at (dEnd Q E) (dstart ["_law_script", "_law_k"] ds) S) : DFn P w K mg base 1 T.a_l_cell_at T.f_l_cell_at ["_law_script", "_law_k"] sp := by
  refine dfn_of2 (t := t_l_cell_at) T.F_l_cell_at sc_l_cell_at mono len (fun cdv A outer s H E hr gu => ?_) h
  have hu1 := hu_of hr
  have hu2 := hu_big hr
  exact (dss_cons (ds_if (dt_cmp od_lt (dv 1) (de_callB cd_len (by rfl) T.b_len (by decide +kernel) (da_cons (dv 0) da_nil)) (nomark _))
      (dss_one (ds_ret (de_ix (ixD_any hu2) (dv 0) (dv 1))))
      dss_nil)
    (dss_one (ds_ret de_int)))

/-! l_draws -/
def t_l_draws : DTS := (dSeq (dAsg (dLst dNil) (dGN 2))
    (dSeq (dAsg (dOp rSub (dVar 0) (dOp rPow (dC (.int 10)) (dC (.int 18)))) (dGN 3))
    (dSeq (dFor (dRng1 (dCons (dCB cLen (dCons (dVar 1) dNil)) dNil)) (dGN 4)
      (dSeq (dAsg (dOp rMod (dOp dMul (dOp dAddF (dOp rMod (dVar 0) (dC (.int 1000003))) (dC (.int 1))) (dOp dAddF (dOp dMul (dVar 4) (dVar 4)) (dC (.int 48271)))) (dC (.int 65537))) (dGN 5))
    (dSeq (dAsg (dOp rMod (dOp dMul (dOp dAddF (dOp dAddF (dOp dMul (dVar 5) (dVar 5)) (dOp dMul (dC (.int 7919)) (dVar 4))) (dC (.int 11))) (dC (.int 30269))) (dC (.int 999983))) (dGN 5))
    (dSeq (dIf (dTest (dOp rGe (dVar 0) (dOp rPow (dC (.int 10)) (dC (.int 18)))))
      (dAsg (dVar 3) (dGN 5))
      dNx)
    (dSeq (dDrop (dBM "list" mAppend (dVar 2) (dCons (dOp rMod (dVar 5) (dOp dIxS (dVar 1) (dVar 4))) dNil)))
    (dAsg (dOp rFdiv (dVar 3) (dOp dIxS (dVar 1) (dVar 4))) (dGN 3)))))))
    (dRet (dVar 2)))))
abbrev N_l_draws : List Str := ["_law_cell", "_law_sizes", "_law_found", "_law_figures", "_law_k", "_law_mixed"]
theorem ok_l_draws {P : Program} {w : World} {K : PySem.W.Frag} {mg : Str → Option Value} {base : Heap} (T : Txt w K mg) {sp : DSp}
    (mono : SpMono sp) (len : ∀ ds S Q E, sp ds S Q E → ds.length = 2)
    (h : ∀ ds S Q E, sp ds S Q E → t_l_draws (dEnd Q E) (dstart ["_law_cell", "_law_sizes", "_law_found", "_law_figures", "_law_k", "_law_mixed"] ds) S) : DFn P w K mg base 1 T.a_l_draws T.f_l_draws ["_law_cell", "_law_sizes"] sp := by
  refine dfn_of2 (t := t_l_draws) T.F_l_draws sc_l_draws mono len (fun cdv A outer s H E hr gu => ?_) h
  have hu1 := hu_of hr
  have hu2 := hu_big hr
  exact (dss_cons (ds_set (i := 2) sc_l_draws.nd rfl (by first | exact Or.inl rfl | exact Or.inr rfl) (de_lst da_nil))
    (dss_cons (ds_set (i := 3) sc_l_draws.nd rfl (by first | exact Or.inl rfl | exact Or.inr rfl) (de_op od_sub (dv 0) (de_op od_pow de_int de_int)))
    (dss_cons (ds_for (passes_of rfl) rfl (di_rng1 (by rfl) T.b_range (da_cons (de_callB cd_len (by rfl) T.b_len (by decide +kernel) (da_cons (dv 1) da_nil)) da_nil)) (dg_name (i := 4) sc_l_draws.nd rfl (by first | exact Or.inl rfl | exact Or.inr rfl))
      (dss_cons (ds_set (i := 5) sc_l_draws.nd rfl (by first | exact Or.inl rfl | exact Or.inr rfl) (de_op od_mod (de_op od_mul (de_op od_addF (de_op od_mod (dv 0) de_int) de_int) (de_op od_addF (de_op od_mul (dv 4) (dv 4)) de_int)) de_int))
    (dss_cons (ds_set (i := 5) sc_l_draws.nd rfl (by first | exact Or.inl rfl | exact Or.inr rfl) (de_op od_mod (de_op od_mul (de_op od_addF (de_op od_addF (de_op od_mul (dv 5) (dv 5)) (de_op od_mul de_int (dv 4))) de_int) de_int) de_int))
    (dss_cons (ds_if (dt_cmp od_ge (dv 0) (de_op od_pow de_int de_int) (nomark _))
      (dss_one (ds_set (i := 5) sc_l_draws.nd rfl (by first | exact Or.inl rfl | exact Or.inr rfl) (dv 3)))
      dss_nil)
    (dss_cons (ds_expr (de_bm PySem.F.plainAttrs_list PySem.F.slot_list_append PySem.F.type_list_append md_append (dv 2) (da_cons (de_op od_mod (dv 5) (de_ix (ixD_any hu2) (dv 1) (dv 4))) da_nil)))
    (dss_one (ds_set (i := 3) sc_l_draws.nd rfl (by first | exact Or.inl rfl | exact Or.inr rfl) (de_op od_fdiv (dv 3) (de_ix (ixD_any hu2) (dv 1) (dv 4))))))))))
    (dss_one (ds_ret (dv 2))))))

/-! l_words -/
def t_l_words : DTS := (dRet (dLstF (dCons (dC (.str "a")) (dCons (dC (.str "ab")) (dCons (dC (.str "stay")) dNil)))))
abbrev N_l_words : List Str := []
theorem ok_l_words {P : Program} {w : World} {K : PySem.W.Frag} {mg : Str → Option Value} {base : Heap} (T : Txt w K mg) {sp : DSp}
    (mono : SpMono sp) (len : ∀ ds S Q E, sp ds S Q E → ds.length = 0)
    (h : ∀ ds S Q E, sp ds S Q E → t_l_words (dEnd Q E) (dstart [] ds) S) : DFn P w K mg base 1 T.a_l_words T.f_l_words [] sp := by
  refine dfn_of2 (t := t_l_words) T.F_l_words sc_l_words mono len (fun cdv A outer s H E hr gu => ?_) h
  have hu1 := hu_of hr
  have hu2 := hu_big hr
  exact (dss_one (ds_ret (de_lstF (da_cons de_str (da_cons de_str (da_cons de_str da_nil))))))

/-! l_marks -/
def t_l_marks : DTS := (dRet (dLstF (dCons (dC (.str "a")) (dCons (dC (.str "many")) dNil))))
abbrev N_l_marks : List Str := []
theorem ok_l_marks {P : Program} {w : World} {K : PySem.W.Frag} {mg : Str → Option Value} {base : Heap} (T : Txt w K mg) {sp : DSp}
    (mono : SpMono sp) (len : ∀ ds S Q E, sp ds S Q E → ds.length = 0)
    (h : ∀ ds S Q E, sp ds S Q E → t_l_marks (dEnd Q E) (dstart [] ds) S) : DFn P w K mg base 1 T.a_l_marks T.f_l_marks [] sp := by
  refine dfn_of2 (t := t_l_marks) T.F_l_marks sc_l_marks mono len (fun cdv A outer s H E hr gu => ?_) h
  have hu1 := hu_of hr
  have hu2 := hu_big hr
  exact (dss_one (ds_ret (de_lstF (da_cons de_str (da_cons de_str da_nil)))))
end K33X
set_option maxRecDepth 100000
set_option maxHeartbeats 4000000
namespace K33X
open PySem PySem.Spec L2
open L33
open Rt
open Rb hiding Wd pre_ok
open Rs hiding prD prD_inj
open Rm
open Rc hiding N_l_pattern r_l_leaf r_l_pattern sp_l_leaf sp_l_leaf_mono sp_l_pattern sp_l_pattern_mono t_l_pattern
open ShB hiding N_l_leaf N_l_still dSeqWhile_gen r_l_leaf r_l_still sp_l_leaf sp_l_leaf_mono sp_l_still sp_l_still_mono t_l_leaf t_l_still
open Sh hiding N_l_cell_at N_l_feed N_l_leaf N_l_names N_l_pattern deeps_le deeps_mem perm_map_ex r_l_cell_at r_l_leaf r_l_pattern sp_l_leaf sp_l_leaf_mono sp_l_names sp_l_pattern sp_l_pattern_mono srt_strict t_l_cell_at t_l_feed t_l_leaf t_l_names t_l_pattern
open Dt hiding nkeys sp_l_cell_at sp_l_cell_at_mono sp_l_feed

/-! l_still -/
def t_l_still : DTS := (dSeq (dAsg (dCB cListA (dCons (dVar 1) dNil)) (dGN 3))
    (dSeq (dAsg (dC (.int 0)) (dGN 4))
    (dSeq (dWhile (dTest (dOp rLt (dVar 4) (dCB cLen (dCons (dVar 3) dNil))))
      (dSeq (dFor (dSeqI (dOp dIxS (dVar 0) (dC (.int 3)))) (dGTup 3 (dGCons (dGN 5) (dGCons (dGN 6) (dGCons (dGN 7) dGNil))))
      (dIf (dAnd (dTest (dOp (dEq false) (dVar 5) (dOp dIxS (dVar 3) (dVar 4)))) (dAnd (dTest (dOp (dIn true) (dVar 7) (dVar 3))) (dTest (dOp (dEq true) (dOp dIxS (dVar 6) (dC (.int 0))) (dC (.str "step"))))))
      (dIf (dOr (dTest (dOp (dEq false) (dOp dIxS (dVar 6) (dC (.int 0))) (dC (.str "stay")))) (dTest (dOp (dEq false) (dOp (dIn false) (dOp dIxS (dVar 6) (dC (.int 1))) (dVar 2)) (dOp (dEq false) (dOp dIxS (dVar 6) (dC (.int 0))) (dC (.str "at"))))))
      (dDrop (dBM "list" mAppend (dVar 3) (dCons (dVar 7) dNil)))
      dNx)
      dNx))
    (dAsg (dOp dAddF (dVar 4) (dC (.int 1))) (dGN 4))))
    (dRet (dVar 3)))))
abbrev N_l_still : List Str := ["_law_machine", "_law_stands", "_law_marks_here", "_law_found", "_law_at", "_law_one", "_law_leaf_here", "_law_other"]
theorem ok_l_still {P : Program} {w : World} {K : PySem.W.Frag} {mg : Str → Option Value} {base : Heap} (T : Txt w K mg) {sp : DSp}
    (mono : SpMono sp) (len : ∀ ds S Q E, sp ds S Q E → ds.length = 3)
    (h : ∀ ds S Q E, sp ds S Q E → t_l_still (dEnd Q E) (dstart ["_law_machine", "_law_stands", "_law_marks_here", "_law_found", "_law_at", "_law_one", "_law_leaf_here", "_law_other"] ds) S) : DFn P w K mg base 1 T.a_l_still T.f_l_still ["_law_machine", "_law_stands", "_law_marks_here"] sp := by
  refine dfn_of2 (t := t_l_still) T.F_l_still sc_l_still mono len (fun cdv A outer s H E hr gu => ?_) h
  have hu1 := hu_of hr
  have hu2 := hu_big hr
  exact (dss_cons (ds_set (i := 3) sc_l_still.nd rfl (by first | exact Or.inl rfl | exact Or.inr rfl) (de_callTy (cd_listA rfl) (by rfl) T.b_list (by decide +kernel) (da_cons (dv 1) da_nil)))
    (dss_cons (ds_set (i := 4) sc_l_still.nd rfl (by first | exact Or.inl rfl | exact Or.inr rfl) de_int)
    (dss_cons (ds_while (passes_of rfl) (dt_cmp od_lt (dv 4) (de_callB cd_len (by rfl) T.b_len (by decide +kernel) (da_cons (dv 3) da_nil)) (nomark _))
      (dss_cons (ds_for (passes_of rfl) rfl (di_seq (de_ix (ixD_any hu2) (dv 0) de_int)) (dg_tup rfl (dgs_cons (dg_name (i := 5) sc_l_still.nd rfl (by first | exact Or.inl rfl | exact Or.inr rfl)) (dgs_cons (dg_name (i := 6) sc_l_still.nd rfl (by first | exact Or.inl rfl | exact Or.inr rfl)) (dgs_cons (dg_name (i := 7) sc_l_still.nd rfl (by first | exact Or.inl rfl | exact Or.inr rfl)) dgs_nil))))
      (dss_one (ds_if (DWt.pt (dw_and (dt_cmp (od_eq hr.units) (dv 5) (de_ix (ixD_any hu2) (dv 3) (dv 4)) (nomark _)) (dw_and (dt_cmp (od_nin hu2) (dv 7) (dv 3) (by rfl)) (dw_and1 (dt_cmp (od_ne hr.units) (de_ix (ixD_any hu2) (dv 6) de_int) de_str (nomark _))))))
      (dss_one (ds_if (DWt.pt (dw_or (dt_cmp (od_eq hr.units) (de_ix (ixD_any hu2) (dv 6) de_int) de_str (nomark _)) (dw_or1 (dt_cmp (od_eq hr.units) (de_cmp (od_in hu2) (de_ix (ixD_any hu2) (dv 6) de_int) (dv 2) (by rfl)) (de_cmp (od_eq hr.units) (de_ix (ixD_any hu2) (dv 6) de_int) de_str (nomark _)) (nomark _)))))
      (dss_one (ds_expr (de_bm PySem.F.plainAttrs_list PySem.F.slot_list_append PySem.F.type_list_append md_append (dv 3) (da_cons (dv 7) da_nil))))
      dss_nil))
      dss_nil)))
    (dss_one (ds_set (i := 4) sc_l_still.nd rfl (by first | exact Or.inl rfl | exact Or.inr rfl) (de_op od_addF (dv 4) de_int)))))
    (dss_one (ds_ret (dv 3))))))

/-! l_by -/
def t_l_by : DTS := (dSeq (dAsg (dLst dNil) (dGN 4))
    (dSeq (dFor (dSeqI (dOp dIxS (dVar 0) (dC (.int 3)))) (dGTup 3 (dGCons (dGN 5) (dGCons (dGN 6) (dGCons (dGN 7) dGNil))))
      (dIf (dAnd (dTest (dOp (dIn false) (dVar 5) (dVar 1))) (dAnd (dTest (dOp (dEq false) (dOp dIxS (dVar 6) (dC (.int 0))) (dC (.str "step")))) (dAnd (dTest (dOp (dEq false) (dOp dIxS (dVar 6) (dC (.int 1))) (dVar 2))) (dTest (dOp (dIn false) (dOp dIxS (dVar 6) (dC (.int 2))) (dTup (dCons (dC (.str "*")) (dCons (dVar 3) dNil))))))))
      (dIf (dTest (dOp (dIn true) (dVar 7) (dVar 4)))
      (dDrop (dBM "list" mAppend (dVar 4) (dCons (dVar 7) dNil)))
      dNx)
      dNx))
    (dRet (dVar 4))))
abbrev N_l_by : List Str := ["_law_machine", "_law_stands", "_law_side", "_law_word", "_law_found", "_law_one", "_law_leaf_here", "_law_other"]
theorem ok_l_by {P : Program} {w : World} {K : PySem.W.Frag} {mg : Str → Option Value} {base : Heap} (T : Txt w K mg) {sp : DSp}
    (mono : SpMono sp) (len : ∀ ds S Q E, sp ds S Q E → ds.length = 4)
    (h : ∀ ds S Q E, sp ds S Q E → t_l_by (dEnd Q E) (dstart ["_law_machine", "_law_stands", "_law_side", "_law_word", "_law_found", "_law_one", "_law_leaf_here", "_law_other"] ds) S) : DFn P w K mg base 1 T.a_l_by T.f_l_by ["_law_machine", "_law_stands", "_law_side", "_law_word"] sp := by
  refine dfn_of2 (t := t_l_by) T.F_l_by sc_l_by mono len (fun cdv A outer s H E hr gu => ?_) h
  have hu1 := hu_of hr
  have hu2 := hu_big hr
  exact (dss_cons (ds_set (i := 4) sc_l_by.nd rfl (by first | exact Or.inl rfl | exact Or.inr rfl) (de_lst da_nil))
    (dss_cons (ds_for (passes_of rfl) rfl (di_seq (de_ix (ixD_any hu2) (dv 0) de_int)) (dg_tup rfl (dgs_cons (dg_name (i := 5) sc_l_by.nd rfl (by first | exact Or.inl rfl | exact Or.inr rfl)) (dgs_cons (dg_name (i := 6) sc_l_by.nd rfl (by first | exact Or.inl rfl | exact Or.inr rfl)) (dgs_cons (dg_name (i := 7) sc_l_by.nd rfl (by first | exact Or.inl rfl | exact Or.inr rfl)) dgs_nil))))
      (dss_one (ds_if (DWt.pt (dw_and (dt_cmp (od_in hu2) (dv 5) (dv 1) (by rfl)) (dw_and (dt_cmp (od_eq hr.units) (de_ix (ixD_any hu2) (dv 6) de_int) de_str (nomark _)) (dw_and (dt_cmp (od_eq hr.units) (de_ix (ixD_any hu2) (dv 6) de_int) (dv 2) (nomark _)) (dw_and1 (dt_cmp (od_in hu2) (de_ix (ixD_any hu2) (dv 6) de_int) (de_tup (da_cons de_str (da_cons (dv 3) da_nil))) (by rfl)))))))
      (dss_one (ds_if (dt_cmp (od_nin hu2) (dv 7) (dv 4) (by rfl))
      (dss_one (ds_expr (de_bm PySem.F.plainAttrs_list PySem.F.slot_list_append PySem.F.type_list_append md_append (dv 4) (da_cons (dv 7) da_nil))))
      dss_nil))
      dss_nil)))
    (dss_one (ds_ret (dv 4)))))

/-! l_sets -/
def t_l_sets : DTS := (dSeq (dAsg (dLstF (dCons (dLstF dNil) dNil)) (dGN 1))
    (dSeq (dFor (dSeqI (dVar 0)) (dGN 2)
      (dAsg (dOp dAddF (dVar 1) (dFz (dLc (dSeqI (dVar 1)) (dGN 3) dYes (dOp dAddF (dVar 3) (dLstF (dCons (dVar 2) dNil))) [3]))) (dGN 1)))
    (dRet (dVar 1))))
abbrev N_l_sets : List Str := ["_law_some", "_law_found", "_law_one", "_law_rest"]
theorem ok_l_sets {P : Program} {w : World} {K : PySem.W.Frag} {mg : Str → Option Value} {base : Heap} (T : Txt w K mg) {sp : DSp}
    (mono : SpMono sp) (len : ∀ ds S Q E, sp ds S Q E → ds.length = 1)
    (h : ∀ ds S Q E, sp ds S Q E → t_l_sets (dEnd Q E) (dstart ["_law_some", "_law_found", "_law_one", "_law_rest"] ds) S) : DFn P w K mg base 1 T.a_l_sets T.f_l_sets ["_law_some"] sp := by
  refine dfn_of2 (t := t_l_sets) T.F_l_sets sc_l_sets mono len (fun cdv A outer s H E hr gu => ?_) h
  have hu1 := hu_of hr
  have hu2 := hu_big hr
  exact (dss_cons (ds_set (i := 1) sc_l_sets.nd rfl (by first | exact Or.inl rfl | exact Or.inr rfl) (de_lstF (da_cons (de_lstF da_nil) da_nil)))
    (dss_cons (ds_for (passes_of rfl) rfl (di_seq (dv 0)) (dg_name (i := 2) sc_l_sets.nd rfl (by first | exact Or.inl rfl | exact Or.inr rfl))
      (dss_one (ds_set (i := 1) sc_l_sets.nd rfl (by first | exact Or.inl rfl | exact Or.inr rfl) (de_op od_addF (dv 1) (de_fz (de_lc (own := [("_law_rest", 3)]) rfl sc_l_sets.nd (di_seq (dv 1)) (blkOk_by (own := [("_law_rest", 3)]) (N := ["_law_some", "_law_found", "_law_one", "_law_rest"]) (sc := defScope s_l_sets) (by decide +kernel)) ⟨fun _ _ _ _ _ => (dw_name (i := 3) sc_l_sets.nd rfl (by first | exact Or.inl rfl | exact Or.inr rfl) (by decide)), fun _ _ _ _ _ => dts_nil, fun _ _ _ _ _ => (de_op od_addF (dv 3) (de_lstF (da_cons (dv 2) da_nil)))⟩))))))
    (dss_one (ds_ret (dv 1)))))

/-! l_leaf -/
def t_l_leaf : DTS := (dSeq (dIf (dTest (dOp (dEq false) (dVar 0) (dC (.int 0))))
      (dRet (dTup (dCons (dC (.str "stay")) dNil)))
      dNx)
    (dSeq (dIf (dTest (dOp rLt (dVar 0) (dC (.int 3))))
      (dRet (dTup (dCons (dC (.str "step")) (dCons (dOp dIxS (dLstF (dCons (dC (.str "on")) (dCons (dC (.str "back")) dNil))) (dOp rMod (dVar 1) (dC (.int 2)))) (dCons (dOp dIxS (dOp dAddF (dCall sp_l_words dNil) (dLstF (dCons (dC (.str "*")) dNil))) (dOp rMod (dOp rFdiv (dVar 1) (dC (.int 2))) (dC (.int 4)))) dNil)))))
      dNx)
    (dRet (dTup (dCons (dOp dIxS (dLstF (dCons (dC (.str "at")) (dCons (dC (.str "off")) dNil))) (dOp rSub (dVar 0) (dC (.int 3)))) (dCons (dOp dIxS (dCall sp_l_marks dNil) (dOp rMod (dVar 1) (dC (.int 2)))) dNil))))))
abbrev N_l_leaf : List Str := ["_law_way", "_law_number"]
theorem ok_l_leaf {P : Program} {w : World} {K : PySem.W.Frag} {mg : Str → Option Value} {base : Heap} (T : Txt w K mg) (G_l_words : DFn P w K mg base 1 T.a_l_words T.f_l_words [] sp_l_words) (G_l_marks : DFn P w K mg base 1 T.a_l_marks T.f_l_marks [] sp_l_marks) {sp : DSp}
    (mono : SpMono sp) (len : ∀ ds S Q E, sp ds S Q E → ds.length = 2)
    (h : ∀ ds S Q E, sp ds S Q E → t_l_leaf (dEnd Q E) (dstart ["_law_way", "_law_number"] ds) S) : DFn P w K mg base 2 T.a_l_leaf T.f_l_leaf ["_law_way", "_law_number"] sp := by
  refine dfn_of2 (t := t_l_leaf) T.F_l_leaf sc_l_leaf mono len (fun cdv A outer s H E hr gu => ?_) h
  have hu1 := hu_of hr
  have hu2 := hu_big hr
  exact (dss_cons (ds_if (dt_cmp (od_eq hr.units) (dv 0) de_int (nomark _))
      (dss_one (ds_ret (de_tup (da_cons de_str da_nil))))
      dss_nil)
    (dss_cons (ds_if (dt_cmp od_lt (dv 0) de_int (nomark _))
      (dss_one (ds_ret (de_tup (da_cons de_str (da_cons (de_ix (ixD_any hu2) (de_lstF (da_cons de_str (da_cons de_str da_nil))) (de_op od_mod (dv 1) de_int)) (da_cons (de_ix (ixD_any hu2) (de_op od_addF (de_call0 G_l_words (hr.mono (by decide)) gu (by rfl) T.m_l_words T.F_l_words.kp T.d_l_words) (de_lstF (da_cons de_str da_nil))) (de_op od_mod (de_op od_fdiv (dv 1) de_int) de_int)) da_nil))))))
      dss_nil)
    (dss_one (ds_ret (de_tup (da_cons (de_ix (ixD_any hu2) (de_lstF (da_cons de_str (da_cons de_str da_nil))) (de_op od_sub (dv 0) de_int)) (da_cons (de_ix (ixD_any hu2) (de_call0 G_l_marks (hr.mono (by decide)) gu (by rfl) T.m_l_marks T.F_l_marks.kp T.d_l_marks) (de_op od_mod (dv 1) de_int)) da_nil)))))))

/-! l_alike -/
def t_l_alike : DTS := (dSeq (dAsg (dOp dAddF (dSortSetAF (dFz (dLc (dSeqI (dVar 2)) (dGN 16) (dAnd (dTest (dOp (dEq false) (dOp dIxS (dVar 16) (dC (.int 0))) (dC (.str "step")))) (dTest (dOp (dEq true) (dOp dIxS (dVar 16) (dC (.int 2))) (dC (.str "*"))))) (dOp dIxS (dVar 16) (dC (.int 2))) [16]))) (dLstF (dCons (dC (.str "other")) dNil))) (dGN 3))
    (dSeq (dAsg (dCall sp_l_sets (dCons (dSortSetAF (dFz (dLc (dSeqI (dVar 2)) (dGN 16) (dTest (dOp (dIn false) (dOp dIxS (dVar 16) (dC (.int 0))) (dTup (dCons (dC (.str "at")) (dCons (dC (.str "off")) dNil))))) (dOp dIxS (dVar 16) (dC (.int 1))) [16]))) dNil)) (dGN 4))
    (dSeq (dAsg (dDispN (dTup (dCons (dTup (dCons (dOp dIxS (dVar 0) (dC (.int 1))) dNil)) (dCons (dTup (dCons (dOp dIxS (dVar 1) (dC (.int 1))) dNil)) dNil))) (dC (.bl true))) (dGN 5))
    (dSeq (dAsg (dCB cListA (dCons (dVar 5) dNil)) (dGN 6))
    (dSeq (dWhile (dTest (dOp (dEq true) (dVar 6) (dLstF dNil)))
      (dSeq (dAsg (dBM "list" mPop (dVar 6) dNil) (dGTupA 2 (dGCons (dGN 7) (dGCons (dGN 8) dGNil))))
    (dFor (dSeqI (dVar 4)) (dGN 9)
      (dSeq (dAsg (dCall sp_l_still (dCons (dVar 0) (dCons (dCB cListAF (dCons (dVar 7) dNil)) (dCons (dVar 9) dNil)))) (dGN 10))
    (dSeq (dAsg (dCall sp_l_still (dCons (dVar 1) (dCons (dCB cListAF (dCons (dVar 8) dNil)) (dCons (dVar 9) dNil)))) (dGN 11))
    (dSeq (dIf (dTest (dOp (dEq true) (dOp (dEq true) (dFz (dLc (dSeqI (dVar 10)) (dGN 17) (dTest (dOp (dIn false) (dVar 17) (dOp dIxS (dVar 0) (dC (.int 2))))) (dVar 17) [17])) (dLstF dNil)) (dOp (dIn false) (dOp dIxS (dOp dIxS (dVar 1) (dC (.int 2))) (dC (.int 0))) (dVar 11))))
      (dRet (dC (.bl false)))
      dNx)
    (dFor (dSeqI (dVar 3)) (dGN 12)
      (dFor (dSeqI (dLstF (dCons (dC (.str "on")) (dCons (dC (.str "back")) dNil)))) (dGN 13)
      (dSeq (dAsg (dCB cSortAF (dCons (dCall sp_l_by (dCons (dVar 0) (dCons (dVar 10) (dCons (dVar 13) (dCons (dVar 12) dNil))))) dNil)) (dGN 14))
    (dSeq (dAsg (dTup (dCons (dCB cTuple (dCons (dVar 14) dNil)) (dCons (dCB cTuple (dCons (dCB cSortAF (dCons (dCall sp_l_by (dCons (dVar 1) (dCons (dVar 11) (dCons (dVar 13) (dCons (dVar 12) dNil))))) dNil)) dNil)) dNil))) (dGN 15))
    (dIf (dTest (dOp (dIn true) (dVar 15) (dVar 5)))
      (dSeq (dPut (dVar 5) (dVar 15) (dC (.bl true)))
    (dDrop (dBM "list" mAppend (dVar 6) (dCons (dVar 15) dNil))))
      dNx)))))))))))
    (dRet (dC (.bl true))))))))
abbrev N_l_alike : List Str := ["_law_machine", "_law_own_here", "_law_leaves_here", "_law_words_here", "_law_sets_here", "_law_seen", "_law_line", "_law_one", "_law_other", "_law_marks_here", "_law_here", "_law_there", "_law_word", "_law_side", "_law_behind", "_law_pair", "_law_leaf_here", "_law_end"]
theorem ok_l_alike {P : Program} {w : World} {K : PySem.W.Frag} {mg : Str → Option Value} {base : Heap} (T : Txt w K mg) (G_l_still : DFn P w K mg base 1 T.a_l_still T.f_l_still ["_law_machine", "_law_stands", "_law_marks_here"] sp_l_still) (G_l_by : DFn P w K mg base 1 T.a_l_by T.f_l_by ["_law_machine", "_law_stands", "_law_side", "_law_word"] sp_l_by) (G_l_sets : DFn P w K mg base 1 T.a_l_sets T.f_l_sets ["_law_some"] sp_l_sets) {sp : DSp}
    (mono : SpMono sp) (len : ∀ ds S Q E, sp ds S Q E → ds.length = 3)
    (h : ∀ ds S Q E, sp ds S Q E → t_l_alike (dEnd Q E) (dstart ["_law_machine", "_law_own_here", "_law_leaves_here", "_law_words_here", "_law_sets_here", "_law_seen", "_law_line", "_law_one", "_law_other", "_law_marks_here", "_law_here", "_law_there", "_law_word", "_law_side", "_law_behind", "_law_pair", "_law_leaf_here", "_law_end"] ds) S) : DFn P w K mg base 2 T.a_l_alike T.f_l_alike ["_law_machine", "_law_own_here", "_law_leaves_here"] sp := by
  refine dfn_of2 (t := t_l_alike) T.F_l_alike sc_l_alike mono len (fun cdv A outer s H E hr gu => ?_) h
  have hu1 := hu_of hr
  have hu2 := hu_big hr
  exact (dss_cons (ds_set (i := 3) sc_l_alike.nd rfl (by first | exact Or.inl rfl | exact Or.inr rfl) (de_op od_addF (de_sortSetAF rfl (hu64 hu2) (by rfl) T.b_sorted (by rfl) T.b_set (by decide +kernel) (by decide +kernel) (de_fz (de_lc (own := [("_law_leaf_here", 16)]) rfl sc_l_alike.nd (di_seq (dv 2)) (blkOk_by (own := [("_law_leaf_here", 16)]) (N := ["_law_machine", "_law_own_here", "_law_leaves_here", "_law_words_here", "_law_sets_here", "_law_seen", "_law_line", "_law_one", "_law_other", "_law_marks_here", "_law_here", "_law_there", "_law_word", "_law_side", "_law_behind", "_law_pair", "_law_leaf_here", "_law_end"]) (sc := defScope s_l_alike) (by decide +kernel)) ⟨fun _ _ _ _ _ => (dw_name (i := 16) sc_l_alike.nd rfl (by first | exact Or.inl rfl | exact Or.inr rfl) (by decide)), fun _ _ _ _ _ => (dts_one (DWt.pt (dw_and (dt_cmp (od_eq hr.units) (de_ix (ixD_any hu2) (dv 16) de_int) de_str (nomark _)) (dw_and1 (dt_cmp (od_ne hr.units) (de_ix (ixD_any hu2) (dv 16) de_int) de_str (nomark _)))))), fun _ _ _ _ _ => (de_ix (ixD_any hu2) (dv 16) de_int)⟩))) (de_lstF (da_cons de_str da_nil))))
    (dss_cons (ds_set (i := 4) sc_l_alike.nd rfl (by first | exact Or.inl rfl | exact Or.inr rfl) (de_call G_l_sets (hr.mono (by decide)) gu (by rfl) T.m_l_sets T.F_l_sets.kp T.d_l_sets (da_cons (de_sortSetAF rfl (hu64 hu2) (by rfl) T.b_sorted (by rfl) T.b_set (by decide +kernel) (by decide +kernel) (de_fz (de_lc (own := [("_law_leaf_here", 16)]) rfl sc_l_alike.nd (di_seq (dv 2)) (blkOk_by (own := [("_law_leaf_here", 16)]) (N := ["_law_machine", "_law_own_here", "_law_leaves_here", "_law_words_here", "_law_sets_here", "_law_seen", "_law_line", "_law_one", "_law_other", "_law_marks_here", "_law_here", "_law_there", "_law_word", "_law_side", "_law_behind", "_law_pair", "_law_leaf_here", "_law_end"]) (sc := defScope s_l_alike) (by decide +kernel)) ⟨fun _ _ _ _ _ => (dw_name (i := 16) sc_l_alike.nd rfl (by first | exact Or.inl rfl | exact Or.inr rfl) (by decide)), fun _ _ _ _ _ => (dts_one (dt_cmp (od_in hu2) (de_ix (ixD_any hu2) (dv 16) de_int) (de_tup (da_cons de_str (da_cons de_str da_nil))) (by rfl))), fun _ _ _ _ _ => (de_ix (ixD_any hu2) (dv 16) de_int)⟩))) da_nil)))
    (dss_cons (ds_set (i := 5) sc_l_alike.nd rfl (by first | exact Or.inl rfl | exact Or.inr rfl) (de_dispN (hu64 hu2) (de_tup (da_cons (de_tup (da_cons (de_ix (ixD_any hu2) (dv 0) de_int) da_nil)) (da_cons (de_tup (da_cons (de_ix (ixD_any hu2) (dv 1) de_int) da_nil)) da_nil))) de_bl))
    (dss_cons (ds_set (i := 6) sc_l_alike.nd rfl (by first | exact Or.inl rfl | exact Or.inr rfl) (de_callTy (cd_listA rfl) (by rfl) T.b_list (by decide +kernel) (da_cons (dv 5) da_nil)))
    (dss_cons (ds_while (passes_of rfl) (dt_cmp (od_ne hr.units) (dv 6) (de_lstF da_nil) (nomark _))
      (dss_cons (ds_asg (de_bm0 PySem.F.plainAttrs_list PySem.F.slot_list_pop PySem.F.type_list_pop md_pop (dv 6)) (dg_tupA rfl (dgs_cons (dg_name (i := 7) sc_l_alike.nd rfl (by first | exact Or.inl rfl | exact Or.inr rfl)) (dgs_cons (dg_name (i := 8) sc_l_alike.nd rfl (by first | exact Or.inl rfl | exact Or.inr rfl)) dgs_nil))))
    (dss_one (ds_for (passes_of rfl) rfl (di_seq (dv 4)) (dg_name (i := 9) sc_l_alike.nd rfl (by first | exact Or.inl rfl | exact Or.inr rfl))
      (dss_cons (ds_set (i := 10) sc_l_alike.nd rfl (by first | exact Or.inl rfl | exact Or.inr rfl) (de_call G_l_still (hr.mono (by decide)) gu (by rfl) T.m_l_still T.F_l_still.kp T.d_l_still (da_cons (dv 0) (da_cons (de_callTy (cd_listAF rfl) (by rfl) T.b_list (by decide +kernel) (da_cons (dv 7) da_nil)) (da_cons (dv 9) da_nil)))))
    (dss_cons (ds_set (i := 11) sc_l_alike.nd rfl (by first | exact Or.inl rfl | exact Or.inr rfl) (de_call G_l_still (hr.mono (by decide)) gu (by rfl) T.m_l_still T.F_l_still.kp T.d_l_still (da_cons (dv 1) (da_cons (de_callTy (cd_listAF rfl) (by rfl) T.b_list (by decide +kernel) (da_cons (dv 8) da_nil)) (da_cons (dv 9) da_nil)))))
    (dss_cons (ds_if (dt_cmp (od_ne hr.units) (de_cmp (od_ne hr.units) (de_fz (de_lc (own := [("_law_end", 17)]) rfl sc_l_alike.nd (di_seq (dv 10)) (blkOk_by (own := [("_law_end", 17)]) (N := ["_law_machine", "_law_own_here", "_law_leaves_here", "_law_words_here", "_law_sets_here", "_law_seen", "_law_line", "_law_one", "_law_other", "_law_marks_here", "_law_here", "_law_there", "_law_word", "_law_side", "_law_behind", "_law_pair", "_law_leaf_here", "_law_end"]) (sc := defScope s_l_alike) (by decide +kernel)) ⟨fun _ _ _ _ _ => (dw_name (i := 17) sc_l_alike.nd rfl (by first | exact Or.inl rfl | exact Or.inr rfl) (by decide)), fun _ _ _ _ _ => (dts_one (dt_cmp (od_in hu2) (dv 17) (de_ix (ixD_any hu2) (dv 0) de_int) (by rfl))), fun _ _ _ _ _ => (dv 17)⟩)) (de_lstF da_nil) (nomark _)) (de_cmp (od_in hu2) (de_ix (ixD_any hu2) (de_ix (ixD_any hu2) (dv 1) de_int) de_int) (dv 11) (by rfl)) (nomark _))
      (dss_one (ds_ret de_bl))
      dss_nil)
    (dss_one (ds_for (passes_of rfl) rfl (di_seq (dv 3)) (dg_name (i := 12) sc_l_alike.nd rfl (by first | exact Or.inl rfl | exact Or.inr rfl))
      (dss_one (ds_for (passes_of rfl) rfl (di_seq (de_lstF (da_cons de_str (da_cons de_str da_nil)))) (dg_name (i := 13) sc_l_alike.nd rfl (by first | exact Or.inl rfl | exact Or.inr rfl))
      (dss_cons (ds_set (i := 14) sc_l_alike.nd rfl (by first | exact Or.inl rfl | exact Or.inr rfl) (de_callB (cd_sortAF rfl (hu64 hu2)) (by rfl) T.b_sorted (by decide +kernel) (da_cons (de_call G_l_by (hr.mono (by decide)) gu (by rfl) T.m_l_by T.F_l_by.kp T.d_l_by (da_cons (dv 0) (da_cons (dv 10) (da_cons (dv 13) (da_cons (dv 12) da_nil))))) da_nil)))
    (dss_cons (ds_set (i := 15) sc_l_alike.nd rfl (by first | exact Or.inl rfl | exact Or.inr rfl) (de_tup (da_cons (de_callTy cd_tuple (by rfl) T.b_tuple (by decide +kernel) (da_cons (dv 14) da_nil)) (da_cons (de_callTy cd_tuple (by rfl) T.b_tuple (by decide +kernel) (da_cons (de_callB (cd_sortAF rfl (hu64 hu2)) (by rfl) T.b_sorted (by decide +kernel) (da_cons (de_call G_l_by (hr.mono (by decide)) gu (by rfl) T.m_l_by T.F_l_by.kp T.d_l_by (da_cons (dv 1) (da_cons (dv 11) (da_cons (dv 13) (da_cons (dv 12) da_nil))))) da_nil)) da_nil)) da_nil))))
    (dss_one (ds_if (dt_cmp (od_nin hu2) (dv 15) (dv 5) (by rfl))
      (dss_cons (ds_put hu2 (dv 5) (dv 15) de_bl)
    (dss_one (ds_expr (de_bm PySem.F.plainAttrs_list PySem.F.slot_list_append PySem.F.type_list_append md_append (dv 6) (da_cons (dv 15) da_nil)))))
      dss_nil)))))))))))))))
    (dss_one (ds_ret de_bl)))))))

/-! l_own -/
def t_l_own (spR : DSp) : DTS := (dSeq (dIf (dTest (dOp (dIn true) (dOp dIxS (dVar 0) (dC (.int 0))) (dTup (dCons (dC (.str "then")) (dCons (dC (.str "either")) (dCons (dC (.str "many")) dNil))))))
      (dSeq (dDrop (dBM "list" mAppend (dVar 2) (dCons (dTup (dCons (dVar 1) (dCons (dVar 0) (dCons (dOp dAddF (dVar 3) (dC (.int 1))) dNil)))) dNil)))
    (dRet (dOp dAddF (dVar 3) (dC (.int 1)))))
      dNx)
    (dSeq (dIf (dTest (dOp (dEq false) (dOp dIxS (dVar 0) (dC (.int 0))) (dC (.str "then"))))
      (dSeq (dDrop (dBM "list" mAppend (dVar 2) (dCons (dTup (dCons (dVar 1) (dCons (dTup (dCons (dC (.str "stay")) dNil)) (dCons (dOp dAddF (dVar 3) (dC (.int 1))) dNil)))) dNil)))
    (dSeq (dAsg (dOp dAddF (dVar 3) (dC (.int 1))) (dGN 3))
    (dSeq (dFor (dSeqI (dOp dIxS (dVar 0) (dC (.int 1)))) (dGN 4)
      (dAsg (dCall spR (dCons (dVar 4) (dCons (dVar 3) (dCons (dVar 2) (dCons (dVar 3) dNil))))) (dGN 3)))
    (dRet (dVar 3)))))
      dNx)
    (dSeq (dIf (dTest (dOp (dEq false) (dOp dIxS (dVar 0) (dC (.int 0))) (dC (.str "many"))))
      (dSeq (dAsg (dOp dAddF (dVar 3) (dC (.int 1))) (dGN 5))
    (dSeq (dDrop (dBM "list" mAppend (dVar 2) (dCons (dTup (dCons (dVar 1) (dCons (dTup (dCons (dC (.str "stay")) dNil)) (dCons (dVar 5) dNil)))) dNil)))
    (dSeq (dAsg (dCall spR (dCons (dOp dIxS (dVar 0) (dC (.int 1))) (dCons (dVar 5) (dCons (dVar 2) (dCons (dVar 5) dNil))))) (dGN 3))
    (dSeq (dDrop (dBM "list" mAppend (dVar 2) (dCons (dTup (dCons (dVar 3) (dCons (dTup (dCons (dC (.str "stay")) dNil)) (dCons (dVar 5) dNil)))) dNil)))
    (dSeq (dDrop (dBM "list" mAppend (dVar 2) (dCons (dTup (dCons (dVar 5) (dCons (dTup (dCons (dC (.str "stay")) dNil)) (dCons (dOp dAddF (dVar 3) (dC (.int 1))) dNil)))) dNil)))
    (dRet (dOp dAddF (dVar 3) (dC (.int 1)))))))))
      dNx)
    (dSeq (dAsg (dLst dNil) (dGN 6))
    (dSeq (dFor (dSeqI (dOp dIxS (dVar 0) (dC (.int 1)))) (dGN 4)
      (dSeq (dAsg (dCall spR (dCons (dVar 4) (dCons (dVar 1) (dCons (dVar 2) (dCons (dVar 3) dNil))))) (dGN 3))
    (dDrop (dBM "list" mAppend (dVar 6) (dCons (dVar 3) dNil)))))
    (dSeq (dFor (dSeqI (dVar 6)) (dGN 7)
      (dDrop (dBM "list" mAppend (dVar 2) (dCons (dTup (dCons (dVar 7) (dCons (dTup (dCons (dC (.str "stay")) dNil)) (dCons (dOp dAddF (dVar 3) (dC (.int 1))) dNil)))) dNil))))
    (dRet (dOp dAddF (dVar 3) (dC (.int 1))))))))))
abbrev N_l_own : List Str := ["_law_pattern_here", "_law_one", "_law_moves", "_law_last", "_law_part_here", "_law_inner", "_law_ends", "_law_end"]
theorem ok_l_own {P : Program} {w : World} {K : PySem.W.Frag} {mg : Str → Option Value} {base : Heap} (T : Txt w K mg) (n : Nat) {spR : DSp} (G_l_own : DFn P w K mg base (0 + n) T.a_l_own T.f_l_own ["_law_pattern_here", "_law_one", "_law_moves", "_law_last"] spR) {sp : DSp}
    (mono : SpMono sp) (len : ∀ ds S Q E, sp ds S Q E → ds.length = 4)
    (h : ∀ ds S Q E, sp ds S Q E → (t_l_own spR) (dEnd Q E) (dstart ["_law_pattern_here", "_law_one", "_law_moves", "_law_last", "_law_part_here", "_law_inner", "_law_ends", "_law_end"] ds) S) : DFn P w K mg base (0 + n + 1) T.a_l_own T.f_l_own ["_law_pattern_here", "_law_one", "_law_moves", "_law_last"] sp := by
  refine dfn_of2 (t := (t_l_own spR)) T.F_l_own sc_l_own mono len (fun cdv A outer s H E hr gu => ?_) h
  have hu1 := hu_of hr
  have hu2 := hu_big hr
  exact (dss_cons (ds_if (dt_cmp (od_nin hu2) (de_ix (ixD_any hu2) (dv 0) de_int) (de_tup (da_cons de_str (da_cons de_str (da_cons de_str da_nil)))) (by rfl))
      (dss_cons (ds_expr (de_bm PySem.F.plainAttrs_list PySem.F.slot_list_append PySem.F.type_list_append md_append (dv 2) (da_cons (de_tup (da_cons (dv 1) (da_cons (dv 0) (da_cons (de_op od_addF (dv 3) de_int) da_nil)))) da_nil)))
    (dss_one (ds_ret (de_op od_addF (dv 3) de_int))))
      dss_nil)
    (dss_cons (ds_if (dt_cmp (od_eq hr.units) (de_ix (ixD_any hu2) (dv 0) de_int) de_str (nomark _))
      (dss_cons (ds_expr (de_bm PySem.F.plainAttrs_list PySem.F.slot_list_append PySem.F.type_list_append md_append (dv 2) (da_cons (de_tup (da_cons (dv 1) (da_cons (de_tup (da_cons de_str da_nil)) (da_cons (de_op od_addF (dv 3) de_int) da_nil)))) da_nil)))
    (dss_cons (ds_set (i := 3) sc_l_own.nd rfl (by first | exact Or.inl rfl | exact Or.inr rfl) (de_op od_addF (dv 3) de_int))
    (dss_cons (ds_for (passes_of rfl) rfl (di_seq (de_ix (ixD_any hu2) (dv 0) de_int)) (dg_name (i := 4) sc_l_own.nd rfl (by first | exact Or.inl rfl | exact Or.inr rfl))
      (dss_one (ds_set (i := 3) sc_l_own.nd rfl (by first | exact Or.inl rfl | exact Or.inr rfl) (de_call G_l_own (hr.mono (Nat.le_refl _)) gu (by rfl) T.m_l_own T.F_l_own.kp T.d_l_own (da_cons (dv 4) (da_cons (dv 3) (da_cons (dv 2) (da_cons (dv 3) da_nil))))))))
    (dss_one (ds_ret (dv 3))))))
      dss_nil)
    (dss_cons (ds_if (dt_cmp (od_eq hr.units) (de_ix (ixD_any hu2) (dv 0) de_int) de_str (nomark _))
      (dss_cons (ds_set (i := 5) sc_l_own.nd rfl (by first | exact Or.inl rfl | exact Or.inr rfl) (de_op od_addF (dv 3) de_int))
    (dss_cons (ds_expr (de_bm PySem.F.plainAttrs_list PySem.F.slot_list_append PySem.F.type_list_append md_append (dv 2) (da_cons (de_tup (da_cons (dv 1) (da_cons (de_tup (da_cons de_str da_nil)) (da_cons (dv 5) da_nil)))) da_nil)))
    (dss_cons (ds_set (i := 3) sc_l_own.nd rfl (by first | exact Or.inl rfl | exact Or.inr rfl) (de_call G_l_own (hr.mono (Nat.le_refl _)) gu (by rfl) T.m_l_own T.F_l_own.kp T.d_l_own (da_cons (de_ix (ixD_any hu2) (dv 0) de_int) (da_cons (dv 5) (da_cons (dv 2) (da_cons (dv 5) da_nil))))))
    (dss_cons (ds_expr (de_bm PySem.F.plainAttrs_list PySem.F.slot_list_append PySem.F.type_list_append md_append (dv 2) (da_cons (de_tup (da_cons (dv 3) (da_cons (de_tup (da_cons de_str da_nil)) (da_cons (dv 5) da_nil)))) da_nil)))
    (dss_cons (ds_expr (de_bm PySem.F.plainAttrs_list PySem.F.slot_list_append PySem.F.type_list_append md_append (dv 2) (da_cons (de_tup (da_cons (dv 5) (da_cons (de_tup (da_cons de_str da_nil)) (da_cons (de_op od_addF (dv 3) de_int) da_nil)))) da_nil)))
    (dss_one (ds_ret (de_op od_addF (dv 3) de_int))))))))
      dss_nil)
    (dss_cons (ds_set (i := 6) sc_l_own.nd rfl (by first | exact Or.inl rfl | exact Or.inr rfl) (de_lst da_nil))
    (dss_cons (ds_for (passes_of rfl) rfl (di_seq (de_ix (ixD_any hu2) (dv 0) de_int)) (dg_name (i := 4) sc_l_own.nd rfl (by first | exact Or.inl rfl | exact Or.inr rfl))
      (dss_cons (ds_set (i := 3) sc_l_own.nd rfl (by first | exact Or.inl rfl | exact Or.inr rfl) (de_call G_l_own (hr.mono (Nat.le_refl _)) gu (by rfl) T.m_l_own T.F_l_own.kp T.d_l_own (da_cons (dv 4) (da_cons (dv 1) (da_cons (dv 2) (da_cons (dv 3) da_nil))))))
    (dss_one (ds_expr (de_bm PySem.F.plainAttrs_list PySem.F.slot_list_append PySem.F.type_list_append md_append (dv 6) (da_cons (dv 3) da_nil))))))
    (dss_cons (ds_for (passes_of rfl) rfl (di_seq (dv 6)) (dg_name (i := 7) sc_l_own.nd rfl (by first | exact Or.inl rfl | exact Or.inr rfl))
      (dss_one (ds_expr (de_bm PySem.F.plainAttrs_list PySem.F.slot_list_append PySem.F.type_list_append md_append (dv 2) (da_cons (de_tup (da_cons (dv 7) (da_cons (de_tup (da_cons de_str da_nil)) (da_cons (de_op od_addF (dv 3) de_int) da_nil)))) da_nil)))))
    (dss_one (ds_ret (de_op od_addF (dv 3) de_int)))))))))
end K33X
set_option maxRecDepth 100000
set_option maxHeartbeats 4000000
namespace K33X
open PySem PySem.Spec L2
open L33
open Rt
open Rb hiding Wd pre_ok
open Rs hiding prD prD_inj
open Rm
open Rc hiding N_l_pattern r_l_leaf r_l_pattern sp_l_leaf sp_l_leaf_mono sp_l_pattern sp_l_pattern_mono t_l_pattern
open ShB hiding N_l_leaf N_l_still dSeqWhile_gen r_l_leaf r_l_still sp_l_leaf sp_l_leaf_mono sp_l_still sp_l_still_mono t_l_leaf t_l_still
open Sh hiding N_l_cell_at N_l_feed N_l_leaf N_l_names N_l_pattern deeps_le deeps_mem perm_map_ex r_l_cell_at r_l_leaf r_l_pattern sp_l_leaf sp_l_leaf_mono sp_l_names sp_l_pattern sp_l_pattern_mono srt_strict t_l_cell_at t_l_feed t_l_leaf t_l_names t_l_pattern
open Dt hiding nkeys sp_l_cell_at sp_l_cell_at_mono sp_l_feed

/-! l_leaves -/
def t_l_leaves (spR : DSp) : DTS := (dSeq (dIf (dTest (dOp (dIn false) (dOp dIxS (dVar 0) (dC (.int 0))) (dTup (dCons (dC (.str "then")) (dCons (dC (.str "either")) dNil)))))
      (dSeq (dAsg (dLstF dNil) (dGN 1))
    (dSeq (dFor (dSeqI (dOp dIxS (dVar 0) (dC (.int 1)))) (dGN 2)
      (dAsg (dOp dAddF (dVar 1) (dCall spR (dCons (dVar 2) dNil))) (dGN 1)))
    (dRet (dVar 1))))
      dNx)
    (dSeq (dIf (dTest (dOp (dEq false) (dOp dIxS (dVar 0) (dC (.int 0))) (dC (.str "many"))))
      (dRet (dCall spR (dCons (dOp dIxS (dVar 0) (dC (.int 1))) dNil)))
      dNx)
    (dRet (dLstF (dCons (dVar 0) dNil)))))
abbrev N_l_leaves : List Str := ["_law_pattern_here", "_law_found", "_law_part_here"]
theorem ok_l_leaves {P : Program} {w : World} {K : PySem.W.Frag} {mg : Str → Option Value} {base : Heap} (T : Txt w K mg) (n : Nat) {spR : DSp} (G_l_leaves : DFn P w K mg base (0 + n) T.a_l_leaves T.f_l_leaves ["_law_pattern_here"] spR) {sp : DSp}
    (mono : SpMono sp) (len : ∀ ds S Q E, sp ds S Q E → ds.length = 1)
    (h : ∀ ds S Q E, sp ds S Q E → (t_l_leaves spR) (dEnd Q E) (dstart ["_law_pattern_here", "_law_found", "_law_part_here"] ds) S) : DFn P w K mg base (0 + n + 1) T.a_l_leaves T.f_l_leaves ["_law_pattern_here"] sp := by
  refine dfn_of2 (t := (t_l_leaves spR)) T.F_l_leaves sc_l_leaves mono len (fun cdv A outer s H E hr gu => ?_) h
  have hu1 := hu_of hr
  have hu2 := hu_big hr
  exact (dss_cons (ds_if (dt_cmp (od_in hu2) (de_ix (ixD_any hu2) (dv 0) de_int) (de_tup (da_cons de_str (da_cons de_str da_nil))) (by rfl))
      (dss_cons (ds_set (i := 1) sc_l_leaves.nd rfl (by first | exact Or.inl rfl | exact Or.inr rfl) (de_lstF da_nil))
    (dss_cons (ds_for (passes_of rfl) rfl (di_seq (de_ix (ixD_any hu2) (dv 0) de_int)) (dg_name (i := 2) sc_l_leaves.nd rfl (by first | exact Or.inl rfl | exact Or.inr rfl))
      (dss_one (ds_set (i := 1) sc_l_leaves.nd rfl (by first | exact Or.inl rfl | exact Or.inr rfl) (de_op od_addF (dv 1) (de_call G_l_leaves (hr.mono (Nat.le_refl _)) gu (by rfl) T.m_l_leaves T.F_l_leaves.kp T.d_l_leaves (da_cons (dv 2) da_nil))))))
    (dss_one (ds_ret (dv 1)))))
      dss_nil)
    (dss_cons (ds_if (dt_cmp (od_eq hr.units) (de_ix (ixD_any hu2) (dv 0) de_int) de_str (nomark _))
      (dss_one (ds_ret (de_call G_l_leaves (hr.mono (Nat.le_refl _)) gu (by rfl) T.m_l_leaves T.F_l_leaves.kp T.d_l_leaves (da_cons (de_ix (ixD_any hu2) (dv 0) de_int) da_nil))))
      dss_nil)
    (dss_one (ds_ret (de_lstF (da_cons (dv 0) da_nil))))))

/-! l_part -/
def t_l_part (spR : DSp) : DTS := (dSeq (dAsg (dOp rMod (dOp dIxS (dVar 0) (dOp rMod (dVar 1) (dCB cLen (dCons (dVar 0) dNil)))) (dOp dIxS (dLstF (dCons (dC (.int 5)) (dCons (dC (.int 8)) (dCons (dC (.int 9)) dNil)))) (dCB cMin2 (dCons (dVar 2) (dCons (dC (.int 2)) dNil))))) (dGN 3))
    (dSeq (dAsg (dOp dIxS (dVar 0) (dOp rMod (dOp dAddF (dVar 1) (dC (.int 1))) (dCB cLen (dCons (dVar 0) dNil)))) (dGN 4))
    (dSeq (dIf (dTest (dOp rLt (dVar 3) (dC (.int 5))))
      (dRet (dTup (dCons (dCall sp_l_leaf (dCons (dVar 3) (dCons (dVar 4) dNil))) (dCons (dOp dAddF (dVar 1) (dC (.int 2))) dNil))))
      dNx)
    (dSeq (dIf (dTest (dOp (dEq false) (dVar 3) (dC (.int 7))))
      (dSeq (dAsg (dCall spR (dCons (dVar 0) (dCons (dOp dAddF (dVar 1) (dC (.int 1))) (dCons (dOp rSub (dVar 2) (dC (.int 1))) dNil)))) (dGTupA 2 (dGCons (dGN 5) (dGCons (dGN 1) dGNil))))
    (dRet (dTup (dCons (dTup (dCons (dC (.str "many")) (dCons (dVar 5) dNil))) (dCons (dVar 1) dNil)))))
      dNx)
    (dSeq (dAsg (dOp dAddF (dVar 1) (dC (.int 2))) (dGN 1))
    (dSeq (dAsg (dLst dNil) (dGN 6))
    (dSeq (dFor (dRng1 (dCons (dOp rMod (dVar 4) (dOp dIxS (dLstF (dCons (dC (.int 1)) (dCons (dC (.int 3)) (dCons (dC (.int 4)) (dCons (dC (.int 3)) dNil))))) (dCB cMin2 (dCons (dVar 2) (dCons (dC (.int 3)) dNil))))) dNil)) (dGN 7)
      (dSeq (dAsg (dCall spR (dCons (dVar 0) (dCons (dVar 1) (dCons (dOp rSub (dVar 2) (dC (.int 1))) dNil)))) (dGTupA 2 (dGCons (dGN 5) (dGCons (dGN 1) dGNil))))
    (dDrop (dBM "list" mAppend (dVar 6) (dCons (dVar 5) dNil)))))
    (dRet (dTup (dCons (dTup (dCons (dOp dIxS (dLstF (dCons (dC (.str "then")) (dCons (dC (.str "either")) dNil))) (dOp rMod (dVar 3) (dC (.int 2)))) (dCons (dCB cTuple (dCons (dVar 6) dNil)) dNil))) (dCons (dVar 1) dNil)))))))))))
abbrev N_l_part : List Str := ["_law_ds", "_law_at", "_law_deep", "_law_way", "_law_number", "_law_part_here", "_law_parts", "_law_k"]
theorem ok_l_part {P : Program} {w : World} {K : PySem.W.Frag} {mg : Str → Option Value} {base : Heap} (T : Txt w K mg) (G_l_leaf : DFn P w K mg base 2 T.a_l_leaf T.f_l_leaf ["_law_way", "_law_number"] sp_l_leaf) (n : Nat) {spR : DSp} (G_l_part : DFn P w K mg base (2 + n) T.a_l_part T.f_l_part ["_law_ds", "_law_at", "_law_deep"] spR) {sp : DSp}
    (mono : SpMono sp) (len : ∀ ds S Q E, sp ds S Q E → ds.length = 3)
    (h : ∀ ds S Q E, sp ds S Q E → (t_l_part spR) (dEnd Q E) (dstart ["_law_ds", "_law_at", "_law_deep", "_law_way", "_law_number", "_law_part_here", "_law_parts", "_law_k"] ds) S) : DFn P w K mg base (2 + n + 1) T.a_l_part T.f_l_part ["_law_ds", "_law_at", "_law_deep"] sp := by
  refine dfn_of2 (t := (t_l_part spR)) T.F_l_part sc_l_part mono len (fun cdv A outer s H E hr gu => ?_) h
  have hu1 := hu_of hr
  have hu2 := hu_big hr
  exact (dss_cons (ds_set (i := 3) sc_l_part.nd rfl (by first | exact Or.inl rfl | exact Or.inr rfl) (de_op od_mod (de_ix (ixD_any hu2) (dv 0) (de_op od_mod (dv 1) (de_callB cd_len (by rfl) T.b_len (by decide +kernel) (da_cons (dv 0) da_nil)))) (de_ix (ixD_any hu2) (de_lstF (da_cons de_int (da_cons de_int (da_cons de_int da_nil)))) (de_callB (cd_min2 rfl) (by rfl) T.b_min (by decide +kernel) (da_cons (dv 2) (da_cons de_int da_nil))))))
    (dss_cons (ds_set (i := 4) sc_l_part.nd rfl (by first | exact Or.inl rfl | exact Or.inr rfl) (de_ix (ixD_any hu2) (dv 0) (de_op od_mod (de_op od_addF (dv 1) de_int) (de_callB cd_len (by rfl) T.b_len (by decide +kernel) (da_cons (dv 0) da_nil)))))
    (dss_cons (ds_if (dt_cmp od_lt (dv 3) de_int (nomark _))
      (dss_one (ds_ret (de_tup (da_cons (de_call G_l_leaf (hr.mono (by omega)) gu (by rfl) T.m_l_leaf T.F_l_leaf.kp T.d_l_leaf (da_cons (dv 3) (da_cons (dv 4) da_nil))) (da_cons (de_op od_addF (dv 1) de_int) da_nil)))))
      dss_nil)
    (dss_cons (ds_if (dt_cmp (od_eq hr.units) (dv 3) de_int (nomark _))
      (dss_cons (ds_asg (de_call G_l_part (hr.mono (Nat.le_refl _)) gu (by rfl) T.m_l_part T.F_l_part.kp T.d_l_part (da_cons (dv 0) (da_cons (de_op od_addF (dv 1) de_int) (da_cons (de_op od_sub (dv 2) de_int) da_nil)))) (dg_tupA rfl (dgs_cons (dg_name (i := 5) sc_l_part.nd rfl (by first | exact Or.inl rfl | exact Or.inr rfl)) (dgs_cons (dg_name (i := 1) sc_l_part.nd rfl (by first | exact Or.inl rfl | exact Or.inr rfl)) dgs_nil))))
    (dss_one (ds_ret (de_tup (da_cons (de_tup (da_cons de_str (da_cons (dv 5) da_nil))) (da_cons (dv 1) da_nil))))))
      dss_nil)
    (dss_cons (ds_set (i := 1) sc_l_part.nd rfl (by first | exact Or.inl rfl | exact Or.inr rfl) (de_op od_addF (dv 1) de_int))
    (dss_cons (ds_set (i := 6) sc_l_part.nd rfl (by first | exact Or.inl rfl | exact Or.inr rfl) (de_lst da_nil))
    (dss_cons (ds_for (passes_of rfl) rfl (di_rng1 (by rfl) T.b_range (da_cons (de_op od_mod (dv 4) (de_ix (ixD_any hu2) (de_lstF (da_cons de_int (da_cons de_int (da_cons de_int (da_cons de_int da_nil))))) (de_callB (cd_min2 rfl) (by rfl) T.b_min (by decide +kernel) (da_cons (dv 2) (da_cons de_int da_nil))))) da_nil)) (dg_name (i := 7) sc_l_part.nd rfl (by first | exact Or.inl rfl | exact Or.inr rfl))
      (dss_cons (ds_asg (de_call G_l_part (hr.mono (Nat.le_refl _)) gu (by rfl) T.m_l_part T.F_l_part.kp T.d_l_part (da_cons (dv 0) (da_cons (dv 1) (da_cons (de_op od_sub (dv 2) de_int) da_nil)))) (dg_tupA rfl (dgs_cons (dg_name (i := 5) sc_l_part.nd rfl (by first | exact Or.inl rfl | exact Or.inr rfl)) (dgs_cons (dg_name (i := 1) sc_l_part.nd rfl (by first | exact Or.inl rfl | exact Or.inr rfl)) dgs_nil))))
    (dss_one (ds_expr (de_bm PySem.F.plainAttrs_list PySem.F.slot_list_append PySem.F.type_list_append md_append (dv 6) (da_cons (dv 5) da_nil))))))
    (dss_one (ds_ret (de_tup (da_cons (de_tup (da_cons (de_ix (ixD_any hu2) (de_lstF (da_cons de_str (da_cons de_str da_nil))) (de_op od_mod (dv 3) de_int)) (da_cons (de_callTy cd_tuple (by rfl) T.b_tuple (by decide +kernel) (da_cons (dv 6) da_nil)) da_nil))) (da_cons (dv 1) da_nil))))))))))))

/-! l_pattern -/
def t_l_pattern : DTS := (dRet (dOp dIxS (dCall (sp_l_part 2) (dCons (dCall sp_l_draws (dCons (dVar 0) (dCons (dFz (dOp dMul (dLst (dCons (dC (.int 720)) dNil)) (dC (.int 50)))) dNil))) (dCons (dC (.int 0)) (dCons (dVar 1) dNil)))) (dC (.int 0))))
abbrev N_l_pattern : List Str := ["_law_cell", "_law_deep"]
theorem ok_l_pattern {P : Program} {w : World} {K : PySem.W.Frag} {mg : Str → Option Value} {base : Heap} (T : Txt w K mg) (G_l_draws : DFn P w K mg base 1 T.a_l_draws T.f_l_draws ["_law_cell", "_law_sizes"] sp_l_draws) (G_l_part : DFn P w K mg base 5 T.a_l_part T.f_l_part ["_law_ds", "_law_at", "_law_deep"] (sp_l_part 2)) {sp : DSp}
    (mono : SpMono sp) (len : ∀ ds S Q E, sp ds S Q E → ds.length = 2)
    (h : ∀ ds S Q E, sp ds S Q E → t_l_pattern (dEnd Q E) (dstart ["_law_cell", "_law_deep"] ds) S) : DFn P w K mg base 6 T.a_l_pattern T.f_l_pattern ["_law_cell", "_law_deep"] sp := by
  refine dfn_of2 (t := t_l_pattern) T.F_l_pattern sc_l_pattern mono len (fun cdv A outer s H E hr gu => ?_) h
  have hu1 := hu_of hr
  have hu2 := hu_big hr
  exact (dss_one (ds_ret (de_ix (ixD_any hu2) (de_call G_l_part (hr.mono (by decide)) gu (by rfl) T.m_l_part T.F_l_part.kp T.d_l_part (da_cons (de_call G_l_draws (hr.mono (by decide)) gu (by rfl) T.m_l_draws T.F_l_draws.kp T.d_l_draws (da_cons (dv 0) (da_cons (de_fz (de_op od_mul (de_lst (da_cons de_int da_nil)) de_int)) da_nil))) (da_cons de_int (da_cons (dv 1) da_nil)))) de_int)))

/-! Maker_lay -/
def t_Maker_lay (C_Maker : Addr) (spR spM : DSp) : DTS := (dIf (dTest (dOp (dIn false) (dOp dIxS (dVar 1) (dC (.int 0))) (dC (.tup [.str "stay", .str "step", .str "at", .str "off"]))))
      (dPut (dFld C_Maker "laid" (dVar 0)) (dTup (dCons (dVar 2) (dCons (dVar 1) (dCons (dVar 3) dNil)))) (dC (.bl true)))
      (dIf (dTest (dOp (dEq false) (dOp dIxS (dVar 1) (dC (.int 0))) (dC (.str "either"))))
      (dFor (dSeqI (dOp dIxS (dVar 1) (dC (.int 1)))) (dGN 4)
      (dDrop (dMeth C_Maker "lay" spR (dVar 0) (dCons (dVar 4) (dCons (dVar 2) (dCons (dVar 3) dNil))))))
      (dIf (dTest (dOp (dEq false) (dOp dIxS (dVar 1) (dC (.int 0))) (dC (.str "many"))))
      (dSeq (dAsg (dMeth C_Maker "fresh" (sp_Maker_fresh C_Maker) (dVar 0) dNil) (dGN 5))
    (dSeq (dPut (dFld C_Maker "laid" (dVar 0)) (dTup (dCons (dVar 2) (dCons (dTup (dCons (dC (.str "stay")) dNil)) (dCons (dVar 5) dNil)))) (dC (.bl true)))
    (dSeq (dPut (dFld C_Maker "laid" (dVar 0)) (dTup (dCons (dVar 5) (dCons (dTup (dCons (dC (.str "stay")) dNil)) (dCons (dVar 3) dNil)))) (dC (.bl true)))
    (dDrop (dMeth C_Maker "lay" spR (dVar 0) (dCons (dOp dIxS (dVar 1) (dC (.int 1))) (dCons (dVar 5) (dCons (dVar 5) dNil))))))))
      (dDrop (dMeth C_Maker "lay_row" spM (dVar 0) (dCons (dOp dIxS (dVar 1) (dC (.int 1))) (dCons (dVar 2) (dCons (dVar 3) dNil))))))))
abbrev N_Maker_lay : List Str := ["self", "pattern", "one", "other", "part", "middle"]
theorem ok_Maker_lay {P : Program} {w : World} {K : PySem.W.Frag} {mg : Str → Option Value} {base : Heap} (T : Txt w K mg) (G_Maker_fresh : DFn P w K mg base 1 T.a_Maker_fresh T.f_Maker_fresh ["self"] (sp_Maker_fresh T.C_Maker)) (n : Nat) {spR spM : DSp} (G_Maker_lay : DFn P w K mg base (1 + n) T.a_Maker_lay T.f_Maker_lay ["self", "pattern", "one", "other"] spR) (G_Maker_lay_row : DFn P w K mg base (1 + n) T.a_Maker_lay_row T.f_Maker_lay_row ["self", "parts", "one", "other"] spM) {sp : DSp}
    (mono : SpMono sp) (len : ∀ ds S Q E, sp ds S Q E → ds.length = 4)
    (h : ∀ ds S Q E, sp ds S Q E → (t_Maker_lay T.C_Maker spR spM) (dEnd Q E) (dstart ["self", "pattern", "one", "other", "part", "middle"] ds) S) : DFn P w K mg base (1 + n + 1) T.a_Maker_lay T.f_Maker_lay ["self", "pattern", "one", "other"] sp := by
  refine dfn_of2 (t := (t_Maker_lay T.C_Maker spR spM)) T.F_Maker_lay sc_Maker_lay mono len (fun cdv A outer s H E hr gu => ?_) h
  have hu1 := hu_of hr
  have hu2 := hu_big hr
  exact (dss_one (ds_if (dt_cmp (od_in hu2) (de_ix (ixD_any hu2) (dv 1) de_int) (de_gtup (by rfl) T.g_LEAVES T.l_LEAVES T.z_LEAVES T.v_LEAVES) (by rfl))
      (dss_one (ds_put hu2 (de_fld (dv 0) T.c_Maker T.n_Maker_laid) (de_tup (da_cons (dv 2) (da_cons (dv 1) (da_cons (dv 3) da_nil)))) de_bl))
      (dss_one (ds_if (dt_cmp (od_eq hr.units) (de_ix (ixD_any hu2) (dv 1) de_int) de_str (nomark _))
      (dss_one (ds_for (passes_of rfl) rfl (di_seq (de_ix (ixD_any hu2) (dv 1) de_int)) (dg_name (i := 4) sc_Maker_lay.nd rfl (by first | exact Or.inl rfl | exact Or.inr rfl))
      (dss_one (ds_expr (de_meth (dv 0) T.c_Maker T.M_Maker_lay G_Maker_lay (hr.mono (Nat.le_refl _)) gu T.d_Maker_lay (da_cons (dv 4) (da_cons (dv 2) (da_cons (dv 3) da_nil))))))))
      (dss_one (ds_if (dt_cmp (od_eq hr.units) (de_ix (ixD_any hu2) (dv 1) de_int) de_str (nomark _))
      (dss_cons (ds_set (i := 5) sc_Maker_lay.nd rfl (by first | exact Or.inl rfl | exact Or.inr rfl) (de_meth0 (dv 0) T.c_Maker T.M_Maker_fresh G_Maker_fresh (hr.mono (by omega)) gu T.d_Maker_fresh))
    (dss_cons (ds_put hu2 (de_fld (dv 0) T.c_Maker T.n_Maker_laid) (de_tup (da_cons (dv 2) (da_cons (de_tup (da_cons de_str da_nil)) (da_cons (dv 5) da_nil)))) de_bl)
    (dss_cons (ds_put hu2 (de_fld (dv 0) T.c_Maker T.n_Maker_laid) (de_tup (da_cons (dv 5) (da_cons (de_tup (da_cons de_str da_nil)) (da_cons (dv 3) da_nil)))) de_bl)
    (dss_one (ds_expr (de_meth (dv 0) T.c_Maker T.M_Maker_lay G_Maker_lay (hr.mono (Nat.le_refl _)) gu T.d_Maker_lay (da_cons (de_ix (ixD_any hu2) (dv 1) de_int) (da_cons (dv 5) (da_cons (dv 5) da_nil)))))))))
      (dss_one (ds_expr (de_meth (dv 0) T.c_Maker T.M_Maker_lay_row G_Maker_lay_row (hr.mono (Nat.le_refl _)) gu T.d_Maker_lay_row (da_cons (de_ix (ixD_any hu2) (dv 1) de_int) (da_cons (dv 2) (da_cons (dv 3) da_nil))))))))))))

/-! Maker_lay_row -/
def t_Maker_lay_row (C_Maker : Addr) (spR : DSp) : DTS := (dSeq (dIf (dTest (dOp (dEq false) (dVar 1) (dTup dNil)))
      (dPut (dFld C_Maker "laid" (dVar 0)) (dTup (dCons (dVar 2) (dCons (dTup (dCons (dC (.str "stay")) dNil)) (dCons (dVar 3) dNil)))) (dC (.bl true)))
      dNx)
    (dSeq (dAsg (dVar 2) (dGN 4))
    (dFor (dRng1 (dCons (dCB cLen (dCons (dVar 1) dNil)) dNil)) (dGN 5)
      (dSeq (dAsg (dVar 3) (dGN 6))
    (dSeq (dIf (dTest (dOp rLt (dVar 5) (dOp rSub (dCB cLen (dCons (dVar 1) dNil)) (dC (.int 1)))))
      (dAsg (dMeth C_Maker "fresh" (sp_Maker_fresh C_Maker) (dVar 0) dNil) (dGN 6))
      dNx)
    (dSeq (dDrop (dMeth C_Maker "lay" spR (dVar 0) (dCons (dOp dIxS (dVar 1) (dVar 5)) (dCons (dVar 4) (dCons (dVar 6) dNil)))))
    (dAsg (dVar 6) (dGN 4))))))))
abbrev N_Maker_lay_row : List Str := ["self", "parts", "one", "other", "here", "place", "there"]
theorem ok_Maker_lay_row {P : Program} {w : World} {K : PySem.W.Frag} {mg : Str → Option Value} {base : Heap} (T : Txt w K mg) (G_Maker_fresh : DFn P w K mg base 1 T.a_Maker_fresh T.f_Maker_fresh ["self"] (sp_Maker_fresh T.C_Maker)) (n : Nat) {spR : DSp} (G_Maker_lay : DFn P w K mg base (1 + n) T.a_Maker_lay T.f_Maker_lay ["self", "pattern", "one", "other"] spR) {sp : DSp}
    (mono : SpMono sp) (len : ∀ ds S Q E, sp ds S Q E → ds.length = 4)
    (h : ∀ ds S Q E, sp ds S Q E → (t_Maker_lay_row T.C_Maker spR) (dEnd Q E) (dstart ["self", "parts", "one", "other", "here", "place", "there"] ds) S) : DFn P w K mg base (1 + n + 1) T.a_Maker_lay_row T.f_Maker_lay_row ["self", "parts", "one", "other"] sp := by
  refine dfn_of2 (t := (t_Maker_lay_row T.C_Maker spR)) T.F_Maker_lay_row sc_Maker_lay_row mono len (fun cdv A outer s H E hr gu => ?_) h
  have hu1 := hu_of hr
  have hu2 := hu_big hr
  exact (dss_cons (ds_if (dt_cmp (od_eq hr.units) (dv 1) (de_tup da_nil) (nomark _))
      (dss_one (ds_put hu2 (de_fld (dv 0) T.c_Maker T.n_Maker_laid) (de_tup (da_cons (dv 2) (da_cons (de_tup (da_cons de_str da_nil)) (da_cons (dv 3) da_nil)))) de_bl))
      dss_nil)
    (dss_cons (ds_set (i := 4) sc_Maker_lay_row.nd rfl (by first | exact Or.inl rfl | exact Or.inr rfl) (dv 2))
    (dss_one (ds_for (passes_of rfl) rfl (di_rng1 (by rfl) T.b_range (da_cons (de_callB cd_len (by rfl) T.b_len (by decide +kernel) (da_cons (dv 1) da_nil)) da_nil)) (dg_name (i := 5) sc_Maker_lay_row.nd rfl (by first | exact Or.inl rfl | exact Or.inr rfl))
      (dss_cons (ds_set (i := 6) sc_Maker_lay_row.nd rfl (by first | exact Or.inl rfl | exact Or.inr rfl) (dv 3))
    (dss_cons (ds_if (dt_cmp od_lt (dv 5) (de_op od_sub (de_callB cd_len (by rfl) T.b_len (by decide +kernel) (da_cons (dv 1) da_nil)) de_int) (nomark _))
      (dss_one (ds_set (i := 6) sc_Maker_lay_row.nd rfl (by first | exact Or.inl rfl | exact Or.inr rfl) (de_meth0 (dv 0) T.c_Maker T.M_Maker_fresh G_Maker_fresh (hr.mono (by omega)) gu T.d_Maker_fresh)))
      dss_nil)
    (dss_cons (ds_expr (de_meth (dv 0) T.c_Maker T.M_Maker_lay G_Maker_lay (hr.mono (Nat.le_refl _)) gu T.d_Maker_lay (da_cons (de_ix (ixD_any hu2) (dv 1) (dv 5)) (da_cons (dv 4) (da_cons (dv 6) da_nil)))))
    (dss_one (ds_set (i := 4) sc_Maker_lay_row.nd rfl (by first | exact Or.inl rfl | exact Or.inr rfl) (dv 6))))))))))

/-! machine_of -/
def t_machine_of (C_Maker : Addr) : DTS := (dSeq (dAsg (dMake C_Maker (sp_Maker_init C_Maker) dNil) (dGN 1))
    (dSeq (dDrop (dMeth C_Maker "lay" (sp_Maker_lay C_Maker 3) (dVar 1) (dCons (dVar 0) (dCons (dC (.int 0)) (dCons (dC (.int 1)) dNil)))))
    (dRet (dTup (dCons (dFld C_Maker "size" (dVar 1)) (dCons (dC (.int 0)) (dCons (dTup (dCons (dC (.int 1)) dNil)) (dCons (dCB cTuple (dCons (dCB cSortAF (dCons (dFld C_Maker "laid" (dVar 1)) dNil)) dNil)) dNil))))))))
abbrev N_machine_of : List Str := ["pattern", "maker"]
theorem ok_machine_of {P : Program} {w : World} {K : PySem.W.Frag} {mg : Str → Option Value} {base : Heap} (T : Txt w K mg) (G_Maker_init : DFn P w K mg base 1 T.a_Maker_init T.f_Maker_init ["self"] (sp_Maker_init T.C_Maker)) (G_Maker_lay : DFn P w K mg base 8 T.a_Maker_lay T.f_Maker_lay ["self", "pattern", "one", "other"] (sp_Maker_lay T.C_Maker 3)) {sp : DSp}
    (mono : SpMono sp) (len : ∀ ds S Q E, sp ds S Q E → ds.length = 1)
    (h : ∀ ds S Q E, sp ds S Q E → (t_machine_of T.C_Maker) (dEnd Q E) (dstart ["pattern", "maker"] ds) S) : DFn P w K mg base 9 T.a_machine_of T.f_machine_of ["pattern"] sp := by
  refine dfn_of2 (t := (t_machine_of T.C_Maker)) T.F_machine_of sc_machine_of mono len (fun cdv A outer s H E hr gu => ?_) h
  have hu1 := hu_of hr
  have hu2 := hu_big hr
  exact (dss_cons (ds_set (i := 1) sc_machine_of.nd rfl (by first | exact Or.inl rfl | exact Or.inr rfl) (de_make0 T.k_Maker G_Maker_init (hr.mono (by decide)) gu (by rfl) T.g_Maker T.d_Maker_init))
    (dss_cons (ds_expr (de_meth (dv 1) T.c_Maker T.M_Maker_lay G_Maker_lay (hr.mono (by decide)) gu T.d_Maker_lay (da_cons (dv 0) (da_cons de_int (da_cons de_int da_nil)))))
    (dss_one (ds_ret (de_tup (da_cons (de_fld (dv 1) T.c_Maker T.n_Maker_size) (da_cons de_int (da_cons (de_tup (da_cons de_int da_nil)) (da_cons (de_callTy cd_tuple (by rfl) T.b_tuple (by decide +kernel) (da_cons (de_callB (cd_sortAF rfl (hu64 hu2)) (by rfl) T.b_sorted (by decide +kernel) (da_cons (de_fld (dv 1) T.c_Maker T.n_Maker_laid) da_nil)) da_nil)) da_nil)))))))))

/-! law -/
def t_law (C_Maker : Addr) : DTS := (dSeq (dFor (dRng1 (dCons (dOp dAddF (dC (.int 1)) (dCB cLen (dCons (dSlF (dVar 0) dNoP (dSoP (dC (.int 1)))) dNil))) dNil)) (dGN 1)
      (dSeq (dAsg (dCall sp_l_pattern (dCons (dCall sp_l_cell_at (dCons (dVar 0) (dCons (dVar 1) dNil))) (dCons (dC (.int 2)) dNil))) (dGN 2))
    (dSeq (dAsg (dLst dNil) (dGN 3))
    (dSeq (dAsg (dCall (sp_l_own 2) (dCons (dVar 2) (dCons (dC (.int 0)) (dCons (dVar 3) (dCons (dC (.int 0)) dNil))))) (dGN 4))
    (dIf (dNot (dTest (dCall sp_l_alike (dCons (dCall (sp_machine_of C_Maker) (dCons (dVar 2) dNil)) (dCons (dTup (dCons (dOp dAddF (dVar 4) (dC (.int 1))) (dCons (dC (.int 0)) (dCons (dTup (dCons (dVar 4) dNil)) (dCons (dCB cTuple (dCons (dVar 3) dNil)) dNil))))) (dCons (dCall (sp_l_leaves 2) (dCons (dVar 2) dNil)) dNil))))))
      (dRet (dC (.bl false)))
      dNx)))))
    (dRet (dC (.bl true))))
abbrev N_law : List Str := ["_law_script", "_law_k", "_law_pattern_here", "_law_moves", "_law_last"]
theorem ok_law {P : Program} {w : World} {K : PySem.W.Frag} {mg : Str → Option Value} {base : Heap} (T : Txt w K mg) (G_l_cell_at : DFn P w K mg base 1 T.a_l_cell_at T.f_l_cell_at ["_law_script", "_law_k"] sp_l_cell_at) (G_l_alike : DFn P w K mg base 2 T.a_l_alike T.f_l_alike ["_law_machine", "_law_own_here", "_law_leaves_here"] sp_l_alike) (G_l_own : DFn P w K mg base 3 T.a_l_own T.f_l_own ["_law_pattern_here", "_law_one", "_law_moves", "_law_last"] (sp_l_own 2)) (G_l_leaves : DFn P w K mg base 3 T.a_l_leaves T.f_l_leaves ["_law_pattern_here"] (sp_l_leaves 2)) (G_l_pattern : DFn P w K mg base 6 T.a_l_pattern T.f_l_pattern ["_law_cell", "_law_deep"] sp_l_pattern) (G_machine_of : DFn P w K mg base 9 T.a_machine_of T.f_machine_of ["pattern"] (sp_machine_of T.C_Maker)) {sp : DSp}
    (mono : SpMono sp) (len : ∀ ds S Q E, sp ds S Q E → ds.length = 1)
    (h : ∀ ds S Q E, sp ds S Q E → (t_law T.C_Maker) (dEnd Q E) (dstart ["_law_script", "_law_k", "_law_pattern_here", "_law_moves", "_law_last"] ds) S) : DFn P w K mg base 10 T.a_law T.f_law ["_law_script"] sp := by
  refine dfn_of2 (t := (t_law T.C_Maker)) T.F_law sc_law mono len (fun cdv A outer s H E hr gu => ?_) h
  have hu1 := hu_of hr
  have hu2 := hu_big hr
  exact (dss_cons (ds_for (passes_of rfl) rfl (di_rng1 (by rfl) T.b_range (da_cons (de_op od_addF de_int (de_callB cd_len (by rfl) T.b_len (by decide +kernel) (da_cons (de_slF (dv 0) do_none (do_some de_int)) da_nil))) da_nil)) (dg_name (i := 1) sc_law.nd rfl (by first | exact Or.inl rfl | exact Or.inr rfl))
      (dss_cons (ds_set (i := 2) sc_law.nd rfl (by first | exact Or.inl rfl | exact Or.inr rfl) (de_call G_l_pattern (hr.mono (by decide)) gu (by rfl) T.m_l_pattern T.F_l_pattern.kp T.d_l_pattern (da_cons (de_call G_l_cell_at (hr.mono (by decide)) gu (by rfl) T.m_l_cell_at T.F_l_cell_at.kp T.d_l_cell_at (da_cons (dv 0) (da_cons (dv 1) da_nil))) (da_cons de_int da_nil))))
    (dss_cons (ds_set (i := 3) sc_law.nd rfl (by first | exact Or.inl rfl | exact Or.inr rfl) (de_lst da_nil))
    (dss_cons (ds_set (i := 4) sc_law.nd rfl (by first | exact Or.inl rfl | exact Or.inr rfl) (de_call G_l_own (hr.mono (by decide)) gu (by rfl) T.m_l_own T.F_l_own.kp T.d_l_own (da_cons (dv 2) (da_cons de_int (da_cons (dv 3) (da_cons de_int da_nil))))))
    (dss_one (ds_if (dt_not (dt_val (de_call G_l_alike (hr.mono (by decide)) gu (by rfl) T.m_l_alike T.F_l_alike.kp T.d_l_alike (da_cons (de_call G_machine_of (hr.mono (by decide)) gu (by rfl) T.m_machine_of T.F_machine_of.kp T.d_machine_of (da_cons (dv 2) da_nil)) (da_cons (de_tup (da_cons (de_op od_addF (dv 4) de_int) (da_cons de_int (da_cons (de_tup (da_cons (dv 4) da_nil)) (da_cons (de_callTy cd_tuple (by rfl) T.b_tuple (by decide +kernel) (da_cons (dv 3) da_nil)) da_nil))))) (da_cons (de_call G_l_leaves (hr.mono (by decide)) gu (by rfl) T.m_l_leaves T.F_l_leaves.kp T.d_l_leaves (da_cons (dv 2) da_nil)) da_nil))))))
      (dss_one (ds_ret de_bl))
      dss_nil))))))
    (dss_one (ds_ret de_bl)))
end K33X
set_option maxRecDepth 100000
set_option maxHeartbeats 4000000
namespace K33X
open PySem PySem.Spec L2
open L33
open Rt
open Rb hiding Wd pre_ok
open Rs hiding prD prD_inj
open Rm
open Rc hiding N_l_pattern r_l_leaf r_l_pattern sp_l_leaf sp_l_leaf_mono sp_l_pattern sp_l_pattern_mono t_l_pattern
open ShB hiding N_l_leaf N_l_still dSeqWhile_gen r_l_leaf r_l_still sp_l_leaf sp_l_leaf_mono sp_l_still sp_l_still_mono t_l_leaf t_l_still
open Sh hiding N_l_cell_at N_l_feed N_l_leaf N_l_names N_l_pattern deeps_le deeps_mem perm_map_ex r_l_cell_at r_l_leaf r_l_pattern sp_l_leaf sp_l_leaf_mono sp_l_names sp_l_pattern sp_l_pattern_mono srt_strict t_l_cell_at t_l_feed t_l_leaf t_l_names t_l_pattern
open Dt hiding nkeys sp_l_cell_at sp_l_cell_at_mono sp_l_feed

section
theorem all_go {P : Program} {w : World} {K : PySem.W.Frag} {mg : Str → Option Value} {base : Heap} (T : Txt w K mg) : DFn P w K mg base 10 T.a_law T.f_law ["_law_script"] sp_law := by
  have G_Maker_init : DFn P w K mg base 1 T.a_Maker_init T.f_Maker_init ["self"] (sp_Maker_init T.C_Maker) := ok_Maker_init T (sp_Maker_init_mono T.C_Maker) (fun ds S Q E h => by first | (obtain ⟨_, rfl, _⟩ := h; rfl) | (obtain ⟨rfl, _⟩ := h; rfl) | (obtain ⟨_, _, _, rfl, _⟩ := h; rfl) | (obtain ⟨_, _, rfl, _⟩ := h; rfl) | (obtain ⟨_, _, _, _, rfl, _⟩ := h; rfl) | (obtain ⟨_, _, _, _, _, rfl, _⟩ := h; rfl) | (obtain ⟨_, _, _, _, _, _, rfl, _⟩ := h; rfl) | (obtain ⟨_, _, _, _, _, _, _, rfl, _⟩ := h; rfl) | (obtain ⟨_, _, _, _, _, _, _, _, rfl, _⟩ := h; rfl) | (obtain ⟨_, rfl⟩ := h; rfl)) r_Maker_init
  have G_Maker_fresh : DFn P w K mg base 1 T.a_Maker_fresh T.f_Maker_fresh ["self"] (sp_Maker_fresh T.C_Maker) := ok_Maker_fresh T (sp_Maker_fresh_mono T.C_Maker) (fun ds S Q E h => by first | (obtain ⟨_, _, _, _, rfl, _⟩ := h; rfl) | (obtain ⟨rfl, _⟩ := h; rfl) | (obtain ⟨_, _, _, rfl, _⟩ := h; rfl) | (obtain ⟨_, _, rfl, _⟩ := h; rfl) | (obtain ⟨_, _, _, _, _, rfl, _⟩ := h; rfl) | (obtain ⟨_, rfl, _⟩ := h; rfl) | (obtain ⟨_, _, _, _, _, _, rfl, _⟩ := h; rfl) | (obtain ⟨_, _, _, _, _, _, _, rfl, _⟩ := h; rfl) | (obtain ⟨_, _, _, _, _, _, _, _, rfl, _⟩ := h; rfl) | (obtain ⟨_, rfl⟩ := h; rfl)) r_Maker_fresh
  have G_l_cell_at : DFn P w K mg base 1 T.a_l_cell_at T.f_l_cell_at ["_law_script", "_law_k"] sp_l_cell_at := ok_l_cell_at T sp_l_cell_at_mono (fun ds S Q E h => by first | (obtain ⟨_, _, rfl, _⟩ := h; rfl) | (obtain ⟨rfl, _⟩ := h; rfl) | (obtain ⟨_, _, _, rfl, _⟩ := h; rfl) | (obtain ⟨_, _, _, _, rfl, _⟩ := h; rfl) | (obtain ⟨_, _, _, _, _, rfl, _⟩ := h; rfl) | (obtain ⟨_, rfl, _⟩ := h; rfl) | (obtain ⟨_, _, _, _, _, _, rfl, _⟩ := h; rfl) | (obtain ⟨_, _, _, _, _, _, _, rfl, _⟩ := h; rfl) | (obtain ⟨_, _, _, _, _, _, _, _, rfl, _⟩ := h; rfl) | (obtain ⟨_, rfl⟩ := h; rfl)) r_l_cell_at
  have G_l_draws : DFn P w K mg base 1 T.a_l_draws T.f_l_draws ["_law_cell", "_law_sizes"] sp_l_draws := ok_l_draws T sp_l_draws_mono (fun ds S Q E h => by first | (obtain ⟨_, _, rfl, _⟩ := h; rfl) | (obtain ⟨rfl, _⟩ := h; rfl) | (obtain ⟨_, _, _, rfl, _⟩ := h; rfl) | (obtain ⟨_, _, _, _, rfl, _⟩ := h; rfl) | (obtain ⟨_, _, _, _, _, rfl, _⟩ := h; rfl) | (obtain ⟨_, rfl, _⟩ := h; rfl) | (obtain ⟨_, _, _, _, _, _, rfl, _⟩ := h; rfl) | (obtain ⟨_, _, _, _, _, _, _, rfl, _⟩ := h; rfl) | (obtain ⟨_, _, _, _, _, _, _, _, rfl, _⟩ := h; rfl) | (obtain ⟨_, rfl⟩ := h; rfl)) r_l_draws
  have G_l_words : DFn P w K mg base 1 T.a_l_words T.f_l_words [] sp_l_words := ok_l_words T sp_l_words_mono (fun ds S Q E h => by first | (obtain ⟨_, _, rfl, _⟩ := h; rfl) | (obtain ⟨_, rfl, _⟩ := h; rfl) | (obtain ⟨rfl, _⟩ := h; rfl) | (obtain ⟨_, _, _, rfl, _⟩ := h; rfl) | (obtain ⟨_, _, _, _, rfl, _⟩ := h; rfl) | (obtain ⟨_, _, _, _, _, rfl, _⟩ := h; rfl) | (obtain ⟨_, _, _, _, _, _, rfl, _⟩ := h; rfl) | (obtain ⟨_, _, _, _, _, _, _, rfl, _⟩ := h; rfl) | (obtain ⟨_, _, _, _, _, _, _, _, rfl, _⟩ := h; rfl) | (obtain ⟨_, _, _, _, _, _, _, _, _, rfl, _⟩ := h; rfl) | (obtain ⟨_, _, _, _, _, _, _, _, _, _, rfl, _⟩ := h; rfl) | (obtain ⟨_, _, _, _, _, _, _, _, _, _, _, rfl, _⟩ := h; rfl) | (obtain ⟨_, _, _, _, _, _, _, _, _, _, _, _, rfl, _⟩ := h; rfl) | (obtain ⟨_, _, _, _, _, _, _, _, _, _, _, _, _, rfl, _⟩ := h; rfl) | (obtain ⟨_, _, _, _, _, _, _, _, _, _, _, _, _, _, rfl, _⟩ := h; rfl) | (obtain ⟨_, _, _, _, _, _, _, _, _, _, _, _, _, _, _, rfl, _⟩ := h; rfl) | (obtain ⟨_, _, _, _, _, _, _, _, _, _, _, _, _, _, _, _, rfl, _⟩ := h; rfl) | (obtain ⟨_, _, _, _, _, _, _, _, _, _, _, _, _, _, _, _, _, rfl, _⟩ := h; rfl) | (obtain ⟨_, rfl⟩ := h; rfl)) r_l_words
  have G_l_marks : DFn P w K mg base 1 T.a_l_marks T.f_l_marks [] sp_l_marks := ok_l_marks T sp_l_marks_mono (fun ds S Q E h => by first | (obtain ⟨rfl, _⟩ := h; rfl) | (obtain ⟨_, rfl, _⟩ := h; rfl) | (obtain ⟨_, _, rfl, _⟩ := h; rfl) | (obtain ⟨_, _, _, rfl, _⟩ := h; rfl) | (obtain ⟨_, _, _, _, rfl, _⟩ := h; rfl) | (obtain ⟨_, _, _, _, _, rfl, _⟩ := h; rfl) | (obtain ⟨_, _, _, _, _, _, rfl, _⟩ := h; rfl) | (obtain ⟨_, _, _, _, _, _, _, rfl, _⟩ := h; rfl) | (obtain ⟨_, _, _, _, _, _, _, _, rfl, _⟩ := h; rfl) | (obtain ⟨_, _, _, _, _, _, _, _, _, rfl, _⟩ := h; rfl) | (obtain ⟨_, _, _, _, _, _, _, _, _, _, rfl, _⟩ := h; rfl) | (obtain ⟨_, _, _, _, _, _, _, _, _, _, _, rfl, _⟩ := h; rfl) | (obtain ⟨_, _, _, _, _, _, _, _, _, _, _, _, rfl, _⟩ := h; rfl) | (obtain ⟨_, _, _, _, _, _, _, _, _, _, _, _, _, rfl, _⟩ := h; rfl) | (obtain ⟨_, _, _, _, _, _, _, _, _, _, _, _, _, _, rfl, _⟩ := h; rfl) | (obtain ⟨_, _, _, _, _, _, _, _, _, _, _, _, _, _, _, rfl, _⟩ := h; rfl) | (obtain ⟨_, _, _, _, _, _, _, _, _, _, _, _, _, _, _, _, rfl, _⟩ := h; rfl) | (obtain ⟨_, _, _, _, _, _, _, _, _, _, _, _, _, _, _, _, _, rfl, _⟩ := h; rfl) | (obtain ⟨_, rfl⟩ := h; rfl)) r_l_marks
  have G_l_still : DFn P w K mg base 1 T.a_l_still T.f_l_still ["_law_machine", "_law_stands", "_law_marks_here"] sp_l_still := ok_l_still T sp_l_still_mono (fun ds S Q E h => by first | (obtain ⟨_, _, _, _, _, _, _, rfl, _⟩ := h; rfl) | (obtain ⟨_, _, _, _, _, _, rfl, _⟩ := h; rfl) | (obtain ⟨rfl, _⟩ := h; rfl) | (obtain ⟨_, rfl, _⟩ := h; rfl) | (obtain ⟨_, _, rfl, _⟩ := h; rfl) | (obtain ⟨_, _, _, rfl, _⟩ := h; rfl) | (obtain ⟨_, _, _, _, rfl, _⟩ := h; rfl) | (obtain ⟨_, _, _, _, _, rfl, _⟩ := h; rfl) | (obtain ⟨_, _, _, _, _, _, _, _, rfl, _⟩ := h; rfl) | (obtain ⟨_, _, _, _, _, _, _, _, _, rfl, _⟩ := h; rfl) | (obtain ⟨_, _, _, _, _, _, _, _, _, _, rfl, _⟩ := h; rfl) | (obtain ⟨_, _, _, _, _, _, _, _, _, _, _, rfl, _⟩ := h; rfl) | (obtain ⟨_, _, _, _, _, _, _, _, _, _, _, _, rfl, _⟩ := h; rfl) | (obtain ⟨_, _, _, _, _, _, _, _, _, _, _, _, _, rfl, _⟩ := h; rfl) | (obtain ⟨_, _, _, _, _, _, _, _, _, _, _, _, _, _, rfl, _⟩ := h; rfl) | (obtain ⟨_, _, _, _, _, _, _, _, _, _, _, _, _, _, _, rfl, _⟩ := h; rfl) | (obtain ⟨_, _, _, _, _, _, _, _, _, _, _, _, _, _, _, _, rfl, _⟩ := h; rfl) | (obtain ⟨_, _, _, _, _, _, _, _, _, _, _, _, _, _, _, _, _, rfl, _⟩ := h; rfl) | (obtain ⟨_, rfl⟩ := h; rfl)) r_l_still
  have G_l_by : DFn P w K mg base 1 T.a_l_by T.f_l_by ["_law_machine", "_law_stands", "_law_side", "_law_word"] sp_l_by := ok_l_by T sp_l_by_mono (fun ds S Q E h => by first | (obtain ⟨_, _, _, _, _, _, _, _, rfl, _⟩ := h; rfl) | (obtain ⟨rfl, _⟩ := h; rfl) | (obtain ⟨_, _, _, rfl, _⟩ := h; rfl) | (obtain ⟨_, _, rfl, _⟩ := h; rfl) | (obtain ⟨_, _, _, _, rfl, _⟩ := h; rfl) | (obtain ⟨_, _, _, _, _, rfl, _⟩ := h; rfl) | (obtain ⟨_, rfl, _⟩ := h; rfl) | (obtain ⟨_, _, _, _, _, _, rfl, _⟩ := h; rfl) | (obtain ⟨_, _, _, _, _, _, _, rfl, _⟩ := h; rfl) | (obtain ⟨_, rfl⟩ := h; rfl)) r_l_by
  have G_l_sets : DFn P w K mg base 1 T.a_l_sets T.f_l_sets ["_law_some"] sp_l_sets := ok_l_sets T sp_l_sets_mono (fun ds S Q E h => by first | (obtain ⟨_, rfl, _⟩ := h; rfl) | (obtain ⟨rfl, _⟩ := h; rfl) | (obtain ⟨_, _, _, rfl, _⟩ := h; rfl) | (obtain ⟨_, _, rfl, _⟩ := h; rfl) | (obtain ⟨_, _, _, _, rfl, _⟩ := h; rfl) | (obtain ⟨_, _, _, _, _, rfl, _⟩ := h; rfl) | (obtain ⟨_, _, _, _, _, _, rfl, _⟩ := h; rfl) | (obtain ⟨_, _, _, _, _, _, _, rfl, _⟩ := h; rfl) | (obtain ⟨_, _, _, _, _, _, _, _, rfl, _⟩ := h; rfl) | (obtain ⟨_, rfl⟩ := h; rfl)) r_l_sets
  have G_l_leaf : DFn P w K mg base 2 T.a_l_leaf T.f_l_leaf ["_law_way", "_law_number"] sp_l_leaf := ok_l_leaf T (G_l_words := G_l_words) (G_l_marks := G_l_marks) sp_l_leaf_mono (fun ds S Q E h => by first | (obtain ⟨_, _, _, _, _, _, rfl, _⟩ := h; rfl) | (obtain ⟨_, _, _, _, _, rfl, _⟩ := h; rfl) | (obtain ⟨_, _, rfl, _⟩ := h; rfl) | (obtain ⟨rfl, _⟩ := h; rfl) | (obtain ⟨_, rfl, _⟩ := h; rfl) | (obtain ⟨_, _, _, rfl, _⟩ := h; rfl) | (obtain ⟨_, _, _, _, rfl, _⟩ := h; rfl) | (obtain ⟨_, _, _, _, _, _, _, rfl, _⟩ := h; rfl) | (obtain ⟨_, _, _, _, _, _, _, _, rfl, _⟩ := h; rfl) | (obtain ⟨_, _, _, _, _, _, _, _, _, rfl, _⟩ := h; rfl) | (obtain ⟨_, _, _, _, _, _, _, _, _, _, rfl, _⟩ := h; rfl) | (obtain ⟨_, _, _, _, _, _, _, _, _, _, _, rfl, _⟩ := h; rfl) | (obtain ⟨_, _, _, _, _, _, _, _, _, _, _, _, rfl, _⟩ := h; rfl) | (obtain ⟨_, _, _, _, _, _, _, _, _, _, _, _, _, rfl, _⟩ := h; rfl) | (obtain ⟨_, _, _, _, _, _, _, _, _, _, _, _, _, _, rfl, _⟩ := h; rfl) | (obtain ⟨_, _, _, _, _, _, _, _, _, _, _, _, _, _, _, rfl, _⟩ := h; rfl) | (obtain ⟨_, _, _, _, _, _, _, _, _, _, _, _, _, _, _, _, rfl, _⟩ := h; rfl) | (obtain ⟨_, _, _, _, _, _, _, _, _, _, _, _, _, _, _, _, _, rfl, _⟩ := h; rfl) | (obtain ⟨_, rfl⟩ := h; rfl)) r_l_leaf
  have G_l_alike : DFn P w K mg base 2 T.a_l_alike T.f_l_alike ["_law_machine", "_law_own_here", "_law_leaves_here"] sp_l_alike := ok_l_alike T (G_l_still := G_l_still) (G_l_by := G_l_by) (G_l_sets := G_l_sets) sp_l_alike_mono (fun ds S Q E h => by first | (obtain ⟨_, _, rfl, _⟩ := h; rfl) | (obtain ⟨rfl, _⟩ := h; rfl) | (obtain ⟨_, _, _, rfl, _⟩ := h; rfl) | (obtain ⟨_, _, _, _, rfl, _⟩ := h; rfl) | (obtain ⟨_, _, _, _, _, rfl, _⟩ := h; rfl) | (obtain ⟨_, rfl, _⟩ := h; rfl) | (obtain ⟨_, _, _, _, _, _, rfl, _⟩ := h; rfl) | (obtain ⟨_, _, _, _, _, _, _, rfl, _⟩ := h; rfl) | (obtain ⟨_, _, _, _, _, _, _, _, rfl, _⟩ := h; rfl) | (obtain ⟨_, rfl⟩ := h; rfl)) r_l_alike
  have R_l_own : ∀ n, DFn P w K mg base (0 + n + 1) T.a_l_own T.f_l_own ["_law_pattern_here", "_law_one", "_law_moves", "_law_last"] (sp_l_own n) := fun n => by
    induction n with
    | zero => exact ok_l_own T 0 (DFn.never 0) (sp_l_own_mono 0) (fun ds S Q E h => by first | (obtain ⟨_, _, rfl, _⟩ := h; rfl) | (obtain ⟨_, _, _, _, rfl, _⟩ := h; rfl) | (obtain ⟨_, _, _, rfl, _⟩ := h; rfl) | (obtain ⟨_, _, _, _, _, rfl, _⟩ := h; rfl) | (obtain ⟨rfl, _⟩ := h; rfl) | (obtain ⟨_, rfl, _⟩ := h; rfl) | (obtain ⟨_, _, _, _, _, _, rfl, _⟩ := h; rfl) | (obtain ⟨_, _, _, _, _, _, _, rfl, _⟩ := h; rfl) | (obtain ⟨_, _, _, _, _, _, _, _, rfl, _⟩ := h; rfl) | (obtain ⟨_, _, _, _, _, _, _, _, _, rfl, _⟩ := h; rfl) | (obtain ⟨_, _, _, _, _, _, _, _, _, _, rfl, _⟩ := h; rfl) | (obtain ⟨_, _, _, _, _, _, _, _, _, _, _, rfl, _⟩ := h; rfl) | (obtain ⟨_, _, _, _, _, _, _, _, _, _, _, _, rfl, _⟩ := h; rfl) | (obtain ⟨_, _, _, _, _, _, _, _, _, _, _, _, _, rfl, _⟩ := h; rfl) | (obtain ⟨_, _, _, _, _, _, _, _, _, _, _, _, _, _, rfl, _⟩ := h; rfl) | (obtain ⟨_, _, _, _, _, _, _, _, _, _, _, _, _, _, _, rfl, _⟩ := h; rfl) | (obtain ⟨_, _, _, _, _, _, _, _, _, _, _, _, _, _, _, _, rfl, _⟩ := h; rfl) | (obtain ⟨_, _, _, _, _, _, _, _, _, _, _, _, _, _, _, _, _, rfl, _⟩ := h; rfl) | (obtain ⟨_, rfl⟩ := h; rfl)) (r_l_own 0)
    | succ n ih => exact ok_l_own T (n + 1) ih (sp_l_own_mono (n + 1)) (fun ds S Q E h => by first | (obtain ⟨_, _, rfl, _⟩ := h; rfl) | (obtain ⟨_, _, _, _, rfl, _⟩ := h; rfl) | (obtain ⟨_, _, _, rfl, _⟩ := h; rfl) | (obtain ⟨_, _, _, _, _, rfl, _⟩ := h; rfl) | (obtain ⟨rfl, _⟩ := h; rfl) | (obtain ⟨_, rfl, _⟩ := h; rfl) | (obtain ⟨_, _, _, _, _, _, rfl, _⟩ := h; rfl) | (obtain ⟨_, _, _, _, _, _, _, rfl, _⟩ := h; rfl) | (obtain ⟨_, _, _, _, _, _, _, _, rfl, _⟩ := h; rfl) | (obtain ⟨_, _, _, _, _, _, _, _, _, rfl, _⟩ := h; rfl) | (obtain ⟨_, _, _, _, _, _, _, _, _, _, rfl, _⟩ := h; rfl) | (obtain ⟨_, _, _, _, _, _, _, _, _, _, _, rfl, _⟩ := h; rfl) | (obtain ⟨_, _, _, _, _, _, _, _, _, _, _, _, rfl, _⟩ := h; rfl) | (obtain ⟨_, _, _, _, _, _, _, _, _, _, _, _, _, rfl, _⟩ := h; rfl) | (obtain ⟨_, _, _, _, _, _, _, _, _, _, _, _, _, _, rfl, _⟩ := h; rfl) | (obtain ⟨_, _, _, _, _, _, _, _, _, _, _, _, _, _, _, rfl, _⟩ := h; rfl) | (obtain ⟨_, _, _, _, _, _, _, _, _, _, _, _, _, _, _, _, rfl, _⟩ := h; rfl) | (obtain ⟨_, _, _, _, _, _, _, _, _, _, _, _, _, _, _, _, _, rfl, _⟩ := h; rfl) | (obtain ⟨_, rfl⟩ := h; rfl)) (r_l_own (n + 1))
  have G_l_own := R_l_own 2
  have R_l_leaves : ∀ n, DFn P w K mg base (0 + n + 1) T.a_l_leaves T.f_l_leaves ["_law_pattern_here"] (sp_l_leaves n) := fun n => by
    induction n with
    | zero => exact ok_l_leaves T 0 (DFn.never 0) (sp_l_leaves_mono 0) (fun ds S Q E h => by first | (obtain ⟨_, rfl, _⟩ := h; rfl) | (obtain ⟨rfl, _⟩ := h; rfl) | (obtain ⟨_, _, _, rfl, _⟩ := h; rfl) | (obtain ⟨_, _, rfl, _⟩ := h; rfl) | (obtain ⟨_, _, _, _, rfl, _⟩ := h; rfl) | (obtain ⟨_, _, _, _, _, rfl, _⟩ := h; rfl) | (obtain ⟨_, _, _, _, _, _, rfl, _⟩ := h; rfl) | (obtain ⟨_, _, _, _, _, _, _, rfl, _⟩ := h; rfl) | (obtain ⟨_, _, _, _, _, _, _, _, rfl, _⟩ := h; rfl) | (obtain ⟨_, rfl⟩ := h; rfl)) (r_l_leaves 0)
    | succ n ih => exact ok_l_leaves T (n + 1) ih (sp_l_leaves_mono (n + 1)) (fun ds S Q E h => by first | (obtain ⟨_, rfl, _⟩ := h; rfl) | (obtain ⟨rfl, _⟩ := h; rfl) | (obtain ⟨_, _, _, rfl, _⟩ := h; rfl) | (obtain ⟨_, _, rfl, _⟩ := h; rfl) | (obtain ⟨_, _, _, _, rfl, _⟩ := h; rfl) | (obtain ⟨_, _, _, _, _, rfl, _⟩ := h; rfl) | (obtain ⟨_, _, _, _, _, _, rfl, _⟩ := h; rfl) | (obtain ⟨_, _, _, _, _, _, _, rfl, _⟩ := h; rfl) | (obtain ⟨_, _, _, _, _, _, _, _, rfl, _⟩ := h; rfl) | (obtain ⟨_, rfl⟩ := h; rfl)) (r_l_leaves (n + 1))
  have G_l_leaves := R_l_leaves 2
  have R_l_part : ∀ n, DFn P w K mg base (2 + n + 1) T.a_l_part T.f_l_part ["_law_ds", "_law_at", "_law_deep"] (sp_l_part n) := fun n => by
    induction n with
    | zero => exact ok_l_part T (G_l_leaf := G_l_leaf) 0 (DFn.never 0) (sp_l_part_mono 0) (fun ds S Q E h => by first | (obtain ⟨_, _, rfl, _⟩ := h; rfl) | (obtain ⟨rfl, _⟩ := h; rfl) | (obtain ⟨_, _, _, rfl, _⟩ := h; rfl) | (obtain ⟨_, _, _, _, rfl, _⟩ := h; rfl) | (obtain ⟨_, _, _, _, _, rfl, _⟩ := h; rfl) | (obtain ⟨_, rfl, _⟩ := h; rfl) | (obtain ⟨_, _, _, _, _, _, rfl, _⟩ := h; rfl) | (obtain ⟨_, _, _, _, _, _, _, rfl, _⟩ := h; rfl) | (obtain ⟨_, _, _, _, _, _, _, _, rfl, _⟩ := h; rfl) | (obtain ⟨_, rfl⟩ := h; rfl)) (r_l_part 0)
    | succ n ih => exact ok_l_part T (G_l_leaf := G_l_leaf) (n + 1) ih (sp_l_part_mono (n + 1)) (fun ds S Q E h => by first | (obtain ⟨_, _, rfl, _⟩ := h; rfl) | (obtain ⟨rfl, _⟩ := h; rfl) | (obtain ⟨_, _, _, rfl, _⟩ := h; rfl) | (obtain ⟨_, _, _, _, rfl, _⟩ := h; rfl) | (obtain ⟨_, _, _, _, _, rfl, _⟩ := h; rfl) | (obtain ⟨_, rfl, _⟩ := h; rfl) | (obtain ⟨_, _, _, _, _, _, rfl, _⟩ := h; rfl) | (obtain ⟨_, _, _, _, _, _, _, rfl, _⟩ := h; rfl) | (obtain ⟨_, _, _, _, _, _, _, _, rfl, _⟩ := h; rfl) | (obtain ⟨_, rfl⟩ := h; rfl)) (r_l_part (n + 1))
  have G_l_part := R_l_part 2
  have G_l_pattern : DFn P w K mg base 6 T.a_l_pattern T.f_l_pattern ["_law_cell", "_law_deep"] sp_l_pattern := ok_l_pattern T (G_l_draws := G_l_draws) (G_l_part := G_l_part) sp_l_pattern_mono (fun ds S Q E h => by first | (obtain ⟨_, _, _, _, _, _, _, rfl, _⟩ := h; rfl) | (obtain ⟨_, rfl, _⟩ := h; rfl) | (obtain ⟨_, _, _, _, _, _, _, _, rfl, _⟩ := h; rfl) | (obtain ⟨rfl, _⟩ := h; rfl) | (obtain ⟨_, _, rfl, _⟩ := h; rfl) | (obtain ⟨_, _, _, rfl, _⟩ := h; rfl) | (obtain ⟨_, _, _, _, rfl, _⟩ := h; rfl) | (obtain ⟨_, _, _, _, _, rfl, _⟩ := h; rfl) | (obtain ⟨_, _, _, _, _, _, rfl, _⟩ := h; rfl) | (obtain ⟨_, _, _, _, _, _, _, _, _, rfl, _⟩ := h; rfl) | (obtain ⟨_, _, _, _, _, _, _, _, _, _, rfl, _⟩ := h; rfl) | (obtain ⟨_, _, _, _, _, _, _, _, _, _, _, rfl, _⟩ := h; rfl) | (obtain ⟨_, _, _, _, _, _, _, _, _, _, _, _, rfl, _⟩ := h; rfl) | (obtain ⟨_, _, _, _, _, _, _, _, _, _, _, _, _, rfl, _⟩ := h; rfl) | (obtain ⟨_, _, _, _, _, _, _, _, _, _, _, _, _, _, rfl, _⟩ := h; rfl) | (obtain ⟨_, _, _, _, _, _, _, _, _, _, _, _, _, _, _, rfl, _⟩ := h; rfl) | (obtain ⟨_, _, _, _, _, _, _, _, _, _, _, _, _, _, _, _, rfl, _⟩ := h; rfl) | (obtain ⟨_, _, _, _, _, _, _, _, _, _, _, _, _, _, _, _, _, rfl, _⟩ := h; rfl) | (obtain ⟨_, rfl⟩ := h; rfl)) r_l_pattern
  have R_Maker_lay : ∀ n, DFn P w K mg base (1 + 2 * n + 1) T.a_Maker_lay T.f_Maker_lay ["self", "pattern", "one", "other"] (sp_Maker_lay T.C_Maker n) ∧ DFn P w K mg base (1 + (2 * n + 1) + 1) T.a_Maker_lay_row T.f_Maker_lay_row ["self", "parts", "one", "other"] (sp_Maker_lay_row T.C_Maker n) := fun n => by
    induction n with
    | zero =>
      have A0 := ok_Maker_lay T (G_Maker_fresh := G_Maker_fresh) (2 * 0) (DFn.never 0) (DFn.never 0) (sp_Maker_lay_mono T.C_Maker 0) (fun ds S Q E h => by first | (obtain ⟨_, _, _, _, _, _, _, rfl, _⟩ := h; rfl) | (obtain ⟨rfl, _⟩ := h; rfl) | (obtain ⟨_, _, _, rfl, _⟩ := h; rfl) | (obtain ⟨_, _, rfl, _⟩ := h; rfl) | (obtain ⟨_, _, _, _, rfl, _⟩ := h; rfl) | (obtain ⟨_, _, _, _, _, rfl, _⟩ := h; rfl) | (obtain ⟨_, rfl, _⟩ := h; rfl) | (obtain ⟨_, _, _, _, _, _, rfl, _⟩ := h; rfl) | (obtain ⟨_, _, _, _, _, _, _, _, rfl, _⟩ := h; rfl) | (obtain ⟨_, rfl⟩ := h; rfl)) (r_Maker_lay 0)
      have A1 := ok_Maker_lay_row T (G_Maker_fresh := G_Maker_fresh) (2 * 0 + 1) (A0.more (by omega)) (sp_Maker_lay_row_mono T.C_Maker 0) (fun ds S Q E h => by first | (obtain ⟨_, _, _, _, _, _, _, rfl, _⟩ := h; rfl) | (obtain ⟨rfl, _⟩ := h; rfl) | (obtain ⟨_, _, _, rfl, _⟩ := h; rfl) | (obtain ⟨_, _, rfl, _⟩ := h; rfl) | (obtain ⟨_, _, _, _, rfl, _⟩ := h; rfl) | (obtain ⟨_, _, _, _, _, rfl, _⟩ := h; rfl) | (obtain ⟨_, rfl, _⟩ := h; rfl) | (obtain ⟨_, _, _, _, _, _, rfl, _⟩ := h; rfl) | (obtain ⟨_, _, _, _, _, _, _, _, rfl, _⟩ := h; rfl) | (obtain ⟨_, rfl⟩ := h; rfl)) (r_Maker_lay_row 0)
      exact ⟨A0, A1⟩
    | succ n ih =>
      have A0 := ok_Maker_lay T (G_Maker_fresh := G_Maker_fresh) (2 * (n + 1)) (ih.1.more (by omega)) (ih.2.more (by omega)) (sp_Maker_lay_mono T.C_Maker (n + 1)) (fun ds S Q E h => by first | (obtain ⟨_, _, _, _, _, _, _, rfl, _⟩ := h; rfl) | (obtain ⟨rfl, _⟩ := h; rfl) | (obtain ⟨_, _, _, rfl, _⟩ := h; rfl) | (obtain ⟨_, _, rfl, _⟩ := h; rfl) | (obtain ⟨_, _, _, _, rfl, _⟩ := h; rfl) | (obtain ⟨_, _, _, _, _, rfl, _⟩ := h; rfl) | (obtain ⟨_, rfl, _⟩ := h; rfl) | (obtain ⟨_, _, _, _, _, _, rfl, _⟩ := h; rfl) | (obtain ⟨_, _, _, _, _, _, _, _, rfl, _⟩ := h; rfl) | (obtain ⟨_, rfl⟩ := h; rfl)) (r_Maker_lay (n + 1))
      have A1 := ok_Maker_lay_row T (G_Maker_fresh := G_Maker_fresh) (2 * (n + 1) + 1) (A0.more (by omega)) (sp_Maker_lay_row_mono T.C_Maker (n + 1)) (fun ds S Q E h => by first | (obtain ⟨_, _, _, _, _, _, _, rfl, _⟩ := h; rfl) | (obtain ⟨rfl, _⟩ := h; rfl) | (obtain ⟨_, _, _, rfl, _⟩ := h; rfl) | (obtain ⟨_, _, rfl, _⟩ := h; rfl) | (obtain ⟨_, _, _, _, rfl, _⟩ := h; rfl) | (obtain ⟨_, _, _, _, _, rfl, _⟩ := h; rfl) | (obtain ⟨_, rfl, _⟩ := h; rfl) | (obtain ⟨_, _, _, _, _, _, rfl, _⟩ := h; rfl) | (obtain ⟨_, _, _, _, _, _, _, _, rfl, _⟩ := h; rfl) | (obtain ⟨_, rfl⟩ := h; rfl)) (r_Maker_lay_row (n + 1))
      exact ⟨A0, A1⟩
  have G_Maker_lay := (R_Maker_lay 3).1
  have G_Maker_lay_row := (R_Maker_lay 3).2
  have G_machine_of : DFn P w K mg base 9 T.a_machine_of T.f_machine_of ["pattern"] (sp_machine_of T.C_Maker) := ok_machine_of T (G_Maker_init := G_Maker_init) (G_Maker_lay := G_Maker_lay) (sp_machine_of_mono T.C_Maker) (fun ds S Q E h => by first | (obtain ⟨_, rfl, _⟩ := h; rfl) | (obtain ⟨rfl, _⟩ := h; rfl) | (obtain ⟨_, _, _, rfl, _⟩ := h; rfl) | (obtain ⟨_, _, rfl, _⟩ := h; rfl) | (obtain ⟨_, _, _, _, rfl, _⟩ := h; rfl) | (obtain ⟨_, _, _, _, _, rfl, _⟩ := h; rfl) | (obtain ⟨_, _, _, _, _, _, rfl, _⟩ := h; rfl) | (obtain ⟨_, _, _, _, _, _, _, rfl, _⟩ := h; rfl) | (obtain ⟨_, _, _, _, _, _, _, _, rfl, _⟩ := h; rfl) | (obtain ⟨_, rfl⟩ := h; rfl)) r_machine_of
  have G_law : DFn P w K mg base 10 T.a_law T.f_law ["_law_script"] sp_law := ok_law T (G_l_cell_at := G_l_cell_at) (G_l_alike := G_l_alike) (G_l_own := G_l_own) (G_l_leaves := G_l_leaves) (G_l_pattern := G_l_pattern) (G_machine_of := G_machine_of) sp_law_mono (fun ds S Q E h => by first | (obtain ⟨_, rfl, _⟩ := h; rfl) | (obtain ⟨rfl, _⟩ := h; rfl) | (obtain ⟨_, _, _, rfl, _⟩ := h; rfl) | (obtain ⟨_, _, rfl, _⟩ := h; rfl) | (obtain ⟨_, _, _, _, rfl, _⟩ := h; rfl) | (obtain ⟨_, _, _, _, _, rfl, _⟩ := h; rfl) | (obtain ⟨_, _, _, _, _, _, rfl, _⟩ := h; rfl) | (obtain ⟨_, _, _, _, _, _, _, rfl, _⟩ := h; rfl) | (obtain ⟨_, _, _, _, _, _, _, _, rfl, _⟩ := h; rfl) | (obtain ⟨_, rfl⟩ := h; rfl)) r_law
  exact G_law
theorem all_mk {l : PySem.W.OpenLaw} {w : World} {K : PySem.W.Frag} {h : Heap} {mg : Str → Option Value} {fa : Addr} (X : K.In h) (G : h.Ns mainGlobals mg) (hfa : mg "law" = some (.ref fa))
    {f0 f1 f2 f3 f4 f5 f6 f7 f8 f9 f10 f11 f12 f13 f14 f15 f16 f17 f18 : Addr} {od0 an0 od1 an1 od2 an2 od3 an3 od4 an4 od5 an5 od6 an6 od7 an7 od8 an8 od9 an9 od10 an10 od11 an11 od12 an12 od13 an13 od14 an14 od15 an15 od16 an16 od17 an17 od18 an18 : Option Addr} {sl0 sl1 sl2 sl3 sl4 sl5 sl6 sl7 sl8 sl9 sl10 sl11 sl12 sl13 sl14 sl15 sl16 sl17 sl18 : Array (Option Value)} {oc0 kV0 dc0 pm0 cd0 ct0 oc1 kV1 dc1 pm1 cd1 ct1 oc2 kV2 dc2 pm2 cd2 ct2 oc3 kV3 dc3 pm3 cd3 ct3 oc4 kV4 dc4 pm4 cd4 ct4 oc5 kV5 dc5 pm5 cd5 ct5 oc6 kV6 dc6 pm6 cd6 ct6 oc7 kV7 dc7 pm7 cd7 ct7 oc8 kV8 dc8 pm8 cd8 ct8 oc9 kV9 dc9 pm9 cd9 ct9 oc10 kV10 dc10 pm10 cd10 ct10 oc11 kV11 dc11 pm11 cd11 ct11 oc12 kV12 dc12 pm12 cd12 ct12 oc13 kV13 dc13 pm13 cd13 ct13 oc14 kV14 dc14 pm14 cd14 ct14 oc15 kV15 dc15 pm15 cd15 ct15 oc16 kV16 dc16 pm16 cd16 ct16 oc17 kV17 dc17 pm17 cd17 ct17 oc18 kV18 dc18 pm18 cd18 ct18 : Value}
    {vC0 : Addr} (aC0 : PySem.W.nsIn K mainGlobals "Maker" = some (some (.ref vC0))) (pg0 : PySem.W.plainGet K vC0 Str.empty = true) (hd0 : PySem.W.hasDictIn K vC0 = true) (po0 : PySem.W.plainOver K vC0 = true) (sa0 : PySem.W.findIn K (.ref vC0) "__setattr__" = some (some (.builtin "object.__setattr__")))
    (mk0 : PySem.W.makesIn K vC0 = true) (kc0 : PySem.W.keepIn K (.ref vC0) = true)
    (nf0 : PySem.W.findIn K (.ref vC0) "laid" = some none)
    (nf1 : PySem.W.findIn K (.ref vC0) "size" = some none)
    (a0 : PySem.W.findIn K (.ref vC0) "__init__" = some (some (.ref f0))) (i0 : PySem.W.isFn K (.ref f0) = true) (l0 : K.lookup f0 = some ⟨oc0, od0, .func (PySem.W.fnOf "__init__" "Maker.__init__" (defArgs s_Maker_init) (defBody s_Maker_init) (defScope s_Maker_init) .none kV0 dc0 pm0 an0 cd0 ct0), sl0⟩) (c0 : PySem.W.codeIn K cd0 "Maker.__init__" = true) (k0 : PySem.W.keepIn K (.ref f0) = true)
    (a1 : PySem.W.findIn K (.ref vC0) "fresh" = some (some (.ref f1))) (i1 : PySem.W.isFn K (.ref f1) = true) (l1 : K.lookup f1 = some ⟨oc1, od1, .func (PySem.W.fnOf "fresh" "Maker.fresh" (defArgs s_Maker_fresh) (defBody s_Maker_fresh) (defScope s_Maker_fresh) .none kV1 dc1 pm1 an1 cd1 ct1), sl1⟩) (c1 : PySem.W.codeIn K cd1 "Maker.fresh" = true) (k1 : PySem.W.keepIn K (.ref f1) = true)
    (a2 : PySem.W.nsIn K mainGlobals "_law_cell_at" = some (some (.ref f2))) (l2 : K.lookup f2 = some ⟨oc2, od2, .func (PySem.W.fnOf "_law_cell_at" "_law_cell_at" (defArgs s_l_cell_at) (defBody s_l_cell_at) (defScope s_l_cell_at) .none kV2 dc2 pm2 an2 cd2 ct2), sl2⟩) (c2 : PySem.W.codeIn K cd2 "_law_cell_at" = true) (k2 : PySem.W.keepIn K (.ref f2) = true)
    (a3 : PySem.W.nsIn K mainGlobals "_law_draws" = some (some (.ref f3))) (l3 : K.lookup f3 = some ⟨oc3, od3, .func (PySem.W.fnOf "_law_draws" "_law_draws" (defArgs s_l_draws) (defBody s_l_draws) (defScope s_l_draws) .none kV3 dc3 pm3 an3 cd3 ct3), sl3⟩) (c3 : PySem.W.codeIn K cd3 "_law_draws" = true) (k3 : PySem.W.keepIn K (.ref f3) = true)
    (a4 : PySem.W.nsIn K mainGlobals "_law_words" = some (some (.ref f4))) (l4 : K.lookup f4 = some ⟨oc4, od4, .func (PySem.W.fnOf "_law_words" "_law_words" (defArgs s_l_words) (defBody s_l_words) (defScope s_l_words) .none kV4 dc4 pm4 an4 cd4 ct4), sl4⟩) (c4 : PySem.W.codeIn K cd4 "_law_words" = true) (k4 : PySem.W.keepIn K (.ref f4) = true)
    (a5 : PySem.W.nsIn K mainGlobals "_law_marks" = some (some (.ref f5))) (l5 : K.lookup f5 = some ⟨oc5, od5, .func (PySem.W.fnOf "_law_marks" "_law_marks" (defArgs s_l_marks) (defBody s_l_marks) (defScope s_l_marks) .none kV5 dc5 pm5 an5 cd5 ct5), sl5⟩) (c5 : PySem.W.codeIn K cd5 "_law_marks" = true) (k5 : PySem.W.keepIn K (.ref f5) = true)
    (a6 : PySem.W.nsIn K mainGlobals "_law_still" = some (some (.ref f6))) (l6 : K.lookup f6 = some ⟨oc6, od6, .func (PySem.W.fnOf "_law_still" "_law_still" (defArgs s_l_still) (defBody s_l_still) (defScope s_l_still) .none kV6 dc6 pm6 an6 cd6 ct6), sl6⟩) (c6 : PySem.W.codeIn K cd6 "_law_still" = true) (k6 : PySem.W.keepIn K (.ref f6) = true)
    (a7 : PySem.W.nsIn K mainGlobals "_law_by" = some (some (.ref f7))) (l7 : K.lookup f7 = some ⟨oc7, od7, .func (PySem.W.fnOf "_law_by" "_law_by" (defArgs s_l_by) (defBody s_l_by) (defScope s_l_by) .none kV7 dc7 pm7 an7 cd7 ct7), sl7⟩) (c7 : PySem.W.codeIn K cd7 "_law_by" = true) (k7 : PySem.W.keepIn K (.ref f7) = true)
    (a8 : PySem.W.nsIn K mainGlobals "_law_sets" = some (some (.ref f8))) (l8 : K.lookup f8 = some ⟨oc8, od8, .func (PySem.W.fnOf "_law_sets" "_law_sets" (defArgs s_l_sets) (defBody s_l_sets) (defScope s_l_sets) .none kV8 dc8 pm8 an8 cd8 ct8), sl8⟩) (c8 : PySem.W.codeIn K cd8 "_law_sets" = true) (k8 : PySem.W.keepIn K (.ref f8) = true)
    (a9 : PySem.W.nsIn K mainGlobals "_law_leaf" = some (some (.ref f9))) (l9 : K.lookup f9 = some ⟨oc9, od9, .func (PySem.W.fnOf "_law_leaf" "_law_leaf" (defArgs s_l_leaf) (defBody s_l_leaf) (defScope s_l_leaf) .none kV9 dc9 pm9 an9 cd9 ct9), sl9⟩) (c9 : PySem.W.codeIn K cd9 "_law_leaf" = true) (k9 : PySem.W.keepIn K (.ref f9) = true)
    (a10 : PySem.W.nsIn K mainGlobals "_law_alike" = some (some (.ref f10))) (l10 : K.lookup f10 = some ⟨oc10, od10, .func (PySem.W.fnOf "_law_alike" "_law_alike" (defArgs s_l_alike) (defBody s_l_alike) (defScope s_l_alike) .none kV10 dc10 pm10 an10 cd10 ct10), sl10⟩) (c10 : PySem.W.codeIn K cd10 "_law_alike" = true) (k10 : PySem.W.keepIn K (.ref f10) = true)
    (a11 : PySem.W.nsIn K mainGlobals "_law_own" = some (some (.ref f11))) (l11 : K.lookup f11 = some ⟨oc11, od11, .func (PySem.W.fnOf "_law_own" "_law_own" (defArgs s_l_own) (defBody s_l_own) (defScope s_l_own) .none kV11 dc11 pm11 an11 cd11 ct11), sl11⟩) (c11 : PySem.W.codeIn K cd11 "_law_own" = true) (k11 : PySem.W.keepIn K (.ref f11) = true)
    (a12 : PySem.W.nsIn K mainGlobals "_law_leaves" = some (some (.ref f12))) (l12 : K.lookup f12 = some ⟨oc12, od12, .func (PySem.W.fnOf "_law_leaves" "_law_leaves" (defArgs s_l_leaves) (defBody s_l_leaves) (defScope s_l_leaves) .none kV12 dc12 pm12 an12 cd12 ct12), sl12⟩) (c12 : PySem.W.codeIn K cd12 "_law_leaves" = true) (k12 : PySem.W.keepIn K (.ref f12) = true)
    (a13 : PySem.W.nsIn K mainGlobals "_law_part" = some (some (.ref f13))) (l13 : K.lookup f13 = some ⟨oc13, od13, .func (PySem.W.fnOf "_law_part" "_law_part" (defArgs s_l_part) (defBody s_l_part) (defScope s_l_part) .none kV13 dc13 pm13 an13 cd13 ct13), sl13⟩) (c13 : PySem.W.codeIn K cd13 "_law_part" = true) (k13 : PySem.W.keepIn K (.ref f13) = true)
    (a14 : PySem.W.nsIn K mainGlobals "_law_pattern" = some (some (.ref f14))) (l14 : K.lookup f14 = some ⟨oc14, od14, .func (PySem.W.fnOf "_law_pattern" "_law_pattern" (defArgs s_l_pattern) (defBody s_l_pattern) (defScope s_l_pattern) .none kV14 dc14 pm14 an14 cd14 ct14), sl14⟩) (c14 : PySem.W.codeIn K cd14 "_law_pattern" = true) (k14 : PySem.W.keepIn K (.ref f14) = true)
    (a15 : PySem.W.findIn K (.ref vC0) "lay" = some (some (.ref f15))) (i15 : PySem.W.isFn K (.ref f15) = true) (l15 : K.lookup f15 = some ⟨oc15, od15, .func (PySem.W.fnOf "lay" "Maker.lay" (defArgs s_Maker_lay) (defBody s_Maker_lay) (defScope s_Maker_lay) .none kV15 dc15 pm15 an15 cd15 ct15), sl15⟩) (c15 : PySem.W.codeIn K cd15 "Maker.lay" = true) (k15 : PySem.W.keepIn K (.ref f15) = true)
    (a16 : PySem.W.findIn K (.ref vC0) "lay_row" = some (some (.ref f16))) (i16 : PySem.W.isFn K (.ref f16) = true) (l16 : K.lookup f16 = some ⟨oc16, od16, .func (PySem.W.fnOf "lay_row" "Maker.lay_row" (defArgs s_Maker_lay_row) (defBody s_Maker_lay_row) (defScope s_Maker_lay_row) .none kV16 dc16 pm16 an16 cd16 ct16), sl16⟩) (c16 : PySem.W.codeIn K cd16 "Maker.lay_row" = true) (k16 : PySem.W.keepIn K (.ref f16) = true)
    (a17 : PySem.W.nsIn K mainGlobals "machine_of" = some (some (.ref f17))) (l17 : K.lookup f17 = some ⟨oc17, od17, .func (PySem.W.fnOf "machine_of" "machine_of" (defArgs s_machine_of) (defBody s_machine_of) (defScope s_machine_of) .none kV17 dc17 pm17 an17 cd17 ct17), sl17⟩) (c17 : PySem.W.codeIn K cd17 "machine_of" = true) (k17 : PySem.W.keepIn K (.ref f17) = true)
    (a18 : PySem.W.nsIn K mainGlobals "law" = some (some (.ref f18))) (l18 : K.lookup f18 = some ⟨oc18, od18, .func (PySem.W.fnOf "law" "law" (defArgs s_law) (defBody s_law) (defScope s_law) .none kV18 dc18 pm18 an18 cd18 ct18), sl18⟩) (c18 : PySem.W.codeIn K cd18 "law" = true) (k18 : PySem.W.keepIn K (.ref f18) = true)
    {ta0 : Addr} {tn0 : Nat} {to0 : Option Addr} {ts0 : Array (Option Value)} {tt0_0 tt0_1 tt0_2 tt0_3 : Tok}
    (gt0 : PySem.W.nsIn K mainGlobals "LEAVES" = some (some (.ref ta0))) (lt0 : K.lookup ta0 = some ⟨.type "tuple", to0, .seq #[.str "stay" tt0_0, .str "step" tt0_1, .str "at" tt0_2, .str "off" tt0_3] tn0, ts0⟩)
    (z0 : PySem.W.nsIn K mainGlobals "len" = some none)
    (z1 : PySem.W.nsIn K mainGlobals "list" = some none)
    (z2 : PySem.W.nsIn K mainGlobals "min" = some none)
    (z3 : PySem.W.nsIn K mainGlobals "range" = some none)
    (z4 : PySem.W.nsIn K mainGlobals "set" = some none)
    (z5 : PySem.W.nsIn K mainGlobals "sorted" = some none)
    (z6 : PySem.W.nsIn K mainGlobals "tuple" = some none)
    : ∃ fd : FuncData, (∀ (s : Shared) (v : Value), BindsTo s fd ⟨[v], []⟩ [("_law_script", v)]) ∧ ∀ base : Heap, K.In base → base.Ns mainGlobals mg → DFn l.prog w K mg base 10 fa fd ["_law_script"] sp_law := by
  have e := hfa.symm.trans (PySem.W.mg_of X G a18)
  cases e
  obtain ⟨T, e1, e2⟩ : ∃ T : Txt w K mg, T.a_law = fa ∧ T.f_law = PySem.W.fnOf "law" "law" (defArgs s_law) (defBody s_law) (defScope s_law) .none kV18 dc18 pm18 an18 cd18 ct18 :=
    ⟨{ C_Maker := vC0, c_Maker := ⟨pg0, hd0, po0, sa0⟩, g_Maker := PySem.W.mg_of X G aC0,
       n_Maker_laid := nf0,
       n_Maker_size := nf1,
       a_Maker_init := f0, f_Maker_init := _, F_Maker_init := fun_mk (st := s_Maker_init) l0 c0 k0, k_Maker := ⟨mk0, a0, i0, kc0⟩, d_Maker_init := (fun_mk (st := s_Maker_init) l0 c0 k0).binds (ps := ["self"]) fun _ _ _ _ _ _ us hl => match us, hl with | [_], _ => rfl,
       a_Maker_fresh := f1, f_Maker_fresh := _, F_Maker_fresh := fun_mk (st := s_Maker_fresh) l1 c1 k1, M_Maker_fresh := ⟨a1, i1, k1⟩, d_Maker_fresh := (fun_mk (st := s_Maker_fresh) l1 c1 k1).binds (ps := ["self"]) fun _ _ _ _ _ _ us hl => match us, hl with | [_], _ => rfl,
       a_l_cell_at := f2, f_l_cell_at := _, F_l_cell_at := fun_mk (st := s_l_cell_at) l2 c2 k2, m_l_cell_at := PySem.W.mg_of X G a2, d_l_cell_at := (fun_mk (st := s_l_cell_at) l2 c2 k2).binds (ps := ["_law_script", "_law_k"]) fun _ _ _ _ _ _ us hl => match us, hl with | [_, _], _ => rfl,
       a_l_draws := f3, f_l_draws := _, F_l_draws := fun_mk (st := s_l_draws) l3 c3 k3, m_l_draws := PySem.W.mg_of X G a3, d_l_draws := (fun_mk (st := s_l_draws) l3 c3 k3).binds (ps := ["_law_cell", "_law_sizes"]) fun _ _ _ _ _ _ us hl => match us, hl with | [_, _], _ => rfl,
       a_l_words := f4, f_l_words := _, F_l_words := fun_mk (st := s_l_words) l4 c4 k4, m_l_words := PySem.W.mg_of X G a4, d_l_words := (fun_mk (st := s_l_words) l4 c4 k4).binds (ps := []) fun _ _ _ _ _ _ us hl => match us, hl with | [], _ => rfl,
       a_l_marks := f5, f_l_marks := _, F_l_marks := fun_mk (st := s_l_marks) l5 c5 k5, m_l_marks := PySem.W.mg_of X G a5, d_l_marks := (fun_mk (st := s_l_marks) l5 c5 k5).binds (ps := []) fun _ _ _ _ _ _ us hl => match us, hl with | [], _ => rfl,
       a_l_still := f6, f_l_still := _, F_l_still := fun_mk (st := s_l_still) l6 c6 k6, m_l_still := PySem.W.mg_of X G a6, d_l_still := (fun_mk (st := s_l_still) l6 c6 k6).binds (ps := ["_law_machine", "_law_stands", "_law_marks_here"]) fun _ _ _ _ _ _ us hl => match us, hl with | [_, _, _], _ => rfl,
       a_l_by := f7, f_l_by := _, F_l_by := fun_mk (st := s_l_by) l7 c7 k7, m_l_by := PySem.W.mg_of X G a7, d_l_by := (fun_mk (st := s_l_by) l7 c7 k7).binds (ps := ["_law_machine", "_law_stands", "_law_side", "_law_word"]) fun _ _ _ _ _ _ us hl => match us, hl with | [_, _, _, _], _ => rfl,
       a_l_sets := f8, f_l_sets := _, F_l_sets := fun_mk (st := s_l_sets) l8 c8 k8, m_l_sets := PySem.W.mg_of X G a8, d_l_sets := (fun_mk (st := s_l_sets) l8 c8 k8).binds (ps := ["_law_some"]) fun _ _ _ _ _ _ us hl => match us, hl with | [_], _ => rfl,
       a_l_leaf := f9, f_l_leaf := _, F_l_leaf := fun_mk (st := s_l_leaf) l9 c9 k9, m_l_leaf := PySem.W.mg_of X G a9, d_l_leaf := (fun_mk (st := s_l_leaf) l9 c9 k9).binds (ps := ["_law_way", "_law_number"]) fun _ _ _ _ _ _ us hl => match us, hl with | [_, _], _ => rfl,
       a_l_alike := f10, f_l_alike := _, F_l_alike := fun_mk (st := s_l_alike) l10 c10 k10, m_l_alike := PySem.W.mg_of X G a10, d_l_alike := (fun_mk (st := s_l_alike) l10 c10 k10).binds (ps := ["_law_machine", "_law_own_here", "_law_leaves_here"]) fun _ _ _ _ _ _ us hl => match us, hl with | [_, _, _], _ => rfl,
       a_l_own := f11, f_l_own := _, F_l_own := fun_mk (st := s_l_own) l11 c11 k11, m_l_own := PySem.W.mg_of X G a11, d_l_own := (fun_mk (st := s_l_own) l11 c11 k11).binds (ps := ["_law_pattern_here", "_law_one", "_law_moves", "_law_last"]) fun _ _ _ _ _ _ us hl => match us, hl with | [_, _, _, _], _ => rfl,
       a_l_leaves := f12, f_l_leaves := _, F_l_leaves := fun_mk (st := s_l_leaves) l12 c12 k12, m_l_leaves := PySem.W.mg_of X G a12, d_l_leaves := (fun_mk (st := s_l_leaves) l12 c12 k12).binds (ps := ["_law_pattern_here"]) fun _ _ _ _ _ _ us hl => match us, hl with | [_], _ => rfl,
       a_l_part := f13, f_l_part := _, F_l_part := fun_mk (st := s_l_part) l13 c13 k13, m_l_part := PySem.W.mg_of X G a13, d_l_part := (fun_mk (st := s_l_part) l13 c13 k13).binds (ps := ["_law_ds", "_law_at", "_law_deep"]) fun _ _ _ _ _ _ us hl => match us, hl with | [_, _, _], _ => rfl,
       a_l_pattern := f14, f_l_pattern := _, F_l_pattern := fun_mk (st := s_l_pattern) l14 c14 k14, m_l_pattern := PySem.W.mg_of X G a14, d_l_pattern := (fun_mk (st := s_l_pattern) l14 c14 k14).binds (ps := ["_law_cell", "_law_deep"]) fun _ _ _ _ _ _ us hl => match us, hl with | [_, _], _ => rfl,
       a_Maker_lay := f15, f_Maker_lay := _, F_Maker_lay := fun_mk (st := s_Maker_lay) l15 c15 k15, M_Maker_lay := ⟨a15, i15, k15⟩, d_Maker_lay := (fun_mk (st := s_Maker_lay) l15 c15 k15).binds (ps := ["self", "pattern", "one", "other"]) fun _ _ _ _ _ _ us hl => match us, hl with | [_, _, _, _], _ => rfl,
       a_Maker_lay_row := f16, f_Maker_lay_row := _, F_Maker_lay_row := fun_mk (st := s_Maker_lay_row) l16 c16 k16, M_Maker_lay_row := ⟨a16, i16, k16⟩, d_Maker_lay_row := (fun_mk (st := s_Maker_lay_row) l16 c16 k16).binds (ps := ["self", "parts", "one", "other"]) fun _ _ _ _ _ _ us hl => match us, hl with | [_, _, _, _], _ => rfl,
       a_machine_of := f17, f_machine_of := _, F_machine_of := fun_mk (st := s_machine_of) l17 c17 k17, m_machine_of := PySem.W.mg_of X G a17, d_machine_of := (fun_mk (st := s_machine_of) l17 c17 k17).binds (ps := ["pattern"]) fun _ _ _ _ _ _ us hl => match us, hl with | [_], _ => rfl,
       a_law := fa, f_law := _, F_law := fun_mk (st := s_law) l18 c18 k18, m_law := PySem.W.mg_of X G a18, d_law := (fun_mk (st := s_law) l18 c18 k18).binds (ps := ["_law_script"]) fun _ _ _ _ _ _ us hl => match us, hl with | [_], _ => rfl,
       a_LEAVES := ta0, i_LEAVES := _, n_LEAVES := _, o_LEAVES := _, s_LEAVES := _, g_LEAVES := PySem.W.mg_of X G gt0, l_LEAVES := lt0, z_LEAVES := (show 4 ≤ sizeLine by decide), v_LEAVES := ⟨[.str "stay", .str "step", .str "at", .str "off"], .cons ⟨_, rfl⟩ (.cons ⟨_, rfl⟩ (.cons ⟨_, rfl⟩ (.cons ⟨_, rfl⟩ (.nil)))), fun H => RDs.cons rfl (RDs.cons rfl (RDs.cons rfl (RDs.cons rfl (.nil))))⟩,
       b_len := PySem.W.mg_none_of X G z0,
       b_list := PySem.W.mg_none_of X G z1,
       b_min := PySem.W.mg_none_of X G z2,
       b_range := PySem.W.mg_none_of X G z3,
       b_set := PySem.W.mg_none_of X G z4,
       b_sorted := PySem.W.mg_none_of X G z5,
       b_tuple := PySem.W.mg_none_of X G z6 }, rfl, rfl⟩
  refine ⟨PySem.W.fnOf "law" "law" (defArgs s_law) (defBody s_law) (defScope s_law) .none kV18 dc18 pm18 an18 cd18 ct18, fun s v => .of_eq rfl, fun base _ _ => ?_⟩
  rw [← e1, ← e2]
  exact all_go T
end
theorem sp_law_all (ns : List Int) (S : DH) (h : ns.length ≤ 63) : sp_law [.rol (ns.map D.int)] S (fun d _ => d = .bl true) fun _ _ _ => False := ⟨ns, rfl, h, fun _ => rfl⟩
theorem walk {l : PySem.W.OpenLaw} {q : Program} {loose : List Str} {XP : (Str → Option Value) → Heap → Prop} {YP : World → Heap → Prop} {d : DefRec} {K : Params → PySem.W.Frag} (hn : l.most = some 63) (hdf : d.params.defaults = []) (hY : ∀ (w : World) (h : Heap), YP w h → (K w.params).In h)
    (F : ∀ (w : World) (mg : Str → Option Value) (fa : Addr) (h : Heap), (K w.params).In h → h.Ns mainGlobals mg → mg d.name = some (.ref fa) →
      ∃ fd : FuncData, (∀ (s : Shared) (u : Value), BindsTo s fd ⟨[u], []⟩ [("_law_script", u)]) ∧ ∀ base : Heap, (K w.params).In base → base.Ns mainGlobals mg → DFn l.prog w (K w.params) mg base 10 fa fd ["_law_script"] sp_law) : PySem.W.WalkO q loose XP YP l.row.toRowW d [] (fun f vs => PySem.call f vs) :=
  dwalk (n := 63) (k := 10) hn (by decide) hdf ⟨rfl, by decide, by decide⟩ hY F fun ns S hl => sp_law_all ns S hl
end K33X
set_option maxRecDepth 100000
open PySem PySem.W PyProof.Rows
set_option maxRecDepth 100000 in
set_option maxHeartbeats 0 in
theorem K33X.row_holds : OpenRow.Holds (OpenLaw.row PySem.Challenge.rw_pathask_k33_whole_every_web) := by
  have hsaid := K33XS.said; k_headL; (case hw => w_witness2)
  k_fill
  as_aux_lemma =>
    refine K33X.walk (l := PySem.Challenge.rw_pathask_k33_whole_every_web) rfl rfl (fun w h Y => PySem.W.kIn_of Y) ?F
    case F =>
      intro w mg fa h KX G hmg
      refine' K33X.all_mk KX G hmg ?aC0 ?pg0 ?hd0 ?po0 ?sa0 ?mk0 ?kc0 ?nf0 ?nf1 ?a0 ?i0 ?l0 ?c0 ?k0 ?a1 ?i1 ?l1 ?c1 ?k1 ?a2 ?l2 ?c2 ?k2 ?a3 ?l3 ?c3 ?k3 ?a4 ?l4 ?c4 ?k4 ?a5 ?l5 ?c5 ?k5 ?a6 ?l6 ?c6 ?k6 ?a7 ?l7 ?c7 ?k7 ?a8 ?l8 ?c8 ?k8 ?a9 ?l9 ?c9 ?k9 ?a10 ?l10 ?c10 ?k10 ?a11 ?l11 ?c11 ?k11 ?a12 ?l12 ?c12 ?k12 ?a13 ?l13 ?c13 ?k13 ?a14 ?l14 ?c14 ?k14 ?a15 ?i15 ?l15 ?c15 ?k15 ?a16 ?i16 ?l16 ?c16 ?k16 ?a17 ?l17 ?c17 ?k17 ?a18 ?l18 ?c18 ?k18 ?gt0 ?lt0 ?z0 ?z1 ?z2 ?z3 ?z4 ?z5 ?z6
      (case aC0 => k_is); (case pg0 => k_is); (case hd0 => k_is); (case po0 => k_is)
      (case sa0 => k_is); (case mk0 => k_is); (case kc0 => k_is); (case nf0 => k_is)
      (case nf1 => k_is); (case a0 => k_is); (case i0 => k_is); (case l0 => k_is)
      (case c0 => k_is); (case k0 => k_is); (case a1 => k_is); (case i1 => k_is)
      (case l1 => k_is); (case c1 => k_is); (case k1 => k_is); (case a2 => k_is)
      (case l2 => k_is); (case c2 => k_is); (case k2 => k_is); (case a3 => k_is)
      (case l3 => k_is); (case c3 => k_is); (case k3 => k_is); (case a4 => k_is)
      (case l4 => k_is); (case c4 => k_is); (case k4 => k_is); (case a5 => k_is)
      (case l5 => k_is); (case c5 => k_is); (case k5 => k_is); (case a6 => k_is)
      (case l6 => k_is); (case c6 => k_is); (case k6 => k_is); (case a7 => k_is)
      (case l7 => k_is); (case c7 => k_is); (case k7 => k_is); (case a8 => k_is)
      (case l8 => k_is); (case c8 => k_is); (case k8 => k_is); (case a9 => k_is)
      (case l9 => k_is); (case c9 => k_is); (case k9 => k_is); (case a10 => k_is)
      (case l10 => k_is); (case c10 => k_is); (case k10 => k_is); (case a11 => k_is)
      (case l11 => k_is); (case c11 => k_is); (case k11 => k_is); (case a12 => k_is)
      (case l12 => k_is); (case c12 => k_is); (case k12 => k_is); (case a13 => k_is)
      (case l13 => k_is); (case c13 => k_is); (case k13 => k_is); (case a14 => k_is)
      (case l14 => k_is); (case c14 => k_is); (case k14 => k_is); (case a15 => k_is)
      (case i15 => k_is); (case l15 => k_is); (case c15 => k_is); (case k15 => k_is)
      (case a16 => k_is); (case i16 => k_is); (case l16 => k_is); (case c16 => k_is)
      (case k16 => k_is); (case a17 => k_is); (case l17 => k_is); (case c17 => k_is)
      (case k17 => k_is); (case a18 => k_is); (case l18 => k_is); (case c18 => k_is)
      (case k18 => k_is); (case gt0 => k_is); (case lt0 => k_is); (case z0 => k_is)
      (case z1 => k_is); (case z2 => k_is); (case z3 => k_is); (case z4 => k_is)
      (case z5 => k_is); (case z6 => k_is)
set_option maxHeartbeats 0 in
theorem PySem.Challenge.cw_pathask_k33_whole_every_web_holds : PySem.Challenge.rw_pathask_k33_whole_every_web.Holds := by
  w_on; o_law
  exact K33X.row_holds
