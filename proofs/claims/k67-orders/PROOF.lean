import PyProof.Rows.All
import Wide.All
import OpenK.AllK
import Wide.FinOn
import KE.OsRunLaw
import PyProof.EqAt
import PyProof.EqKinds
import PyProof.TupleCall
import HandS.Base
import HandS.Call
import HandS.List
import HandS.Comp
import HandS.Ends
import HandS.Dict
import HandS.Iter
import HandS.Text
import HandS.Words
import HandS.Exc
import HandS.ExcInit
import KE.KeyNested
import KE.KDictKeyed
import HandS.WordsDict
import HandS.TupAny
import HandS.TupLe
import HandS.Deep
import HandS.Wide
import HandS.IsInst
import HandS.More
import HandS.SetFor
import HandS.SortInts
import HandS.TupLen
import KE.SortData
import HandS.Set
import PyProof.Rows.SetFrom
import HandS.TupMul
import KE.DataCmp
import HandS.Remove
import HandS.TryOnly
import KE.KDictCopyH
import KE.KDictSum
import PyProof.WalksMore
import HandS.RaiseMore
import HandS.Rev
import HandS.Style
import KE.DataFind
import PyProof.ListNew
import HandS.HotCalls
import HandS.ExcField
import HandS.ExcIs
import HandS.ExcValue
import KE.KExcIs
import PyProof.ReprRoads
import HandS.ListItems
import HandS.DictTup
import PySem.Challenge.RW_pathask_k67_orders_and_rings
set_option Elab.async false
set_option linter.all false
set_option maxRecDepth 100000
set_option maxHeartbeats 0
namespace K67XS
open PySem PySem.W PyProof.Rows
theorem look0 : (sreFenced (OpenLaw.row PySem.Challenge.rw_pathask_k67_orders_and_rings).prog.main) = true := by decide +kernel
theorem look1 : (((moduleNames (OpenLaw.row PySem.Challenge.rw_pathask_k67_orders_and_rings).prog.main.body).isEmpty || lookedIntoSs (moduleNames (OpenLaw.row PySem.Challenge.rw_pathask_k67_orders_and_rings).prog.main.body) (OpenLaw.row PySem.Challenge.rw_pathask_k67_orders_and_rings).prog.main.body)) = true := by decide +kernel
theorem look2 : (namesResolve (OpenLaw.row PySem.Challenge.rw_pathask_k67_orders_and_rings).prog) = true := by decide +kernel
theorem look3 : ((OpenLaw.row PySem.Challenge.rw_pathask_k67_orders_and_rings).prog.boundNames.all (fun n => !worldNames.contains n)) = true := by decide +kernel
theorem look4 : (noRoadLSs { strict := !(importedModules (OpenLaw.row PySem.Challenge.rw_pathask_k67_orders_and_rings).prog.main.body).all cThrough.contains, foot := none, bare := (["vars", "dir", "locals"] : List Str).filter (readsOut (OpenLaw.row PySem.Challenge.rw_pathask_k67_orders_and_rings).prog (OpenLaw.row PySem.Challenge.rw_pathask_k67_orders_and_rings).prog.main.body) } (OpenLaw.row PySem.Challenge.rw_pathask_k67_orders_and_rings).prog.main.body) = true := by decide +kernel
theorem look5 : (namesMeet (OpenLaw.row PySem.Challenge.rw_pathask_k67_orders_and_rings).prog (OpenLaw.row PySem.Challenge.rw_pathask_k67_orders_and_rings).prog.main.body fun _ n => attrL n) = true := by decide +kernel
theorem looks : looksOpen (OpenLaw.row PySem.Challenge.rw_pathask_k67_orders_and_rings).prog = true := by
  unfold looksOpen
  rw [look0, look1, look2, look3, look4, look5]
  rfl
theorem said : (OpenLaw.row PySem.Challenge.rw_pathask_k67_orders_and_rings).wellSaid = true := by
  unfold OpenRow.wellSaid OpenRow.partSaid
  rw [looks]
  simp only [Bool.and_eq_true]
  (repeat' (refine And.intro ?_ ?_)) <;> decide +kernel
end K67XS
set_option maxRecDepth 100000
set_option maxHeartbeats 4000000
/-! Dat1: the data layer's base. A value is a plain tree (a tuple is its items); lists, dicts, instances stand at
addresses of a data heap. Readings are over slots of such values and the data heap. -/
namespace Dt
open PySem PySem.Spec L2

/-! ### the abstract heap grows -/
/-- what values rest on -/
structure LeW (H H' : Hp) : Prop where
  tup : ∀ p xs, H p = some (.tup xs) → H' p = some (.tup xs)
  fl : ∀ p o xs, H p = some (.frz o (.lst xs)) → H' p = some (.frz o (.lst xs))
  ft : ∀ p o xs, H p = some (.frz o (.tup xs)) → H' p = some (.frz o (.tup xs))
structure LeH (H H' : Hp) : Prop where
  tup : ∀ p xs, H p = some (.tup xs) → H' p = some (.tup xs)
  fz : ∀ p o u, H p = some (.frz o u) → H' p = some (.frz o u)
theorem LeH.fl {H H' : Hp} (le : LeH H H') : ∀ p o xs, H p = some (.frz o (.lst xs)) → H' p = some (.frz o (.lst xs)) := fun p o xs h => le.fz p o _ h
theorem LeH.ft {H H' : Hp} (le : LeH H H') : ∀ p o xs, H p = some (.frz o (.tup xs)) → H' p = some (.frz o (.tup xs)) := fun p o xs h => le.fz p o _ h
theorem LeH.w {H H' : Hp} (le : LeH H H') : LeW H H' := ⟨le.tup, le.fl, le.ft⟩
theorem LeH.refl (H : Hp) : LeH H H := ⟨fun _ _ h => h, fun _ _ _ h => h⟩
theorem LeH.trans {H1 H2 H3 : Hp} (a : LeH H1 H2) (b : LeH H2 H3) : LeH H1 H3 :=
  ⟨fun p xs h => b.tup p xs (a.tup p xs h), fun p o xs h => b.fz p o xs (a.fz p o xs h)⟩
theorem LeH.new {H : Hp} {p : Addr} {o : HO} (h : H p = none) : LeH H (upd H p o) :=
  ⟨fun q xs e => by rw [upd_ne (ne_of_none e h)]; exact e, fun q u xs e => by rw [upd_ne (ne_of_none e h)]; exact e⟩
theorem LeH.put {H : Hp} {p : Addr} {o u : HO} (h : H p = some u) (m : Mut (some u)) : LeH H (upd H p o) := by
  have k : ∀ q v, H q = some v → ¬ Mut (some v) → q ≠ p := fun q v e n z => by
    subst z
    rw [h] at e
    cases e
    exact n m
  exact ⟨fun q xs e => by rw [upd_ne (k q _ e fun z => z)]; exact e, fun q u xs e => by rw [upd_ne (k q _ e fun z => z)]; exact e⟩

/-! ### data -/
inductive D where
  | non | bl (b : Bool) | int (i : Int) | str (x : Str) | tup (xs : List D) | rol (xs : List D) | ref (a : Addr)

/-- a list that is read alone, for good -/
def SqR (K : PySem.W.Frag) (H : Hp) (a : Addr) (xs : List V) : Prop :=
  (∃ o, H a = some (.frz o (.lst xs))) ∨
    ∃ (its : Array Value) (n : Nat), K.lookup a = some { cls := .type "list", data := .seq its n } ∧ its.size ≤ sizeLine ∧ Vals xs its.toList
theorem SqR.l {K : PySem.W.Frag} {H : Hp} {a : Addr} {xs : List V} (h : SqR K H a xs) : SqL K H a xs := h.elim (fun z => .inl (.inr z)) fun ⟨its, n, e, hz, r⟩ => .inr ⟨_, its, n, e, rfl, rfl, rfl, hz, r⟩
theorem SqR.le {K : PySem.W.Frag} {H H' : Hp} {a : Addr} {xs : List V} (le : LeH H H') (h : SqR K H a xs) : SqR K H' a xs :=
  h.elim (fun ⟨o, e⟩ => .inl ⟨o, le.fl _ _ _ e⟩) .inr
theorem sqT_le {K : PySem.W.Frag} {H H' : Hp} {a : Addr} {xs : List V} (le : LeH H H') (h : SqT K H a xs) : SqT K H' a xs := by
  rcases h with (h | ⟨o, h⟩) | h
  · exact .inl (.inl (le.tup _ _ h))
  · exact .inl (.inr ⟨o, le.ft _ _ _ h⟩)
  · exact .inr h

theorem SqR.leW {K : PySem.W.Frag} {H H' : Hp} {a : Addr} {xs : List V} (le : LeW H H') (h : SqR K H a xs) : SqR K H' a xs :=
  h.elim (fun ⟨o, e⟩ => .inl ⟨o, le.fl _ _ _ e⟩) .inr
theorem sqT_leW {K : PySem.W.Frag} {H H' : Hp} {a : Addr} {xs : List V} (le : LeW H H') (h : SqT K H a xs) : SqT K H' a xs := by
  rcases h with (h | ⟨o, h⟩) | h
  · exact .inl (.inl (le.tup _ _ h))
  · exact .inl (.inr ⟨o, le.ft _ _ _ h⟩)
  · exact .inr h

mutual
def RD (K : PySem.W.Frag) (H : Hp) : D → V → Prop
  | .non, v => v = .non
  | .bl b, v => v = .bl b
  | .int i, v => v = .int i
  | .str x, v => v = .str x
  | .tup ds, v => ∃ p xs, v = .ref p ∧ SqT K H p xs ∧ RDs K H ds xs
  | .rol ds, v => ∃ p xs, v = .ref p ∧ SqR K H p xs ∧ RDs K H ds xs
  | .ref a, v => v = .ref a
def RDs (K : PySem.W.Frag) (H : Hp) : List D → List V → Prop
  | [], vs => vs = []
  | d :: ds, vs => ∃ v r, vs = v :: r ∧ RD K H d v ∧ RDs K H ds r
end

section
variable {w : World} {K : PySem.W.Frag} {H H' : Hp}
mutual
theorem RD.le (le : LeH H H') : ∀ {d : D} {v : V}, RD K H d v → RD K H' d v
  | .non, _, h => h
  | .bl _, _, h => h
  | .int _, _, h => h
  | .str _, _, h => h
  | .tup ds, _, h => by
    obtain ⟨p, xs, e, t, r⟩ : ∃ p xs, _ = V.ref p ∧ SqT K H p xs ∧ RDs K H ds xs := h
    exact ⟨p, xs, e, sqT_le le t, RDs.le le r⟩
  | .rol ds, _, h => by
    obtain ⟨p, xs, e, t, r⟩ : ∃ p xs, _ = V.ref p ∧ SqR K H p xs ∧ RDs K H ds xs := h
    exact ⟨p, xs, e, t.le le, RDs.le le r⟩
  | .ref _, _, h => h
theorem RDs.le (le : LeH H H') : ∀ {ds : List D} {vs : List V}, RDs K H ds vs → RDs K H' ds vs
  | [], _, h => h
  | _ :: _, _, h => by
    obtain ⟨v, r, e, h1, h2⟩ := h
    exact ⟨v, r, e, RD.le le h1, RDs.le le h2⟩
end
mutual
theorem RD.leW (le : LeW H H') : ∀ {d : D} {v : V}, RD K H d v → RD K H' d v
  | .non, _, h => h
  | .bl _, _, h => h
  | .int _, _, h => h
  | .str _, _, h => h
  | .tup ds, _, h => by
    obtain ⟨p, xs, e, t, r⟩ : ∃ p xs, _ = V.ref p ∧ SqT K H p xs ∧ RDs K H ds xs := h
    exact ⟨p, xs, e, sqT_leW le t, RDs.leW le r⟩
  | .rol ds, _, h => by
    obtain ⟨p, xs, e, t, r⟩ : ∃ p xs, _ = V.ref p ∧ SqR K H p xs ∧ RDs K H ds xs := h
    exact ⟨p, xs, e, t.leW le, RDs.leW le r⟩
  | .ref _, _, h => h
theorem RDs.leW (le : LeW H H') : ∀ {ds : List D} {vs : List V}, RDs K H ds vs → RDs K H' ds vs
  | [], _, h => h
  | _ :: _, _, h => by
    obtain ⟨v, r, e, h1, h2⟩ := h
    exact ⟨v, r, e, RD.leW le h1, RDs.leW le h2⟩
end
theorem RDs.nil : RDs K H [] [] := rfl
theorem RDs.cons {d : D} {ds : List D} {v : V} {vs : List V} (a : RD K H d v) (b : RDs K H ds vs) : RDs K H (d :: ds) (v :: vs) := ⟨v, vs, rfl, a, b⟩
theorem RDs.length : ∀ {ds : List D} {vs : List V}, RDs K H ds vs → ds.length = vs.length
  | [], _, h => by cases h; rfl
  | _ :: ds, _, h => by
    obtain ⟨v, r, rfl, _, h2⟩ := h
    simp [RDs.length h2]
theorem RDs.get : ∀ {ds : List D} {vs : List V} {i : Nat} {d : D}, RDs K H ds vs → ds[i]? = some d → ∃ v, vs[i]? = some v ∧ RD K H d v
  | [], _, _, _, _, e => by simp at e
  | _ :: _, _, 0, _, h, e => by
    obtain ⟨v, r, rfl, h1, h2⟩ := h
    simp at e
    subst e
    exact ⟨v, rfl, h1⟩
  | _ :: ds, _, i + 1, _, h, e => by
    obtain ⟨v, r, rfl, h1, h2⟩ := h
    obtain ⟨u, e1, e2⟩ := RDs.get (i := i) h2 (by simpa using e)
    exact ⟨u, by simpa using e1, e2⟩
theorem RDs.got : ∀ {ds : List D} {vs : List V} {i : Nat} {v : V}, RDs K H ds vs → vs[i]? = some v → ∃ d, ds[i]? = some d ∧ RD K H d v
  | [], _, _, _, h, e => by cases h; simp at e
  | _ :: _, _, 0, _, h, e => by
    obtain ⟨v, r, rfl, h1, h2⟩ := h
    simp at e
    subst e
    exact ⟨_, rfl, h1⟩
  | _ :: ds, _, i + 1, _, h, e => by
    obtain ⟨v, r, rfl, h1, h2⟩ := h
    obtain ⟨u, e1, e2⟩ := RDs.got (i := i) h2 (by simpa using e)
    exact ⟨u, by simpa using e1, e2⟩
theorem RDs.append : ∀ {ds es : List D} {vs us : List V}, RDs K H ds vs → RDs K H es us → RDs K H (ds ++ es) (vs ++ us)
  | [], _, _, _, h, k => by cases h; exact k
  | _ :: _, _, _, _, h, k => by
    obtain ⟨v, r, rfl, h1, h2⟩ := h
    exact ⟨v, r ++ _, rfl, h1, RDs.append h2 k⟩
theorem RDs.snoc {ds : List D} {vs : List V} {d : D} {v : V} (h : RDs K H ds vs) (k : RD K H d v) : RDs K H (ds ++ [d]) (vs ++ [v]) := h.append (.cons k .nil)
theorem RDs.set : ∀ {ds : List D} {vs : List V} {d : D} {v : V} (i : Nat), RDs K H ds vs → RD K H d v → RDs K H (ds.set i d) (vs.set i v)
  | [], _, _, _, _, h, _ => by cases h; rfl
  | _ :: _, _, _, _, 0, h, k => by
    obtain ⟨v, r, rfl, h1, h2⟩ := h
    exact ⟨_, r, rfl, k, h2⟩
  | _ :: _, _, _, _, i + 1, h, k => by
    obtain ⟨v, r, rfl, h1, h2⟩ := h
    exact ⟨v, _, rfl, h1, RDs.set i h2 k⟩
theorem RDs.take : ∀ {ds : List D} {vs : List V} (n : Nat), RDs K H ds vs → RDs K H (ds.take n) (vs.take n)
  | [], _, _, h => by cases h; simp [RDs]
  | _ :: _, _, 0, h => by simp [RDs]
  | _ :: _, _, n + 1, h => by
    obtain ⟨v, r, rfl, h1, h2⟩ := h
    exact ⟨v, _, rfl, h1, RDs.take n h2⟩
theorem RDs.drop : ∀ {ds : List D} {vs : List V} (n : Nat), RDs K H ds vs → RDs K H (ds.drop n) (vs.drop n)
  | [], _, _, h => by cases h; simp [RDs]
  | _ :: _, _, 0, h => h
  | _ :: _, _, n + 1, h => by
    obtain ⟨v, r, rfl, h1, h2⟩ := h
    exact RDs.drop n h2
theorem RDs.reverse : ∀ {ds : List D} {vs : List V}, RDs K H ds vs → RDs K H ds.reverse vs.reverse
  | [], _, h => by cases h; rfl
  | _ :: _, _, h => by
    obtain ⟨v, r, rfl, h1, h2⟩ := h
    rw [List.reverse_cons, List.reverse_cons]
    exact (RDs.reverse h2).snoc h1
theorem RDs.dropLast : ∀ {ds : List D} {vs : List V}, RDs K H ds vs → RDs K H ds.dropLast vs.dropLast := fun {ds vs} h => by
  rw [List.dropLast_eq_take, List.dropLast_eq_take, h.length]
  exact h.take _
theorem RDs.eraseIdx : ∀ {ds : List D} {vs : List V} (n : Nat), RDs K H ds vs → RDs K H (ds.eraseIdx n) (vs.eraseIdx n)
  | [], _, _, h => by cases h; rfl
  | _ :: _, _, 0, h => by
    obtain ⟨v, r, rfl, h1, h2⟩ := h
    exact h2
  | _ :: _, _, n + 1, h => by
    obtain ⟨v, r, rfl, h1, h2⟩ := h
    exact ⟨v, _, rfl, h1, RDs.eraseIdx n h2⟩
theorem RDs.ints : ∀ {ns : List Int} {vs : List V}, RDs K H (ns.map D.int) vs ↔ vs = ns.map V.int
  | [], _ => Iff.rfl
  | n :: ns, vs => by
    constructor
    · rintro ⟨v, r, rfl, h1, h2⟩
      cases h1
      rw [RDs.ints.mp h2]
      rfl
    · rintro rfl
      exact ⟨_, _, rfl, rfl, RDs.ints.mpr rfl⟩
theorem RDs.strs : ∀ {ns : List Str} {vs : List V}, RDs K H (ns.map D.str) vs ↔ vs = ns.map V.str
  | [], _ => Iff.rfl
  | n :: ns, vs => by
    constructor
    · rintro ⟨v, r, rfl, h1, h2⟩
      cases h1
      rw [RDs.strs.mp h2]
      rfl
    · rintro rfl
      exact ⟨_, _, rfl, rfl, RDs.strs.mpr rfl⟩
end

/-! ### tables -/
section
variable {κ α : Type} [DecidableEq κ]
def lk : List (κ × α) → κ → Option α
  | [], _ => none
  | (j, v) :: r, k => if j = k then some v else lk r k
def pt (l : List (κ × α)) (k : κ) (v : α) : List (κ × α) :=
  if (lk l k).isSome then l.map (fun q => if q.1 = k then (q.1, v) else q) else l ++ [(k, v)]
def dr (l : List (κ × α)) (k : κ) : List (κ × α) := l.filter fun q => decide (q.1 ≠ k)
end
def RKs {κ : Type} (K : PySem.W.Frag) (H : Hp) : List (κ × D) → List (κ × V) → Prop
  | [], ws => ws = []
  | (k, d) :: r, ws => ∃ v s, ws = (k, v) :: s ∧ RD K H d v ∧ RKs K H r s
section
variable {w : World} {K : PySem.W.Frag} {H H' : Hp} {κ : Type}
theorem RKs.le (le : LeH H H') : ∀ {kvs : List (κ × D)} {ws : List (κ × V)}, RKs K H kvs ws → RKs K H' kvs ws
  | [], _, h => h
  | (_, _) :: _, _, h => by
    obtain ⟨v, r, e, h1, h2⟩ := h
    exact ⟨v, r, e, h1.le le, RKs.le le h2⟩
theorem RKs.leW (le : LeW H H') : ∀ {kvs : List (κ × D)} {ws : List (κ × V)}, RKs K H kvs ws → RKs K H' kvs ws
  | [], _, h => h
  | (_, _) :: _, _, h => by
    obtain ⟨v, r, e, h1, h2⟩ := h
    exact ⟨v, r, e, h1.leW le, RKs.leW le h2⟩
theorem RKs.length : ∀ {kvs : List (κ × D)} {ws : List (κ × V)}, RKs K H kvs ws → kvs.length = ws.length
  | [], _, h => by cases h; rfl
  | (_, _) :: _, _, h => by
    obtain ⟨v, r, rfl, h1, h2⟩ := h
    simp [RKs.length h2]
theorem RKs.append : ∀ {kvs ls : List (κ × D)} {ws us : List (κ × V)}, RKs K H kvs ws → RKs K H ls us → RKs K H (kvs ++ ls) (ws ++ us)
  | [], _, _, _, h, k => by cases h; exact k
  | (_, _) :: _, _, _, _, h, k => by
    obtain ⟨v, r, rfl, h1, h2⟩ := h
    exact ⟨v, r ++ _, rfl, h1, RKs.append h2 k⟩
theorem RKs.get : ∀ {kvs : List (κ × D)} {ws : List (κ × V)} {i : Nat} {k : κ} {v : V}, RKs K H kvs ws → ws[i]? = some (k, v) → ∃ d, kvs[i]? = some (k, d) ∧ RD K H d v
  | [], _, _, _, _, h, e => by cases h; simp at e
  | (_, _) :: _, _, 0, _, _, h, e => by
    obtain ⟨v, r, rfl, h1, h2⟩ := h
    simp at e
    obtain ⟨rfl, rfl⟩ := e
    exact ⟨_, rfl, h1⟩
  | (_, _) :: _, _, i + 1, _, _, h, e => by
    obtain ⟨v, r, rfl, h1, h2⟩ := h
    obtain ⟨u, e1, e2⟩ := RKs.get (i := i) h2 (by simpa using e)
    exact ⟨u, by simpa using e1, e2⟩
variable [DecidableEq κ]
theorem RKs.lk : ∀ {kvs : List (κ × D)} {ws : List (κ × V)} (k : κ), RKs K H kvs ws → match Dt.lk kvs k, valV ws k with | some d, some v => RD K H d v | none, none => True | _, _ => False
  | [], _, k, h => by cases h; simp [Dt.lk, valV]
  | (j, d) :: r, _, k, h => by
    obtain ⟨v, s, rfl, h1, h2⟩ := h
    by_cases e : j = k
    · rw [valV_pos e]
      simp [Dt.lk, e, h1]
    · rw [valV_neg e]
      simp only [Dt.lk, if_neg e]
      exact RKs.lk k h2
theorem RKs.nn {kvs : List (κ × D)} {ws : List (κ × V)} {k : κ} (h : RKs K H kvs ws) (e : Dt.lk kvs k = none) : valV ws k = none := by
  have := h.lk k
  rw [e] at this
  cases q : valV ws k with
  | none => rfl
  | some v => rw [q] at this; exact this.elim
theorem RKs.ss {kvs : List (κ × D)} {ws : List (κ × V)} {k : κ} {d : D} (h : RKs K H kvs ws) (e : Dt.lk kvs k = some d) : ∃ v, valV ws k = some v ∧ RD K H d v := by
  have := h.lk k
  rw [e] at this
  cases q : valV ws k with
  | none => rw [q] at this; exact this.elim
  | some v => rw [q] at this; exact ⟨v, rfl, this⟩
theorem RKs.isSome {kvs : List (κ × D)} {ws : List (κ × V)} (k : κ) (h : RKs K H kvs ws) : (valV ws k).isSome = (Dt.lk kvs k).isSome := by
  cases e : Dt.lk kvs k with
  | none => rw [h.nn e]; rfl
  | some d =>
    obtain ⟨v, q, _⟩ := h.ss e
    rw [q]
    rfl
theorem RKs.mapv {k : κ} {d : D} {v : V} (rv : RD K H d v) : ∀ {kvs : List (κ × D)} {ws : List (κ × V)}, RKs K H kvs ws →
    RKs K H (kvs.map fun q => if q.1 = k then (q.1, d) else q) (ws.map fun q => if q.1 = k then (q.1, v) else q)
  | [], _, h => by cases h; rfl
  | (j, _) :: _, _, h => by
    obtain ⟨w, s, rfl, h1, h2⟩ := h
    by_cases e : j = k
    · simp only [List.map_cons, if_pos e]
      exact ⟨v, _, rfl, rv, RKs.mapv rv h2⟩
    · simp only [List.map_cons, if_neg e]
      exact ⟨w, _, rfl, h1, RKs.mapv rv h2⟩
theorem RKs.pt {kvs : List (κ × D)} {ws : List (κ × V)} {k : κ} {d : D} {v : V} (h : RKs K H kvs ws) (rv : RD K H d v) : RKs K H (Dt.pt kvs k d) (putK ws k v) := by
  unfold Dt.pt putK
  rw [valV_any, h.isSome k]
  split
  · exact RKs.mapv rv h
  · exact h.append ⟨v, [], rfl, rv, rfl⟩
theorem RKs.dr {k : κ} : ∀ {kvs : List (κ × D)} {ws : List (κ × V)}, RKs K H kvs ws → RKs K H (Dt.dr kvs k) (dropK ws k)
  | [], _, h => by cases h; rfl
  | (j, _) :: _, _, h => by
    obtain ⟨w, s, rfl, h1, h2⟩ := h
    unfold Dt.dr dropK
    by_cases e : j = k
    · simp only [List.filter_cons, decide_eq_true_eq, ne_eq, e, not_true, decide_false, Bool.false_eq_true, if_false]
      exact RKs.dr h2
    · simp only [List.filter_cons, decide_eq_true_eq, ne_eq, e, not_false_eq_true, decide_true, if_true]
      exact ⟨w, _, rfl, h1, RKs.dr h2⟩
end

/-! ### data may be told apart -/
mutual
def deq : D → D → Bool
  | .non, .non => true
  | .bl a, .bl b => decide (a = b)
  | .int a, .int b => decide (a = b)
  | .str a, .str b => decide (a = b)
  | .tup a, .tup b => deqs a b
  | .rol a, .rol b => deqs a b
  | .ref a, .ref b => decide (a = b)
  | _, _ => false
def deqs : List D → List D → Bool
  | [], [] => true
  | a :: as, b :: bs => deq a b && deqs as bs
  | _, _ => false
end
mutual
theorem deq_self : ∀ a : D, deq a a = true
  | .non => rfl
  | .bl a => by simp [deq]
  | .int a => by simp [deq]
  | .str a => by simp [deq]
  | .tup a => by rw [deq]; exact deqs_self a
  | .rol a => by rw [deq]; exact deqs_self a
  | .ref a => by simp [deq]
theorem deqs_self : ∀ a : List D, deqs a a = true
  | [] => rfl
  | a :: as => by rw [deqs, deq_self a, deqs_self as]; rfl
end
mutual
theorem of_deq : ∀ a b : D, deq a b = true → a = b
  | .non, b, h => by cases b <;> simp [deq] at h; rfl
  | .bl a, b, h => by cases b <;> simp [deq] at h; rw [h]
  | .int a, b, h => by cases b <;> simp [deq] at h; rw [h]
  | .str a, b, h => by cases b <;> simp [deq] at h; rw [h]
  | .tup a, b, h => by
    cases b <;> simp [deq] at h
    rw [of_deqs a _ h]
  | .rol a, b, h => by
    cases b <;> simp [deq] at h
    rw [of_deqs a _ h]
  | .ref a, b, h => by cases b <;> simp [deq] at h; rw [h]
theorem of_deqs : ∀ a b : List D, deqs a b = true → a = b
  | [], b, h => by cases b <;> simp [deqs] at h; rfl
  | x :: xs, b, h => by
    cases b with
    | nil => simp [deqs] at h
    | cons y ys =>
      simp [deqs] at h
      rw [of_deq x y h.1, of_deqs xs ys h.2]
end
instance : DecidableEq D := fun a b => if h : deq a b = true then .isTrue (of_deq a b h) else .isFalse fun e => h (e ▸ deq_self a)
/-! ### keys that are tuples -/
mutual
def nkey : D → Option NestedKey
  | .non => some .none
  | .int i => some (.num i)
  | .str x => some (.text x)
  | .tup ds => match nkeys ds with | some ks => some (.tup ks) | none => none
  | _ => none
def nkeys : List D → Option (List NestedKey)
  | [] => some []
  | d :: ds => match nkey d, nkeys ds with | some k, some ks => some (k :: ks) | _, _ => none
end
mutual
theorem nkey_inj : ∀ (a b : D) (k : NestedKey), nkey a = some k → nkey b = some k → a = b
  | .non, b, k, h, h' => by
    simp only [nkey, Option.some.injEq] at h
    subst h
    cases b with
    | tup ds => simp only [nkey] at h'; split at h' <;> cases h'
    | non => rfl
    | _ => simp [nkey] at h'
  | .int i, b, k, h, h' => by
    simp only [nkey, Option.some.injEq] at h
    subst h
    cases b with
    | tup ds => simp only [nkey] at h'; split at h' <;> cases h'
    | int j => simp [nkey] at h'; rw [h']
    | _ => simp [nkey] at h'
  | .str i, b, k, h, h' => by
    simp only [nkey, Option.some.injEq] at h
    subst h
    cases b with
    | tup ds => simp only [nkey] at h'; split at h' <;> cases h'
    | str j => simp [nkey] at h'; rw [h']
    | _ => simp [nkey] at h'
  | .tup ds, b, k, h, h' => by
    simp only [nkey] at h
    split at h
    · rename_i ks e
      cases h
      cases b with
      | tup es =>
        simp only [nkey] at h'
        split at h'
        · rename_i ks' e'
          cases h'
          rw [nkeys_inj ds es _ e e']
        · cases h'
      | _ => simp [nkey] at h'
    · cases h
  | .bl _, _, _, h, _ => by simp [nkey] at h
  | .rol _, _, _, h, _ => by simp [nkey] at h
  | .ref _, _, _, h, _ => by simp [nkey] at h
theorem nkeys_inj : ∀ (a b : List D) (k : List NestedKey), nkeys a = some k → nkeys b = some k → a = b
  | [], b, k, h, h' => by
    simp only [nkeys, Option.some.injEq] at h
    subst h
    cases b with
    | nil => rfl
    | cons y ys => simp only [nkeys] at h'; split at h' <;> cases h'
  | x :: xs, b, k, h, h' => by
    simp only [nkeys] at h
    split at h
    · rename_i k1 ks e1 e2
      cases h
      cases b with
      | nil => simp [nkeys] at h'
      | cons y ys =>
        simp only [nkeys] at h'
        split at h'
        · rename_i k2 ks2 f1 f2
          cases h'
          rw [nkey_inj x y _ e1 f1, nkeys_inj xs ys _ e2 f2]
        · cases h'
    · cases h
end
/-- a dict's rows as they lie: the key, its address, the value -/
def RawRows (w : World) (rows : List (NestedKey × Addr × V)) (a : Addr) (h : Heap) : Prop := (a == sysModules) = false ∧ ∃ o es ep, h.get? a = some o ∧ o.ExactDict ∧ o.data = .dict es ep ∧
  Paired (fun (r : NestedKey × Addr × V) (e : DictEntry) => e.hash = r.1.hash w ∧ e.key = .ref r.2.1 ∧ RelV r.2.2 e.val) rows es.toList
abbrev dnHO (w : World) (rows : List (NestedKey × Addr × V)) (a : Addr) : HO := .ext (RawRows w rows a)
/-- rows beside keys and values -/
def RRows (K : PySem.W.Frag) (H : Hp) : List (D × D) → List (NestedKey × Addr × V) → Prop
  | [], rows => rows = []
  | (k, d) :: r, rows => ∃ nk b v s, rows = (nk, b, v) :: s ∧ nkey k = some nk ∧ nk.depth ≤ 8 ∧ RD K H k (.ref b) ∧ RD K H d v ∧ RRows K H r s
theorem RRows.le {K : PySem.W.Frag} {H H' : Hp} (le : LeH H H') : ∀ {kvs : List (D × D)} {rows : List (NestedKey × Addr × V)}, RRows K H kvs rows → RRows K H' kvs rows
  | [], _, h => h
  | (_, _) :: _, _, ⟨nk, b, v, s, e, e1, e2, r1, r2, h⟩ => ⟨nk, b, v, s, e, e1, e2, r1.le le, r2.le le, RRows.le le h⟩
theorem RRows.leW {K : PySem.W.Frag} {H H' : Hp} (le : LeW H H') : ∀ {kvs : List (D × D)} {rows : List (NestedKey × Addr × V)}, RRows K H kvs rows → RRows K H' kvs rows
  | [], _, h => h
  | (_, _) :: _, _, ⟨nk, b, v, s, e, e1, e2, r1, r2, h⟩ => ⟨nk, b, v, s, e, e1, e2, r1.leW le, r2.leW le, RRows.leW le h⟩
/-! ### the data heap -/
inductive Ob where
  | lst (xs : List D) | dK (kvs : List (Key × D)) | dN (kvs : List (D × D)) | ins (C : Addr) (fs : List (Str × D))
  | exc (C dd : Addr) | xd (fs : List (Str × D)) | ex0 (C : Addr) | ex1 (C dx : Addr) | xm (fs : List (Str × D))
  | fK (kvs : List (Key × D)) | fN (kvs : List (D × D))
abbrev DH := Addr → Option Ob
def upo (S : DH) (a : Addr) (o : Ob) : DH := fun b => if b = a then some o else S b
@[simp] theorem upo_same {S : DH} {a : Addr} {o : Ob} : upo S a o a = some o := if_pos rfl
theorem upo_ne {S : DH} {a b : Addr} {o : Ob} (h : b ≠ a) : upo S a o b = S b := if_neg h
@[simp] theorem upo_upo {S : DH} {a : Addr} {o u : Ob} : upo (upo S a o) a u = upo S a u := by
  funext b
  unfold upo
  split <;> rfl
/-- a new object o: p its address, the heap with it -/
def newO (S : DH) (o : Ob) (Q : Addr → DH → Prop) : Prop := ∀ p, S p = none → Q p (upo S p o)
/-- an exception: its class, where its fields lie -/
def excP (C dd a : Addr) (h : Heap) : Prop := ∃ (oe : Obj) (vs : Array Value), h.get? a = some oe ∧ oe.cls = .ref C ∧ oe.dict = some dd ∧ oe.data = .fields vs
abbrev excHO (C dd a : Addr) : HO := .ext (excP C dd a)
def ROb (w : World) (K : PySem.W.Frag) (H : Hp) (a : Addr) : Ob → Prop
  | .lst ds => ∃ xs, H a = some (.lst xs) ∧ RDs K H ds xs
  | .dK kvs => ∃ ws, H a = some (.dK ws) ∧ RKs K H kvs ws
  | .dN kvs => ∃ rows, H a = some (dnHO w rows a) ∧ kvs.length ≤ sizeLine ∧ (kvs.map (·.1)).Nodup ∧ RRows K H kvs rows
  | .ins C fs => ∃ dx ws, H a = some (.ins C dx ws) ∧ RKs K H fs ws
  | .exc C dd => H a = some (excHO C dd a)
  | .xd fs => ∃ ws, H a = some (.xd ws) ∧ RKs K H fs ws
  | .ex0 C => H a = some (exo a C none)
  | .ex1 C dx => H a = some (exo a C (some dx))
  | .xm fs => ∃ ws, H a = some (exd a ws) ∧ RKs K H fs ws
  | .fK kvs => ∃ ws, (∃ o, H a = some (.frz o (.dK ws))) ∧ RKs K H kvs ws
  | .fN kvs => ∃ rows, (∃ o, H a = some (.frz o (dnHO w rows a))) ∧ kvs.length ≤ sizeLine ∧ (kvs.map (·.1)).Nodup ∧ RRows K H kvs rows
def Rep (w : World) (K : PySem.W.Frag) (S : DH) (H : Hp) : Prop := ∀ a o, S a = some o → ROb w K H a o
section
variable {w : World} {K : PySem.W.Frag} {H H' : Hp} {S : DH} {a p : Addr} {o : Ob}
theorem ROb.mut (h : ROb w K H a o) : ∃ u, H a = some u ∧ True := by
  cases o with
  | lst _ => obtain ⟨xs, e, _⟩ := h; exact ⟨_, e, trivial⟩
  | dK _ => obtain ⟨xs, e, _⟩ := h; exact ⟨_, e, trivial⟩
  | dN _ => obtain ⟨xs, e, _⟩ := h; exact ⟨_, e, trivial⟩
  | ins _ _ => obtain ⟨dx, xs, e, _⟩ := h; exact ⟨_, e, trivial⟩
  | exc _ _ => exact ⟨_, h, trivial⟩
  | ex0 _ => exact ⟨_, h, trivial⟩
  | ex1 _ _ => exact ⟨_, h, trivial⟩
  | xd _ => obtain ⟨xs, e, _⟩ := h; exact ⟨_, e, trivial⟩
  | xm _ => obtain ⟨xs, e, _⟩ := h; exact ⟨_, e, trivial⟩
  | fK _ => obtain ⟨xs, ⟨o, e⟩, _⟩ := h; exact ⟨_, e, trivial⟩
  | fN _ => obtain ⟨xs, ⟨o, e⟩, _⟩ := h; exact ⟨_, e, trivial⟩
theorem ROb.at (h : ROb w K H a o) (le : LeH H H') (e : H' a = H a) : ROb w K H' a o := by
  cases o with
  | lst _ => obtain ⟨xs, q, r⟩ := h; exact ⟨xs, e.trans q, r.le le⟩
  | dK _ => obtain ⟨xs, q, r⟩ := h; exact ⟨xs, e.trans q, r.le le⟩
  | dN _ => obtain ⟨xs, q, l, n, r⟩ := h; exact ⟨xs, e.trans q, l, n, r.le le⟩
  | ins _ _ => obtain ⟨dx, xs, q, r⟩ := h; exact ⟨dx, xs, e.trans q, r.le le⟩
  | exc _ _ => exact e.trans h
  | ex0 _ => exact e.trans h
  | ex1 _ _ => exact e.trans h
  | xd _ => obtain ⟨xs, q, r⟩ := h; exact ⟨xs, e.trans q, r.le le⟩
  | xm _ => obtain ⟨xs, q, r⟩ := h; exact ⟨xs, e.trans q, r.le le⟩
  | fK _ => obtain ⟨xs, ⟨o, q⟩, r⟩ := h; exact ⟨xs, ⟨o, e.trans q⟩, r.le le⟩
  | fN _ => obtain ⟨xs, ⟨o, q⟩, l, n, r⟩ := h; exact ⟨xs, ⟨o, e.trans q⟩, l, n, r.le le⟩
theorem ROb.atW (h : ROb w K H a o) (le : LeW H H') (e : H' a = H a) : ROb w K H' a o := by
  cases o with
  | lst _ => obtain ⟨xs, q, r⟩ := h; exact ⟨xs, e.trans q, r.leW le⟩
  | dK _ => obtain ⟨xs, q, r⟩ := h; exact ⟨xs, e.trans q, r.leW le⟩
  | dN _ => obtain ⟨xs, q, l, n, r⟩ := h; exact ⟨xs, e.trans q, l, n, r.leW le⟩
  | ins _ _ => obtain ⟨dx, xs, q, r⟩ := h; exact ⟨dx, xs, e.trans q, r.leW le⟩
  | exc _ _ => exact e.trans h
  | ex0 _ => exact e.trans h
  | ex1 _ _ => exact e.trans h
  | xd _ => obtain ⟨xs, q, r⟩ := h; exact ⟨xs, e.trans q, r.leW le⟩
  | xm _ => obtain ⟨xs, q, r⟩ := h; exact ⟨xs, e.trans q, r.leW le⟩
  | fK _ => obtain ⟨xs, ⟨o, q⟩, r⟩ := h; exact ⟨xs, ⟨o, e.trans q⟩, r.leW le⟩
  | fN _ => obtain ⟨xs, ⟨o, q⟩, l, n, r⟩ := h; exact ⟨xs, ⟨o, e.trans q⟩, l, n, r.leW le⟩
theorem Rep.free (r : Rep w K S H) (h : H p = none) : S p = none := by
  cases e : S p with
  | none => rfl
  | some o =>
    obtain ⟨u, q, _⟩ := (r p o e).mut
    rw [h] at q
    cases q
/-- a new object that the data heap does not tell -/
theorem Rep.garb {u : HO} (r : Rep w K S H) (h : H p = none) : Rep w K S (upd H p u) := fun b o e => by
  obtain ⟨v, q, _⟩ := (r b o e).mut
  exact (r b o e).at (LeH.new h) (upd_ne (ne_of_none q h))
theorem Rep.new {u : HO} (r : Rep w K S H) (h : H p = none) (n : ROb w K (upd H p u) p o) : Rep w K (upo S p o) (upd H p u) := fun b ob e => by
  by_cases z : b = p
  · subst z
    rw [upo_same] at e
    cases e
    exact n
  · rw [upo_ne z] at e
    exact (r b ob e).at (LeH.new h) (upd_ne z)
theorem Rep.put {u v : HO} (r : Rep w K S H) (h : H p = some v) (m : Mut (some v)) (n : ROb w K (upd H p u) p o) : Rep w K (upo S p o) (upd H p u) := fun b ob e => by
  by_cases z : b = p
  · subst z
    rw [upo_same] at e
    cases e
    exact n
  · rw [upo_ne z] at e
    exact (r b ob e).at (LeH.put h m) (upd_ne z)
end

def opt {α : Type} (o : Option α) (k : α → Prop) : Prop := match o with | some x => k x | none => False
@[simp] theorem opt_some {α : Type} (x : α) (k : α → Prop) : opt (some x) k = k x := rfl
@[simp] theorem opt_none {α : Type} (k : α → Prop) : opt none k = False := rfl
theorem opt_mono {α : Type} {o : Option α} {k k' : α → Prop} (h : ∀ x, k x → k' x) (q : opt o k) : opt o k' := by
  cases o with
  | none => exact q
  | some x => exact h x q
theorem opt_ex {α : Type} {o : Option α} {k : α → Prop} (q : opt o k) : ∃ x, o = some x ∧ k x := by
  cases o with
  | none => exact q.elim
  | some x => exact ⟨x, rfl, q⟩
/-- the items of a list -/
def seqD (S : DH) (d : D) : Option (List D) := match d with
  | .rol xs => some xs
  | .ref a => (match S a with | some (.lst xs) => some xs | _ => none)
  | _ => none
section
variable {S : DH}
@[simp] theorem seqD_rol (xs : List D) : seqD S (.rol xs) = some xs := rfl
@[simp] theorem seqD_ref (a : Addr) : seqD S (.ref a) = (match S a with | some (.lst xs) => some xs | _ => none) := rfl
@[simp] theorem seqD_tup (xs : List D) : seqD S (.tup xs) = none := rfl
@[simp] theorem seqD_str (xs : Str) : seqD S (.str xs) = none := rfl
@[simp] theorem seqD_int (xs : Int) : seqD S (.int xs) = none := rfl
@[simp] theorem seqD_non : seqD S .non = none := rfl
@[simp] theorem seqD_bl (b : Bool) : seqD S (.bl b) = none := rfl
end
/-- a list of ours, written or not -/
def SqX (K : PySem.W.Frag) (H : Hp) (a : Addr) (xs : List V) : Prop := H a = some (.lst xs) ∨ SqR K H a xs
theorem SqX.l {K : PySem.W.Frag} {H : Hp} {a : Addr} {xs : List V} (h : SqX K H a xs) : SqL K H a xs := h.elim (fun z => .inl (.inl z)) SqR.l
theorem seqD_rd {w : World} {K : PySem.W.Frag} {S : DH} {H : Hp} {d : D} {v : V} {ds : List D} (rep : Rep w K S H) (rd : RD K H d v) (e : seqD S d = some ds) : ∃ a xs, v = .ref a ∧ SqX K H a xs ∧ RDs K H ds xs := by
  cases d with
  | rol xs =>
    cases e
    obtain ⟨p, ys, rfl, sq, rs⟩ : ∃ p xs, v = V.ref p ∧ SqR K H p xs ∧ RDs K H ds xs := rd
    exact ⟨p, ys, rfl, .inr sq, rs⟩
  | ref a =>
    simp only [seqD_ref] at e
    split at e
    · rename_i xs ea
      cases e
      obtain ⟨ys, e0, rs⟩ : ∃ ys, H a = some (.lst ys) ∧ RDs K H ds ys := rep a _ ea
      exact ⟨a, ys, rd, .inl e0, rs⟩
    · cases e
  | _ => simp at e
theorem sqX_get {X : Cx} {pins : List (Addr × Obj)} {σ : L2.St} {H : Hp} {s : Shared} {a : Addr} {xs : List V} (I : Inv X pins σ H s) (h : SqX X.K H a xs) :
    ∃ (its : List Value) (n : Nat), Vals xs its ∧ xs.length ≤ sizeLine ∧ xs.length = its.length ∧ s.heap.get? a = some { cls := .type "list", data := .seq its.toArray n } := by
  rcases h with h | ⟨o, h⟩ | ⟨its, n, h, hz, r⟩
  · obtain ⟨z, its, n, r, e⟩ := I.hok a _ h
    exact ⟨its, n, r, z, r.length, e⟩
  · obtain ⟨_, z, its, n, r, e⟩ := I.hok a _ h
    exact ⟨its, n, r, z, r.length, e⟩
  · exact ⟨its.toList, n, r, by rw [r.length, Array.length_toList]; exact hz, r.length, by simpa using I.kIn a _ h⟩
def catD (S : DH) (d e : D) (k : List D → Prop) : Prop := opt (seqD S d) fun xs => opt (seqD S e) fun ys => xs.length + ys.length ≤ sizeLine ∧ k (xs ++ ys)
/-! ### slots -/
abbrev DSt := List (Option D)
abbrev DK := D → DH → Prop
/-- what is wanted of an exception: its class, its fields, the slots, the heap -/
abbrev DW := Addr → List (Str × D) → DSt → DH → Prop
abbrev DTE := DW → DSt → DH → DK → Prop
abbrev DTT := DW → DSt → DH → (Bool → DH → Prop) → Prop
abbrev DTA := DW → DSt → DH → (List D → DH → Prop) → Prop
structure RSt (K : PySem.W.Frag) (H : Hp) (τ : DSt) (σ : St) : Prop where
  len : τ.length = σ.length
  get : ∀ (i : Nat) d, τ[i]? = some (some d) → ∃ v, σ[i]? = some (some v) ∧ RD K H d v
structure Rel (w : World) (K : PySem.W.Frag) (τ : DSt) (S : DH) (σ : St) (H : Hp) : Prop where
  st : RSt K H τ σ
  rep : Rep w K S H
theorem RSt.le {K : PySem.W.Frag} {H H' : Hp} {τ : DSt} {σ : St} (le : LeH H H') (r : RSt K H τ σ) : RSt K H' τ σ := ⟨r.len, fun i d e => by
  obtain ⟨v, q, rv⟩ := r.get i d e
  exact ⟨v, q, rv.le le⟩⟩
theorem RSt.set {K : PySem.W.Frag} {H : Hp} {τ : DSt} {σ : St} (r : RSt K H τ σ) (i : Nat) {d : D} {v : V} (rv : RD K H d v) : RSt K H (τ.set i (some d)) (σ.set i (some v)) := by
  refine ⟨by simp [r.len], fun j e h => ?_⟩
  rw [List.getElem?_set] at h ⊢
  by_cases z : i = j
  · subst z
    rw [if_pos rfl] at h
    rw [if_pos rfl]
    by_cases l : i < τ.length
    · rw [if_pos l] at h
      cases h
      rw [if_pos (by rw [← r.len]; exact l)]
      exact ⟨v, rfl, rv⟩
    · rw [if_neg l] at h
      cases h
  · rw [if_neg z] at h
    rw [if_neg z]
    exact r.get j e h
theorem Rel.le {w : World} {K : PySem.W.Frag} {H H' : Hp} {τ : DSt} {S S' : DH} {σ : St} (r : Rel w K τ S σ H) (le : LeH H H') (h : Rep w K S' H') : Rel w K τ S' σ H' := ⟨r.st.le le, h⟩

/-! ### wishes, lifts -/
def upW (w : World) (K : PySem.W.Frag) (E : DW) (H0 : Hp) : WX := fun cls d σ H => ∃ (C : Addr) (fs : List (Str × D)) (τ : DSt) (S : DH) (dd : Addr) (ws : List (Str × V)),
  cls = .ref C ∧ d = some dd ∧ LeH H0 H ∧ Rel w K τ S σ H ∧ H dd = some (.xd ws) ∧ RKs K H fs ws ∧ S dd = none ∧ E C fs τ S
theorem upW.imp {w : World} {K : PySem.W.Frag} {E E' : DW} {H0 H1 : Hp} (le : LeH H0 H1) (k : ∀ C fs τ S, E C fs τ S → E' C fs τ S) {cls : Value} {d : Option Addr} {σ : St} {H : Hp} (h : upW w K E H1 cls d σ H) : upW w K E' H0 cls d σ H := by
  obtain ⟨C, fs, τ, S, dd, ws, e1, e2, l, r, x, y, z, q⟩ := h
  exact ⟨C, fs, τ, S, dd, ws, e1, e2, le.trans l, r, x, y, z, k _ _ _ _ q⟩
def Wish (X : Cx) (E : DW) (H0 : Hp) : Prop := Takes X (upW X.w X.K E H0)
theorem Wish.le {X : Cx} {E : DW} {H0 H1 : Hp} (w : Wish X E H0) (le : LeH H0 H1) : Wish X E H1 := Takes.imp w fun _ _ _ _ h => upW.imp le (fun _ _ _ _ q => q) h
abbrev DW0 : DW := fun _ _ _ _ => False
theorem wish0 {X : Cx} {H0 : Hp} : Wish X DW0 H0 := fun u s' ⟨a, B, sI, pins, σ, H, cls, d, e, I, nb, up, sky, na, os, ag, w⟩ => by
  obtain ⟨_, _, _, _, _, _, _, _, _, _, _, _, _, q⟩ := w
  exact q.elim

def upE (X : Cx) (t : DTE) : TE := fun σ H Q => ∃ E τ S, Wish X E H ∧ Rel X.w X.K τ S σ H ∧ t E τ S fun d S' => ∀ v H', LeH H H' → Rep X.w X.K S' H' → RD X.K H' d v → Q v H'
def upT (X : Cx) (t : DTT) : TT := fun σ H Q => ∃ E τ S, Wish X E H ∧ Rel X.w X.K τ S σ H ∧ t E τ S fun b S' => ∀ H', LeH H H' → Rep X.w X.K S' H' → Q b H'
def upA (X : Cx) (t : DTA) : TA := fun σ H Q => ∃ E τ S, Wish X E H ∧ Rel X.w X.K τ S σ H ∧ t E τ S fun ds S' => ∀ vs H', LeH H H' → Rep X.w X.K S' H' → RDs X.K H' ds vs → Q vs H'
structure DE (X : Cx) (e : Expr) (t : DTE) : Prop where
  mono : ∀ (E E' : DW) τ S (Q Q' : DK), (∀ C fs τ S, E C fs τ S → E' C fs τ S) → (∀ d S', Q d S' → Q' d S') → t E τ S Q → t E' τ S Q'
  run : PE X e (upE X t)
structure DT (X : Cx) (e : Expr) (t : DTT) : Prop where
  mono : ∀ (E E' : DW) τ S (Q Q' : Bool → DH → Prop), (∀ C fs τ S, E C fs τ S → E' C fs τ S) → (∀ d S', Q d S' → Q' d S') → t E τ S Q → t E' τ S Q'
  run : PT X e (upT X t)
structure DWt (X : Cx) (e : Expr) (t : DTT) : Prop where
  mono : ∀ (E E' : DW) τ S (Q Q' : Bool → DH → Prop), (∀ C fs τ S, E C fs τ S → E' C fs τ S) → (∀ d S', Q d S' → Q' d S') → t E τ S Q → t E' τ S Q'
  run : PW X e (upT X t)
structure DA (X : Cx) (es : List Expr) (t : DTA) : Prop where
  mono : ∀ (E E' : DW) τ S (Q Q' : List D → DH → Prop), (∀ C fs τ S, E C fs τ S → E' C fs τ S) → (∀ d S', Q d S' → Q' d S') → t E τ S Q → t E' τ S Q'
  run : PA X es (upA X t)
theorem pE_imp {X : Cx} {e : Expr} {t t' : TE} (h : PE X e t) (k : ∀ σ H Q, t' σ H Q → t σ H Q) : PE X e t' := ⟨fun pins s σ H Q I q => h.run pins s σ H Q I (k σ H Q q)⟩
theorem pT_imp {X : Cx} {e : Expr} {t t' : TT} (h : PT X e t) (k : ∀ σ H Q, t' σ H Q → t σ H Q) : PT X e t' := ⟨fun pins s σ H Q I q => h.run pins s σ H Q I (k σ H Q q)⟩
theorem pW_imp {X : Cx} {e : Expr} {t t' : TT} (h : PW X e t) (k : ∀ σ H Q, t' σ H Q → t σ H Q) : PW X e t' := ⟨fun wh pins s σ H Q I q => h.run wh pins s σ H Q I (k σ H Q q)⟩
theorem pA_imp {X : Cx} {e : List Expr} {t t' : TA} (h : PA X e t) (k : ∀ σ H Q, t' σ H Q → t σ H Q) : PA X e t' := ⟨fun pos pins s σ H Q I q => h.run pos pins s σ H Q I (k σ H Q q)⟩
theorem pS_imp {X : Cx} {e : Stmt} {t t' : TS} (h : PS X e t) (k : ∀ D σ H, t' D σ H → t D σ H) : PS X e t' := ⟨fun pins s σ H D I q => h.run pins s σ H D I (k D σ H q)⟩
theorem pSs_imp {X : Cx} {e : List Stmt} {t t' : TS} (h : PSs X e t) (k : ∀ D σ H, t' D σ H → t D σ H) : PSs X e t' := ⟨fun pins s σ H D I q => h.run pins s σ H D I (k D σ H q)⟩

section
variable {X : Cx} {e : Expr} {es : List Expr} {E : DW} {τ : DSt} {S : DH} {σ : St} {H : Hp}
/-- from a data reading to the layer's, the end weakened -/
theorem DE.to {t : DTE} (h : DE X e t) {Q0 : DK} {Q : VK} (w : Wish X E H) (r : Rel X.w X.K τ S σ H) (q : t E τ S Q0)
    (k : ∀ d S' v H', LeH H H' → Wish X E H' → Rel X.w X.K τ S' σ H' → RD X.K H' d v → Q0 d S' → Q v H') : upE X t σ H Q :=
  ⟨E, τ, S, w, r, h.mono _ _ _ _ _ _ (fun _ _ _ _ z => z) (fun d S' z v H' le rp rd => k d S' v H' le (w.le le) (r.le le rp) rd z) q⟩
theorem DT.to {t : DTT} (h : DT X e t) {Q0 : Bool → DH → Prop} {Q : Bool → Hp → Prop} (w : Wish X E H) (r : Rel X.w X.K τ S σ H) (q : t E τ S Q0)
    (k : ∀ b S' H', LeH H H' → Wish X E H' → Rel X.w X.K τ S' σ H' → Q0 b S' → Q b H') : upT X t σ H Q :=
  ⟨E, τ, S, w, r, h.mono _ _ _ _ _ _ (fun _ _ _ _ z => z) (fun d S' z H' le rp => k d S' H' le (w.le le) (r.le le rp) z) q⟩
theorem DWt.to {t : DTT} (h : DWt X e t) {Q0 : Bool → DH → Prop} {Q : Bool → Hp → Prop} (w : Wish X E H) (r : Rel X.w X.K τ S σ H) (q : t E τ S Q0)
    (k : ∀ b S' H', LeH H H' → Wish X E H' → Rel X.w X.K τ S' σ H' → Q0 b S' → Q b H') : upT X t σ H Q :=
  ⟨E, τ, S, w, r, h.mono _ _ _ _ _ _ (fun _ _ _ _ z => z) (fun d S' z H' le rp => k d S' H' le (w.le le) (r.le le rp) z) q⟩
theorem DA.to {t : DTA} (h : DA X es t) {Q0 : List D → DH → Prop} {Q : List V → Hp → Prop} (w : Wish X E H) (r : Rel X.w X.K τ S σ H) (q : t E τ S Q0)
    (k : ∀ ds S' vs H', LeH H H' → Wish X E H' → Rel X.w X.K τ S' σ H' → RDs X.K H' ds vs → Q0 ds S' → Q vs H') : upA X t σ H Q :=
  ⟨E, τ, S, w, r, h.mono _ _ _ _ _ _ (fun _ _ _ _ z => z) (fun d S' z vs H' le rp rd => k d S' vs H' le (w.le le) (r.le le rp) rd z) q⟩
end

/-! ### names, constants -/
@[simp] def dVar (i : Nat) : DTE := fun _ τ S Q => match τ[i]? with | some (some d) => Q d S | _ => False
@[simp] def dC (d : D) : DTE := fun _ _ S Q => Q d S
section
variable {X : Cx}
theorem de_var {e : Expr} {i : Nat} (h : PE X e (tVar i)) : DE X e (dVar i) := by
  refine ⟨fun E E' τ S Q Q' _ k q => ?_, pE_imp h fun σ H Q ⟨E, τ, S, w, r, q⟩ => ?_⟩
  · unfold dVar at q ⊢
    split at q
    · exact k _ _ q
    · exact q
  · unfold dVar at q
    split at q
    · rename_i d e'
      obtain ⟨v, e2, rv⟩ := r.st.get i d e'
      exact ⟨v, e2, q v H (LeH.refl H) r.rep rv⟩
    · exact q.elim
theorem de_c {e : Expr} {d : D} {v : V} (h : PE X e (tC v)) (hv : ∀ H, RD X.K H d v) : DE X e (dC d) :=
  ⟨fun E E' τ S Q Q' _ k q => k _ _ q, pE_imp h fun σ H Q ⟨E, τ, S, w, r, q⟩ => q v H (LeH.refl H) r.rep (hv H)⟩
theorem dv (i : Nat) {x : Str} {pos : Pos} (hN : X.N[i]? = some x := by rfl) (hv : Vis X.env.scope x := by first | exact Or.inl rfl | exact Or.inr (Or.inl rfl) | exact Or.inr (Or.inr rfl)) (hd : (x == ("__debug__" : Str)) = false := by decide)
    (hcd : (x == ("__classdict__" : Str)) = false := by decide) : DE X (.Name x pos) (dVar i) := de_var (pe_var hN hv hd hcd)
theorem de_int {i : Int} {j pos} : DE X (.Constant (.int i) j pos) (dC (.int i)) := de_c pe_int fun _ => rfl
theorem de_bl {b : Bool} {j pos} : DE X (.Constant (.bool b) j pos) (dC (.bl b)) := de_c pe_bl fun _ => rfl
theorem de_non {j pos} : DE X (.Constant .none j pos) (dC .non) := de_c pe_non fun _ => rfl
theorem de_str {x : Str} {j pos} : DE X (.Constant (.str x) j pos) (dC (.str x)) := de_c pe_str fun _ => rfl
end

/-! ### operators -/
abbrev R2D := D → D → DH → DK → Prop
def Mono2 (r : R2D) : Prop := ∀ x y S (Q Q' : DK), (∀ d S', Q d S' → Q' d S') → r x y S Q → r x y S Q'
def upO (w : World) (K : PySem.W.Frag) (r : R2D) : R2 := fun x y H Q => ∃ d e S, Rep w K S H ∧ RD K H d x ∧ RD K H e y ∧ r d e S fun z S' => ∀ v H', LeH H H' → Rep w K S' H' → RD K H' z v → Q v H'
structure OpD (X : Cx) (f : Value → Value → Sem Value) (r : R2D) : Prop where
  mono : Mono2 r
  run : OpR X f (upO X.w X.K r)
theorem opR_imp {X : Cx} {f : Value → Value → Sem Value} {r r' : R2} (h : OpR X f r) (k : ∀ x y H Q, r' x y H Q → r x y H Q) : OpR X f r' := fun pins s σ H x y v u Q I rx ry q => h pins s σ H x y v u Q I rx ry (k _ _ _ _ q)
@[simp] def dOp (r : R2D) (ta tb : DTE) : DTE := fun E τ S Q => ta E τ S fun d S1 => tb E τ S1 fun e S2 => r d e S2 Q
section
variable {X : Cx} {a b : Expr} {ta tb : DTE} {pos : Pos} {r : R2D}
theorem dOp_mono {E E' : DW} {τ : DSt} {S : DH} {Q Q' : DK} (ma : DE X a ta) (mb : DE X b tb) (mr : Mono2 r) (he : ∀ C fs τ S, E C fs τ S → E' C fs τ S) (k : ∀ d S', Q d S' → Q' d S') (q : dOp r ta tb E τ S Q) : dOp r ta tb E' τ S Q' :=
  ma.mono _ _ _ _ _ _ he (fun _ _ h => mb.mono _ _ _ _ _ _ he (fun _ _ h => mr _ _ _ _ _ k h) h) q
theorem dOp_up {σ : St} {H : Hp} {Q : VK} (ha : DE X a ta) (hb : DE X b tb) (mr : Mono2 r) (h : upE X (dOp r ta tb) σ H Q) : tOp (upO X.w X.K r) (upE X ta) (upE X tb) σ H Q := by
  obtain ⟨E, τ, S, w, rl, q⟩ := h
  refine ha.to w rl q fun d S1 x H1 le1 w1 r1 rd q1 => ?_
  refine hb.to w1 r1 q1 fun e S2 y H2 le2 w2 r2 re q2 => ?_
  exact ⟨d, e, S2, r2.rep, rd.le le2, re, mr _ _ _ _ _ (fun z S' k v H' le rp rz => k v H' (le1.trans (le2.trans le)) rp rz) q2⟩
theorem de_op {op : Operator} (ho : OpD X (binaryOp op) r) (ha : DE X a ta) (hb : DE X b tb) : DE X (.BinOp a op b pos) (dOp r ta tb) :=
  ⟨fun _ _ _ _ _ _ he k q => dOp_mono ha hb ho.mono he k q, pE_imp (pe_op ho.run ha.run hb.run) fun _ _ _ h => dOp_up ha hb ho.mono h⟩
theorem de_cmp {op : CmpOp} (ho : OpD X (compareOp op) r) (ha : DE X a ta) (hb : DE X b tb) (hm : behindInMarks op b = false) : DE X (.Compare a [op] [b] pos) (dOp r ta tb) :=
  ⟨fun _ _ _ _ _ _ he k q => dOp_mono ha hb ho.mono he k q, pE_imp (pe_cmpR ho.run ha.run hb.run hm) fun _ _ _ h => dOp_up ha hb ho.mono h⟩
/-- a test: a value that is a truth -/
@[simp] def dTest (t : DTE) : DTT := fun E τ S Q => t E τ S fun d S' => match d with | .bl b => Q b S' | _ => False
theorem dTest_mono {e : Expr} {t : DTE} (m : DE X e t) (E E' : DW) (τ : DSt) (S : DH) (Q Q' : Bool → DH → Prop) (he : ∀ C fs τ S, E C fs τ S → E' C fs τ S) (k : ∀ d S', Q d S' → Q' d S') (q : dTest t E τ S Q) : dTest t E' τ S Q' :=
  m.mono _ _ _ _ _ _ he (fun d S' h => by
    cases d with
    | bl b => exact k _ _ h
    | _ => exact h) q
theorem dt_cmp {op : CmpOp} (ho : OpD X (compareOp op) r) (ha : DE X a ta) (hb : DE X b tb) (hm : behindInMarks op b = false) : DT X (.Compare a [op] [b] pos) (dTest (dOp r ta tb)) := by
  refine ⟨dTest_mono (de_cmp ho ha hb hm (pos := pos)), pT_imp (pt_cmpR ho.run ha.run hb.run hm) fun σ H Q ⟨E, τ, S, w, rl, q⟩ => ?_⟩
  refine dOp_up ha hb ho.mono ⟨E, τ, S, w, rl, dOp_mono ha hb ho.mono (fun _ _ _ _ z => z) (fun d S' h v H' le rp rd => ?_) q⟩
  cases d with
  | bl b => exact ⟨b, rd, h H' le rp⟩
  | _ => exact h.elim
theorem dt_val {e : Expr} {t : DTE} (h : DE X e t) (he : ∀ whole, isTrue e X.env whole = (do let v ← whole; standAt e.pos; holding [v] (truthy v)) := by intro _; rfl) : DT X e (dTest t) := by
  refine ⟨dTest_mono h, pT_imp (pt_val h.run he) fun σ H Q ⟨E, τ, S, w, rl, q⟩ => ?_⟩
  refine h.to w rl q fun d S' v H' le w' r' rd q' => ?_
  cases d with
  | bl b => exact ⟨b, rd, q' H' le r'.rep⟩
  | _ => exact q'.elim
end
end Dt
set_option maxRecDepth 100000
set_option maxHeartbeats 4000000
/-! Dat2: tests, statements, loops, comprehensions. -/
namespace Dt
open PySem PySem.Spec L2

/-! ### arguments -/
@[simp] def dNil : DTA := fun _ _ S Q => Q [] S
@[simp] def dCons (ta : DTE) (tr : DTA) : DTA := fun E τ S Q => ta E τ S fun d S1 => tr E τ S1 fun ds S2 => Q (d :: ds) S2
section
variable {X : Cx} {e : Expr} {es : List Expr} {te : DTE} {t : DTA} {pos : Pos}
theorem da_nil : DA X [] dNil := ⟨fun _ _ _ _ _ _ _ k q => k _ _ q, pA_imp pa_nil fun σ H Q ⟨E, τ, S, w, r, q⟩ => q [] H (LeH.refl H) r.rep .nil⟩
theorem da_cons (ha : DE X e te) (hr : DA X es t) (hs : starEach (e :: es) X.env = (false, eval e X.env) :: starEach es X.env := by rfl) : DA X (e :: es) (dCons te t) := by
  refine ⟨fun _ _ _ _ _ _ he k q => ha.mono _ _ _ _ _ _ he (fun _ _ h => hr.mono _ _ _ _ _ _ he (fun _ _ h => k _ _ h) h) q, pA_imp (pa_cons ha.run hr.run hs) fun σ H Q ⟨E, τ, S, w, r, q⟩ => ?_⟩
  refine ha.to w r q fun d S1 v H1 le1 w1 r1 rd q1 => ?_
  exact hr.to w1 r1 q1 fun ds S2 vs H2 le2 w2 r2 rds q2 => q2 (v :: vs) H2 (le1.trans le2) r2.rep (.cons (rd.le le2) rds)
end

/-! ### tests -/
section
variable {X : Cx} {a b : Expr} {rest : List Expr} {ta tb : DTT} {te : DTE} {pos : Pos}
@[simp] def dAnd (t u : DTT) : DTT := fun E τ S Q => t E τ S fun c S1 => if c = true then u E τ S1 Q else Q false S1
@[simp] def dOr (t u : DTT) : DTT := fun E τ S Q => t E τ S fun c S1 => if c = true then Q true S1 else u E τ S1 Q
@[simp] def dNot (t : DTT) : DTT := fun E τ S Q => t E τ S fun c S1 => Q (!c) S1
theorem DWt.pt (h : DWt X a ta) : DT X a ta := ⟨h.mono, h.run.pt⟩
theorem dw_and1 (ha : DT X a ta) : DWt X (.BoolOp .And [a] pos) ta := ⟨ha.mono, pw_and1 ha.run⟩
theorem dw_or1 (ha : DT X a ta) : DWt X (.BoolOp .Or [a] pos) ta := ⟨ha.mono, pw_or1 ha.run⟩
theorem dw_and (ha : DT X a ta) (hb : DWt X (.BoolOp .And (b :: rest) pos) tb) : DWt X (.BoolOp .And (a :: b :: rest) pos) (dAnd ta tb) := by
  refine ⟨fun E E' τ S Q Q' he k q => ha.mono _ _ _ _ _ _ he (fun c S1 h => ?_) q, pW_imp (pw_and ha.run hb.run) fun σ H Q ⟨E, τ, S, w, r, q⟩ => ?_⟩
  · split at h
    · rename_i hc
      rw [if_pos hc]
      exact hb.mono _ _ _ _ _ _ he k h
    · rename_i hc
      rw [if_neg hc]
      exact k _ _ h
  · refine ha.to w r q fun c S1 H1 le w1 r1 h => ?_
    cases c with
    | true => exact hb.to w1 r1 h fun b S2 H2 le2 _ r2 q2 => q2 H2 (le.trans le2) r2.rep
    | false => exact h H1 le r1.rep
theorem dw_or (ha : DT X a ta) (hb : DWt X (.BoolOp .Or (b :: rest) pos) tb) : DWt X (.BoolOp .Or (a :: b :: rest) pos) (dOr ta tb) := by
  refine ⟨fun E E' τ S Q Q' he k q => ha.mono _ _ _ _ _ _ he (fun c S1 h => ?_) q, pW_imp (pw_or ha.run hb.run) fun σ H Q ⟨E, τ, S, w, r, q⟩ => ?_⟩
  · split at h
    · rename_i hc
      rw [if_pos hc]
      exact k _ _ h
    · rename_i hc
      rw [if_neg hc]
      exact hb.mono _ _ _ _ _ _ he k h
  · refine ha.to w r q fun c S1 H1 le w1 r1 h => ?_
    cases c with
    | true => exact h H1 le r1.rep
    | false => exact hb.to w1 r1 h fun b S2 H2 le2 _ r2 q2 => q2 H2 (le.trans le2) r2.rep
theorem dt_not (ha : DT X a ta) : DT X (.UnaryOp .Not a pos) (dNot ta) :=
  ⟨fun _ _ _ _ _ _ he k q => ha.mono _ _ _ _ _ _ he (fun _ _ h => k _ _ h) q, pT_imp (pt_not ha.run) fun σ H Q ⟨E, τ, S, w, r, q⟩ => ha.to w r q fun c S1 H1 le w1 r1 h => h H1 le r1.rep⟩
/-- and, or, not as values, of truths -/
def dBV (t : DTE) (k : Bool → DH → DK → Prop) : DTE := fun E τ S Q => t E τ S fun d S1 => match d with | .bl c => k c S1 Q | _ => False
@[simp] def dAndV (ta tb : DTE) : DTE := fun E τ S Q => ta E τ S fun d S1 => match d with | .bl c => (if c = true then tb E τ S1 Q else Q (.bl false) S1) | _ => False
@[simp] def dOrV (ta tb : DTE) : DTE := fun E τ S Q => ta E τ S fun d S1 => match d with | .bl c => (if c = true then Q (.bl true) S1 else tb E τ S1 Q) | _ => False
@[simp] def dNotV (ta : DTE) : DTE := fun E τ S Q => ta E τ S fun d S1 => match d with | .bl c => Q (.bl (!c)) S1 | _ => False
variable {va vb : DTE}
theorem de_one {op} (h : DE X a te) : DE X (.BoolOp op [a] pos) te := ⟨h.mono, pe_one h.run⟩
theorem de_and (ha : DE X a va) (hb : DE X (.BoolOp .And (b :: rest) pos) vb) : DE X (.BoolOp .And (a :: b :: rest) pos) (dAndV va vb) := by
  refine ⟨fun E E' τ S Q Q' he k q => ha.mono _ _ _ _ _ _ he (fun d S1 h => ?_) q, pE_imp (pe_and ha.run hb.run) fun σ H Q ⟨E, τ, S, w, r, q⟩ => ?_⟩
  · cases d with
    | bl c =>
      cases c with
      | true => exact hb.mono _ _ _ _ _ _ he k h
      | false => exact k _ _ h
    | _ => exact h
  · refine ha.to w r q fun d S1 v H1 le w1 r1 rd h => ?_
    cases d with
    | bl c =>
      refine ⟨c, rd, ?_⟩
      cases c with
      | true => exact hb.to w1 r1 h fun z S2 u H2 le2 _ r2 rz q2 => q2 u H2 (le.trans le2) r2.rep rz
      | false => exact h _ H1 le r1.rep rfl
    | _ => exact h.elim
theorem de_not (ha : DE X a va) : DE X (.UnaryOp .Not a pos) (dNotV va) := by
  refine ⟨fun E E' τ S Q Q' he k q => ha.mono _ _ _ _ _ _ he (fun d S1 h => ?_) q, pE_imp (pe_not ha.run) fun σ H Q ⟨E, τ, S, w, r, q⟩ => ?_⟩
  · cases d with
    | bl c => exact k _ _ h
    | _ => exact h
  · refine ha.to w r q fun d S1 v H1 le w1 r1 rd h => ?_
    cases d with
    | bl c => exact ⟨c, rd, h _ H1 le r1.rep rfl⟩
    | _ => exact h.elim
@[simp] def dIfE (t : DTT) (ta tb : DTE) : DTE := fun E τ S Q => t E τ S fun c S1 => if c = true then ta E τ S1 Q else tb E τ S1 Q
end

/-! ### statements -/
structure DEnds where
  nx : DSt → DH → Prop
  rt : DK
  bk : DSt → DH → Prop := fun _ _ => False
  ct : DSt → DH → Prop := fun _ _ => False
  xe : DW := fun _ _ _ _ => False
abbrev DTS := DEnds → DSt → DH → Prop
structure DEnds.Le (A B : DEnds) : Prop where
  nx : ∀ τ S, A.nx τ S → B.nx τ S
  rt : ∀ d S, A.rt d S → B.rt d S
  bk : ∀ τ S, A.bk τ S → B.bk τ S
  ct : ∀ τ S, A.ct τ S → B.ct τ S
  xe : ∀ C fs τ S, A.xe C fs τ S → B.xe C fs τ S
def dnE (w : World) (K : PySem.W.Frag) (H : Hp) (D : Ends) (E : DW) : DEnds where
  nx := fun τ S => ∀ σ H', LeH H H' → Rel w K τ S σ H' → D.nx σ H'
  rt := fun d S => ∀ v H', LeH H H' → Rep w K S H' → RD K H' d v → D.rt v H'
  bk := fun τ S => ∀ σ H', LeH H H' → Rel w K τ S σ H' → D.bk σ H'
  ct := fun τ S => ∀ σ H', LeH H H' → Rel w K τ S σ H' → D.ct σ H'
  xe := E
def upS (X : Cx) (t : DTS) : TS := fun D σ H => ∃ E τ S, Wish X E H ∧ Rel X.w X.K τ S σ H ∧ t (dnE X.w X.K H D E) τ S
structure DS (X : Cx) (st : Stmt) (t : DTS) : Prop where
  mono : ∀ A B τ S, DEnds.Le A B → t A τ S → t B τ S
  run : PS X st (upS X t)
structure DSs (X : Cx) (st : List Stmt) (t : DTS) : Prop where
  mono : ∀ A B τ S, DEnds.Le A B → t A τ S → t B τ S
  run : PSs X st (upS X t)
section
variable {X : Cx} {st : Stmt} {sts : List Stmt} {t u : DTS} {E : DW} {τ : DSt} {S : DH} {σ : St} {H : Hp} {pos : Pos}
theorem dn_le {w : World} {K : PySem.W.Frag} {D : Ends} {H H' : Hp} (le : LeH H H') : DEnds.Le (dnE w K H D E) (dnE w K H' D E) :=
  ⟨fun τ S h σ H2 l => h σ H2 (le.trans l), fun d S h v H2 l => h v H2 (le.trans l), fun τ S h σ H2 l => h σ H2 (le.trans l), fun τ S h σ H2 l => h σ H2 (le.trans l), fun _ _ _ _ h => h⟩
theorem DS.to (h : DS X st t) {A : DEnds} {D : Ends} (w : Wish X E H) (r : Rel X.w X.K τ S σ H) (q : t A τ S) (k : DEnds.Le A (dnE X.w X.K H D E)) : upS X t D σ H := ⟨E, τ, S, w, r, h.mono _ _ _ _ k q⟩
theorem DSs.to (h : DSs X sts t) {A : DEnds} {D : Ends} (w : Wish X E H) (r : Rel X.w X.K τ S σ H) (q : t A τ S) (k : DEnds.Le A (dnE X.w X.K H D E)) : upS X t D σ H := ⟨E, τ, S, w, r, h.mono _ _ _ _ k q⟩
@[simp] def dNx : DTS := fun A τ S => A.nx τ S
@[simp] def dSeq (t u : DTS) : DTS := fun A τ S => t { A with nx := u A } τ S
theorem dss_nil : DSs X [] dNx := ⟨fun _ _ _ _ le q => le.nx _ _ q, pSs_imp pss_nil fun D σ H ⟨E, τ, S, w, r, q⟩ => q σ H (LeH.refl H) r⟩
theorem dss_one (h : DS X st t) : DSs X [st] t := ⟨h.mono, pss_one h.run⟩
theorem dss_cons (h1 : DS X st t) (h2 : DSs X sts u) : DSs X (st :: sts) (dSeq t u) := by
  refine ⟨fun A B τ S le q => h1.mono { A with nx := u A } { B with nx := u B } _ _ ⟨fun τ S z => h2.mono _ _ _ _ le z, le.rt, le.bk, le.ct, le.xe⟩ q, pSs_imp (pss_cons h1.run h2.run) fun D σ H ⟨E, τ, S, w, r, q⟩ => ?_⟩
  exact h1.to w r q ⟨fun τ' S' z σ' H' le r' => h2.to (w.le le) r' z (dn_le le), fun _ _ z => z, fun _ _ z => z, fun _ _ z => z, fun _ _ _ _ z => z⟩
@[simp] def dBk : DTS := fun A τ S => A.bk τ S
@[simp] def dCt : DTS := fun A τ S => A.ct τ S
def dNever : DTS := fun _ _ _ => False
variable {e c : Expr} {te : DTE} {tc : DTT} {as bs : List Stmt}
@[simp] def dDrop (te : DTE) : DTS := fun A τ S => te A.xe τ S fun _ S' => A.nx τ S'
theorem ds_expr (h : DE X e te) (hs : swapsWith e none pos.line X.env = pure false := by rfl) : DS X (.Expr e pos) (dDrop te) :=
  ⟨fun _ _ _ _ le q => h.mono _ _ _ _ _ _ le.xe (fun _ _ z => le.nx _ _ z) q, pS_imp (ps_expr h.run hs) fun D σ H ⟨E, τ, S, w, r, q⟩ => h.to w r q fun d S' v H' le w' r' rd z => z σ H' le r'⟩
@[simp] def dRet (te : DTE) : DTS := fun A τ S => te A.xe τ S A.rt
theorem ds_ret (h : DE X e te) : DS X (.Return (some e) pos) (dRet te) :=
  ⟨fun _ _ _ _ le q => h.mono _ _ _ _ _ _ le.xe le.rt q, pS_imp (ps_ret h.run) fun D σ H ⟨E, τ, S, w, r, q⟩ => h.to w r q fun d S' v H' le w' r' rd z => z v H' le r'.rep rd⟩
@[simp] def dRetN : DTS := fun A _ S => A.rt .non S
@[simp] def dIf (tc : DTT) (t u : DTS) : DTS := fun A τ S => tc A.xe τ S fun b S' => if b = true then t A τ S' else u A τ S'
theorem ds_if (hc : DT X c tc) (ha : DSs X as t) (hb : DSs X bs u) : DS X (.If c as bs pos) (dIf tc t u) := by
  refine ⟨fun A B τ S le q => hc.mono _ _ _ _ _ _ le.xe (fun b S' z => ?_) q, pS_imp (ps_if hc.run ha.run hb.run) fun D σ H ⟨E, τ, S, w, r, q⟩ => ?_⟩
  · cases b with
    | true => exact ha.mono _ _ _ _ le z
    | false => exact hb.mono _ _ _ _ le z
  · refine hc.to w r q fun b S' H' le w' r' z => ?_
    cases b with
    | true => exact ha.to w' r' z (dn_le le)
    | false => exact hb.to w' r' z (dn_le le)
end

/-! ### targets -/
abbrev DTG := D → DSt → DH → (DSt → DH → Prop) → Prop
abbrev DTGs := List D → DSt → DH → (DSt → DH → Prop) → Prop
def upG (X : Cx) (t : DTG) : TG := fun v σ H Q => ∃ d τ S, Rel X.w X.K τ S σ H ∧ RD X.K H d v ∧ t d τ S fun τ' S' => ∀ σ' H', LeH H H' → Rel X.w X.K τ' S' σ' H' → Q σ' H'
def upGs (X : Cx) (t : DTGs) : TGs := fun vs σ H Q => ∃ ds τ S, Rel X.w X.K τ S σ H ∧ RDs X.K H ds vs ∧ t ds τ S fun τ' S' => ∀ σ' H', LeH H H' → Rel X.w X.K τ' S' σ' H' → Q σ' H'
structure DG (X : Cx) (tg : Expr) (t : DTG) : Prop where
  mono : ∀ d τ S (Q Q' : DSt → DH → Prop), (∀ τ S, Q τ S → Q' τ S) → t d τ S Q → t d τ S Q'
  run : PG X tg (upG X t)
structure DGs (X : Cx) (tg : List Expr) (t : DTGs) : Prop where
  mono : ∀ d τ S (Q Q' : DSt → DH → Prop), (∀ τ S, Q τ S → Q' τ S) → t d τ S Q → t d τ S Q'
  run : PGs X tg (upGs X t)
theorem pG_imp {X : Cx} {e : Expr} {t t' : TG} (h : PG X e t) (k : ∀ v σ H Q, t' v σ H Q → t v σ H Q) : PG X e t' := ⟨fun pins s σ H v u Q I r q => h.run pins s σ H v u Q I r (k v σ H Q q)⟩
theorem pGs_imp {X : Cx} {e : List Expr} {t t' : TGs} (h : PGs X e t) (k : ∀ v σ H Q, t' v σ H Q → t v σ H Q) : PGs X e t' := ⟨fun pins s σ H v u Q I r q => h.run pins s σ H v u Q I r (k v σ H Q q)⟩
section
variable {X : Cx} {tg e : Expr} {tgs : List Expr} {t : DTG} {ts : DTGs} {te : DTE} {pos : Pos}
theorem DG.to (h : DG X tg t) {d : D} {v : V} {τ : DSt} {S : DH} {σ : St} {H : Hp} {Q0 : DSt → DH → Prop} {Q : St → Hp → Prop} (r : Rel X.w X.K τ S σ H) (rd : RD X.K H d v) (q : t d τ S Q0) (k : ∀ τ' S' σ' H', LeH H H' → Rel X.w X.K τ' S' σ' H' → Q0 τ' S' → Q σ' H') : upG X t v σ H Q :=
  ⟨d, τ, S, r, rd, h.mono _ _ _ _ _ (fun τ' S' z σ' H' le r' => k _ _ _ _ le r' z) q⟩
@[simp] def dGN (i : Nat) : DTG := fun d τ S Q => Q (τ.set i (some d)) S
theorem dg_name {i : Nat} {x : Str} (hN : X.N.Nodup) (hi : X.N[i]? = some x) (hx : Loc X.env.scope x) (hf : X.fn x = true ∨ X.env.scope.names.lookup x = some .local := by first | exact .inl rfl | exact .inr rfl | assumption) : DG X (.Name x pos) (dGN i) :=
  ⟨fun _ _ _ _ _ k q => k _ _ q, pG_imp (pg_name hN hi hx hf) fun v σ H Q ⟨d, τ, S, r, rd, q⟩ => q _ _ (LeH.refl H) ⟨r.st.set i rd, r.rep⟩⟩
@[simp] def dGNil : DTGs := fun ds τ S Q => match ds with | [] => Q τ S | _ => False
@[simp] def dGCons (t : DTG) (u : DTGs) : DTGs := fun ds τ S Q => match ds with | d :: r => t d τ S fun τ' S' => u r τ' S' Q | _ => False
theorem dgs_nil : DGs X [] dGNil := by
  refine ⟨fun ds _ _ _ _ k q => ?_, pGs_imp pgs_nil fun vs σ H Q ⟨ds, τ, S, r, rd, q⟩ => ?_⟩
  · cases ds with
    | nil => exact k _ _ q
    | cons _ _ => exact q
  · cases ds with
    | nil => exact ⟨rd, q σ H (LeH.refl H) r⟩
    | cons _ _ => exact q.elim
theorem dgs_cons (h1 : DG X tg t) (h2 : DGs X tgs ts) (hs : (assignEach (tg :: tgs) X.env).map (·.2) = assign tg X.env :: (assignEach tgs X.env).map (·.2) := by rfl) : DGs X (tg :: tgs) (dGCons t ts) := by
  refine ⟨fun ds _ _ _ _ k q => ?_, pGs_imp (pgs_cons h1.run h2.run hs) fun vs σ H Q ⟨ds, τ, S, r, rd, q⟩ => ?_⟩
  · cases ds with
    | nil => exact q
    | cons d r => exact h1.mono _ _ _ _ _ (fun _ _ z => h2.mono _ _ _ _ _ k z) q
  · cases ds with
    | nil => exact q.elim
    | cons d ds =>
      obtain ⟨v, s, rfl, rd1, rd2⟩ := rd
      refine ⟨v, s, rfl, h1.to r rd1 q fun τ' S' σ' H' le r' z => ?_⟩
      exact ⟨ds, τ', S', r', rd2.le le, h2.mono _ _ _ _ _ (fun τ2 S2 z2 σ2 H2 le2 r2 => z2 σ2 H2 (le.trans le2) r2) z⟩
@[simp] def dGTup (n : Nat) (t : DTGs) : DTG := fun d τ S Q => match d with | .tup ds => ds.length = n ∧ t ds τ S Q | _ => False
theorem dg_tup {es : List Expr} {k : Nat} {n : Nat} (hc : X.calm = true) (h : DGs X es ts) (hn : (assignEach es X.env).length = n := by rfl) (hst : (assignEach es X.env).findIdx? (·.1) = none := by rfl) : DG X (.Tuple es k pos) (dGTup n ts) := by
  refine ⟨fun d _ _ _ _ k q => ?_, pG_imp (pg_tup hc h.run hn hst) fun v σ H Q ⟨d, τ, S, r, rd, q⟩ => ?_⟩
  · cases d with
    | tup ds => exact ⟨q.1, h.mono _ _ _ _ _ k q.2⟩
    | _ => exact q
  · cases d with
    | tup ds =>
      obtain ⟨p, xs, rfl, sq, rds⟩ : ∃ p xs, v = V.ref p ∧ SqT X.K H p xs ∧ RDs X.K H ds xs := rd
      exact ⟨p, xs, rfl, sq, by rw [← rds.length]; exact q.1, ds, τ, S, r, rds, q.2⟩
    | _ => exact q.elim
@[simp] def dAsg (te : DTE) (t : DTG) : DTS := fun A τ S => te A.xe τ S fun d S' => t d τ S' A.nx
theorem ds_asg (he : DE X e te) (hg : DG X tg t) (hs : swapsWithSole [tg] e pos.line X.env = pure false := by rfl) (hw : swappedStores [tg] e X.env = pure none := by rfl) (h1 : (assignEach [tg] X.env).map (·.2) = [assign tg X.env] := by rfl) : DS X (.Assign [tg] e pos) (dAsg te t) := by
  refine ⟨fun A B τ S le q => he.mono _ _ _ _ _ _ le.xe (fun _ _ z => hg.mono _ _ _ _ _ le.nx z) q, pS_imp (ps_asg he.run hg.run hs hw h1) fun D σ H ⟨E, τ, S, w, r, q⟩ => ?_⟩
  exact he.to w r q fun d S' v H' le w' r' rd z => hg.to r' rd z fun τ2 S2 σ2 H2 le2 r2 z2 => z2 σ2 H2 (le.trans le2) r2
theorem ds_set {i : Nat} {x : Str} {pos' : Pos} (hN : X.N.Nodup) (hi : X.N[i]? = some x) (hx : Loc X.env.scope x) (he : DE X e te) (hs : swapsWith e (some (.Name x pos')) pos.line X.env = pure false := by rfl)
    (hf : X.fn x = true ∨ X.env.scope.names.lookup x = some .local := by first | exact .inl rfl | exact .inr rfl | assumption) : DS X (.Assign [.Name x pos'] e pos) (dAsg te (dGN i)) := by
  refine ⟨fun A B τ S le q => he.mono _ _ _ _ _ _ le.xe (fun _ _ z => le.nx _ _ z) q, pS_imp (ps_set hN hi hx he.run hs hf) fun D σ H ⟨E, τ, S, w, r, q⟩ => ?_⟩
  exact he.to w r q fun d S' v H' le w' r' rd z => z _ H' le ⟨r'.st.set i rd, r'.rep⟩
end

/-! ### while -/
def dWh (c : DTT) (tb : DTS) (A : DEnds) : Nat → DSt → DH → Prop
  | 0, _, _ => False
  | n + 1, τ, S => c A.xe τ S fun b S' => if b = true then tb { A with nx := dWh c tb A n, ct := dWh c tb A n, bk := A.nx } τ S' else A.nx τ S'
def dWhile (c : DTT) (tb : DTS) : DTS := fun A τ S => ∃ n, dWh c tb A n τ S
section
variable {X : Cx} {c : Expr} {body : List Stmt} {tc : DTT} {tb : DTS} {pos : Pos}
theorem dWh_mono (hc : DT X c tc) (hb : DSs X body tb) {A B : DEnds} (le : DEnds.Le A B) : ∀ (n : Nat) (τ : DSt) (S : DH), dWh tc tb A n τ S → dWh tc tb B n τ S
  | 0, _, _, q => q
  | n + 1, τ, S, q => hc.mono _ _ _ _ _ _ le.xe (fun b S' z => by
      cases b with
      | true => exact hb.mono { A with nx := dWh tc tb A n, ct := dWh tc tb A n, bk := A.nx } { B with nx := dWh tc tb B n, ct := dWh tc tb B n, bk := B.nx } _ _ ⟨fun τ S w => dWh_mono hc hb le n τ S w, le.rt, le.nx, fun τ S w => dWh_mono hc hb le n τ S w, le.xe⟩ z
      | false => exact le.nx _ _ z) q
theorem ds_while (hp : PassesOwn (model X.prog X.w) X.A X.env X.xe) (hc : DT X c tc) (hb : DSs X body tb) : DS X (.While c body [] pos) (dWhile tc tb) := by
  refine ⟨fun A B τ S le ⟨n, q⟩ => ⟨n, dWh_mono hc hb le n τ S q⟩, pS_imp (ps_while hp hc.run hb.run) fun D σ H ⟨E, τ, S, w, r, n, q⟩ => ?_⟩
  refine ⟨fun m σ' H' => LeH H H' ∧ ∃ τ' S', Rel X.w X.K τ' S' σ' H' ∧ dWh tc tb (dnE X.w X.K H D E) m τ' S', ⟨n, LeH.refl H, τ, S, r, q⟩, ?_⟩
  rintro m σ1 H1 ⟨le1, τ1, S1, r1, q1⟩
  cases m with
  | zero => exact q1.elim
  | succ m =>
    refine hc.to (w.le le1) r1 q1 fun b S2 H2 le2 w2 r2 z => ?_
    cases b with
    | false => exact z σ1 H2 (le1.trans le2) r2
    | true =>
      rw [if_pos rfl]
      have again : ∀ τ3 S3, dWh tc tb (dnE X.w X.K H D E) m τ3 S3 → ∀ σ3 H3, LeH H2 H3 → Rel X.w X.K τ3 S3 σ3 H3 → LeH H H3 ∧ ∃ τ' S', Rel X.w X.K τ' S' σ3 H3 ∧ dWh tc tb (dnE X.w X.K H D E) m τ' S' :=
        fun τ3 S3 y σ3 H3 le3 r3 => ⟨le1.trans (le2.trans le3), τ3, S3, r3, y⟩
      refine ⟨fun σ3 H3 => LeH H H3 ∧ ∃ τ' S', Rel X.w X.K τ' S' σ3 H3 ∧ dWh tc tb (dnE X.w X.K H D E) m τ' S', fun σ3 H3 y => ⟨m, Nat.lt_succ_self m, y⟩, hb.to w2 r2 z ⟨again, ?_, ?_, again, fun _ _ _ _ y => y⟩⟩
      · exact fun d S3 y v H3 le3 r3 rd => y v H3 (le1.trans (le2.trans le3)) r3 rd
      · exact fun τ3 S3 y σ3 H3 le3 r3 => y σ3 H3 (le1.trans (le2.trans le3)) r3
end

/-! ### what is walked -/
structure Feeds (w : World) (K : PySem.W.Frag) (H0 : Hp) (J : It) (G : DH → Prop) (ds : List D) : Prop where
  go : ∀ i S H, LeH H0 H → Rep w K S H → G S → i < ds.length → J.go i H
  yld : ∀ i S H x H', LeH H0 H → Rep w K S H → G S → i < ds.length → J.yld i H x H' → LeH H H' ∧ Rep w K S H' ∧ ∃ d, ds[i]? = some d ∧ RD K H' d x
  stop : ∀ S H, LeH H0 H → Rep w K S H → G S → J.stop ds.length H
abbrev DTI := DW → DSt → DH → ((DH → Prop) → List D → DH → Prop) → Prop
def upI (X : Cx) (ti : DTI) : TI := fun σ H R => ∃ E τ S, Wish X E H ∧ Rel X.w X.K τ S σ H ∧ ti E τ S fun G ds S' => ∀ J H', LeH H H' → Rep X.w X.K S' H' → Feeds X.w X.K H' J G ds → R J H'
structure DI (X : Cx) (tg iter : Expr) (ti : DTI) : Prop where
  mono : ∀ (E E' : DW) τ S (Q Q' : (DH → Prop) → List D → DH → Prop), (∀ C fs τ S, E C fs τ S → E' C fs τ S) → (∀ G d S', Q G d S' → Q' G d S') → ti E τ S Q → ti E' τ S Q'
  run : PI X tg iter (upI X ti)
theorem pI_imp {X : Cx} {tg e : Expr} {t t' : TI} (h : PI X tg e t) (k : ∀ σ H R, t' σ H R → t σ H R) : PI X tg e t' := ⟨fun pins s σ H R I q => h.run pins s σ H R I (k σ H R q)⟩
@[simp] def dLoop (g : DTG) (tb : DTS) (A : DEnds) (G : DH → Prop) : List D → DSt → DH → Prop
  | [], τ, S => G S ∧ A.nx τ S
  | d :: ds, τ, S => G S ∧ g d τ S fun τ1 S1 => tb { A with nx := dLoop g tb A G ds, ct := dLoop g tb A G ds, bk := A.nx } τ1 S1
@[simp] def dFor (ti : DTI) (g : DTG) (tb : DTS) : DTS := fun A τ S => ti A.xe τ S fun G ds S' => dLoop g tb A G ds τ S'
section
variable {X : Cx} {tg iter : Expr} {body : List Stmt} {ti : DTI} {g : DTG} {tb : DTS} {pos : Pos}
theorem DI.to (h : DI X tg iter ti) {E : DW} {τ : DSt} {S : DH} {σ : St} {H : Hp} {Q0 : (DH → Prop) → List D → DH → Prop} {R : It → Hp → Prop} (w : Wish X E H) (r : Rel X.w X.K τ S σ H) (q : ti E τ S Q0)
    (k : ∀ G ds S' J H', LeH H H' → Wish X E H' → Rel X.w X.K τ S' σ H' → Feeds X.w X.K H' J G ds → Q0 G ds S' → R J H') : upI X ti σ H R :=
  ⟨E, τ, S, w, r, h.mono _ _ _ _ _ _ (fun _ _ _ _ z => z) (fun G ds S' z J H' le rp f => k G ds S' J H' le (w.le le) (r.le le rp) f z) q⟩
theorem dLoop_mono (hg : DG X tg g) (hb : DSs X body tb) {A B : DEnds} (le : DEnds.Le A B) {G : DH → Prop} : ∀ (ds : List D) (τ : DSt) (S : DH), dLoop g tb A G ds τ S → dLoop g tb B G ds τ S
  | [], _, _, q => ⟨q.1, le.nx _ _ q.2⟩
  | d :: ds, τ, S, q => ⟨q.1, hg.mono _ _ _ _ _ (fun τ1 S1 z => hb.mono { A with nx := dLoop g tb A G ds, ct := dLoop g tb A G ds, bk := A.nx } { B with nx := dLoop g tb B G ds, ct := dLoop g tb B G ds, bk := B.nx } _ _ ⟨fun τ S w => dLoop_mono hg hb le ds τ S w, le.rt, le.nx, fun τ S w => dLoop_mono hg hb le ds τ S w, le.xe⟩ z) q.2⟩
theorem drop_at {α : Type} {ds : List α} {i : Nat} {d : α} (h : ds[i]? = some d) : ds.drop i = d :: ds.drop (i + 1) := by
  obtain ⟨hi, e⟩ := List.getElem?_eq_some_iff.mp h
  rw [List.drop_eq_getElem_cons hi, e]
theorem ds_for (hp : PassesOwn (model X.prog X.w) X.A X.env X.xe) (hc : X.calm = true) (hi : DI X tg iter ti) (hg : DG X tg g) (hb : DSs X body tb) (hs : ∀ x, foldedSetIterable iter X.env x = pure x := by intro _; rfl) :
    DS X (.For tg iter body [] pos) (dFor ti g tb) := by
  refine ⟨fun A B τ S le q => hi.mono _ _ _ _ _ _ le.xe (fun G ds S' z => dLoop_mono hg hb le ds τ S' z) q, pS_imp (ps_for hp hc hi.run hg.run hb.run hs) fun D σ H ⟨E, τ, S, w, r, q⟩ => ?_⟩
  refine hi.to w r q fun G ds S0 J H0 le0 w0 r0 f z => ?_
  refine ⟨fun i m σ' H' => m = ds.length - i ∧ i ≤ ds.length ∧ LeH H0 H' ∧ ∃ τ' S', Rel X.w X.K τ' S' σ' H' ∧ dLoop g tb (dnE X.w X.K H D E) G (ds.drop i) τ' S', ⟨ds.length, by omega, Nat.zero_le _, LeH.refl H0, τ, S0, r0, z⟩, ?_⟩
  rintro i m σ1 H1 ⟨rfl, hle, le1, τ1, S1, r1, q1⟩
  by_cases hlt : i < ds.length
  · have e0 : ds[i]? = some ds[i] := List.getElem?_eq_getElem hlt
    rw [drop_at e0] at q1
    obtain ⟨hG, q1⟩ := q1
    refine .inr ⟨f.go i S1 H1 le1 r1.rep hG hlt, fun σ2 H2 => LeH H0 H2 ∧ ∃ τ' S', Rel X.w X.K τ' S' σ2 H2 ∧ dLoop g tb (dnE X.w X.K H D E) G (ds.drop (i + 1)) τ' S', fun σ2 H2 ⟨l, y⟩ => ⟨ds.length - (i + 1), by omega, rfl, hlt, l, y⟩, fun x H2 hy => ?_⟩
    obtain ⟨le2, rp2, d, ed, rd⟩ := f.yld i S1 H1 x H2 le1 r1.rep hG hlt hy
    rw [e0] at ed
    cases ed
    refine hg.to (r1.le le2 rp2) rd q1 fun τ3 S3 σ3 H3 le3 r3 q3 => ?_
    have l03 := le1.trans (le2.trans le3)
    refine hb.to (w0.le l03) r3 q3 ⟨?_, ?_, ?_, ?_, fun _ _ _ _ y => y⟩
    · exact fun τ4 S4 y σ4 H4 le4 r4 => ⟨l03.trans le4, τ4, S4, r4, y⟩
    · exact fun d S4 y v H4 le4 r4 rd => y v H4 (le0.trans (l03.trans le4)) r4 rd
    · exact fun τ4 S4 y σ4 H4 le4 r4 => y σ4 H4 (le0.trans (l03.trans le4)) r4
    · exact fun τ4 S4 y σ4 H4 le4 r4 => ⟨l03.trans le4, τ4, S4, r4, y⟩
  · have e : i = ds.length := by omega
    subst e
    rw [List.drop_length] at q1
    exact .inl ⟨f.stop S1 H1 le1 r1.rep q1.1, q1.2 σ1 H1 (le0.trans le1) r1⟩
end
/-! ### comprehensions -/
@[simp] def wipeD (τ : DSt) : List Nat → DSt
  | [] => τ
  | v :: vs => (wipeD τ vs).set v none
theorem RSt.wipe {K : PySem.W.Frag} {H : Hp} {τ : DSt} {σ : St} (r : RSt K H τ σ) : ∀ vs : List Nat, RSt K H (wipeD τ vs) (L2.wipe σ vs)
  | [] => r
  | v :: vs => by
    have q := RSt.wipe r vs
    refine ⟨by simp only [wipeD, L2.wipe, List.length_set]; exact q.len, fun i d e => ?_⟩
    simp only [wipeD, L2.wipe, List.getElem?_set] at e ⊢
    by_cases z : v = i
    · rw [if_pos z] at e
      split at e <;> cases e
    · rw [if_neg z] at e
      rw [if_neg z]
      exact q.get i d e
@[simp] def dLcL (g : DTG) (tt : DTT) (te : DTE) (E : DW) (τ : DSt) (G : DH → Prop) (p : Addr) (Q : DH → Prop) : List D → DH → Prop
  | [], S => G S ∧ Q S
  | d :: ds, S => G S ∧ g d τ S fun τ1 S1 => tt E τ1 S1 fun b S2 => if b = true then te E τ1 S2 fun y S3 => (match S3 p with | some (.lst acc) => acc.length < sizeLine ∧ dLcL g tt te E τ G p Q ds (upo S3 p (.lst (acc ++ [y]))) | _ => False) else dLcL g tt te E τ G p Q ds S2
@[simp] def dLc (ti : DTI) (g : DTG) (tt : DTT) (te : DTE) (vs : List Nat) : DTE := fun E τ S Q => ti E τ S fun G ds S' => newO S' (.lst []) fun p S1 => dLcL g tt te DW0 (wipeD τ vs) G p (Q (.ref p)) ds S1
structure DTs (X : Cx) (ifs : List Expr) (t : DTT) : Prop where
  mono : ∀ (E E' : DW) τ S (Q Q' : Bool → DH → Prop), (∀ C fs τ S, E C fs τ S → E' C fs τ S) → (∀ d S', Q d S' → Q' d S') → t E τ S Q → t E' τ S Q'
  run : PTs X ifs (upT X t)
@[simp] def dYes : DTT := fun _ _ S Q => Q true S
section
variable {X : Cx} {c : Expr} {t : DTT}
theorem pTs_imp {ifs : List Expr} {t t' : TT} (h : PTs X ifs t) (k : ∀ σ H Q, t' σ H Q → t σ H Q) : PTs X ifs t' := ⟨fun pins s σ H Q I q => h.run pins s σ H Q I (k σ H Q q)⟩
theorem dts_nil : DTs X [] dYes := ⟨fun _ _ _ _ _ _ _ k q => k _ _ q, pTs_imp pts_nil fun σ H Q ⟨E, τ, S, w, r, q⟩ => q H (LeH.refl H) r.rep⟩
theorem dts_one (h : DT X c t) : DTs X [c] t := ⟨h.mono, pts_one h.run⟩
end
def upT0 (w : World) (K : PySem.W.Frag) (t : DTT) : TT := fun σ H Q => ∃ τ S, Rel w K τ S σ H ∧ t DW0 τ S fun b S' => ∀ H', LeH H H' → Rep w K S' H' → Q b H'
def upE0 (w : World) (K : PySem.W.Frag) (t : DTE) : TE := fun σ H Q => ∃ τ S, Rel w K τ S σ H ∧ t DW0 τ S fun d S' => ∀ v H', LeH H H' → Rep w K S' H' → RD K H' d v → Q v H'
theorem DTs.zero {X : Cx} {ifs : List Expr} {t : DTT} (h : DTs X ifs t) : PTs X ifs (upT0 X.w X.K t) := pTs_imp h.run fun σ H Q ⟨τ, S, r, q⟩ => ⟨DW0, τ, S, wish0, r, q⟩
theorem DE.zero {X : Cx} {e : Expr} {t : DTE} (h : DE X e t) : PE X e (upE0 X.w X.K t) := pE_imp h.run fun σ H Q ⟨τ, S, r, q⟩ => ⟨DW0, τ, S, wish0, r, q⟩
theorem wipe_get (σ : L2.St) (j : Nat) : ∀ vs : List Nat, (L2.wipe σ vs)[j]? = if j ∈ vs then σ[j]?.map (fun _ => none) else σ[j]?
  | [] => by simp [L2.wipe]
  | v :: vs => by
    rw [L2.wipe, List.getElem?_set, L2.wipe_length, wipe_get σ j vs]
    by_cases e : v = j
    · subst e
      by_cases l : v < σ.length
      · simp [l]
      · simp [l]
    · have e' : ¬ j = v := fun z => e z.symm
      rw [if_neg e]
      by_cases m : j ∈ vs
      · simp [m]
      · simp [m, e']
theorem wipe_set {σ : L2.St} {i : Nat} {x : Option V} {vs : List Nat} (h : i ∈ vs) : L2.wipe (σ.set i x) vs = L2.wipe σ vs := by
  refine List.ext_getElem? fun j => ?_
  rw [wipe_get, wipe_get, List.getElem?_set]
  by_cases e : i = j
  · subst e
    rw [if_pos h, if_pos h, if_pos rfl]
    by_cases l : i < σ.length
    · simp [l]
    · simp [l]
  · rw [if_neg e]
theorem wipe_wipe (σ : L2.St) (vs : List Nat) : L2.wipe (L2.wipe σ vs) vs = L2.wipe σ vs := by
  refine List.ext_getElem? fun j => ?_
  rw [wipe_get, wipe_get]
  by_cases m : j ∈ vs
  · rw [if_pos m, if_pos m]
    cases σ[j]? <;> rfl
  · rw [if_neg m]
/-- a target that stores in vs alone -/
def upGw (w : World) (K : PySem.W.Frag) (vs : List Nat) (t : DTG) : TG := fun v σ H Q => ∃ d τ S, Rel w K τ S σ H ∧ RD K H d v ∧ t d τ S fun τ' S' => ∀ σ' H', LeH H H' → Rel w K τ' S' σ' H' → L2.wipe σ' vs = L2.wipe σ vs → Q σ' H'
def upGsw (w : World) (K : PySem.W.Frag) (vs : List Nat) (t : DTGs) : TGs := fun us σ H Q => ∃ ds τ S, Rel w K τ S σ H ∧ RDs K H ds us ∧ t ds τ S fun τ' S' => ∀ σ' H', LeH H H' → Rel w K τ' S' σ' H' → L2.wipe σ' vs = L2.wipe σ vs → Q σ' H'
structure DGw (X : Cx) (vs : List Nat) (tg : Expr) (t : DTG) : Prop where
  mono : ∀ d τ S (Q Q' : DSt → DH → Prop), (∀ τ S, Q τ S → Q' τ S) → t d τ S Q → t d τ S Q'
  run : PG X tg (upGw X.w X.K vs t)
structure DGsw (X : Cx) (vs : List Nat) (tg : List Expr) (t : DTGs) : Prop where
  mono : ∀ d τ S (Q Q' : DSt → DH → Prop), (∀ τ S, Q τ S → Q' τ S) → t d τ S Q → t d τ S Q'
  run : PGs X tg (upGsw X.w X.K vs t)
section
variable {X : Cx} {tg e : Expr} {tgs : List Expr} {t : DTG} {ts : DTGs} {te : DTE} {pos : Pos} {vs : List Nat}
theorem dw_name {i : Nat} {x : Str} (hN : X.N.Nodup) (hi : X.N[i]? = some x) (hx : Loc X.env.scope x) (hv : i ∈ vs) (hf : X.fn x = true ∨ X.env.scope.names.lookup x = some .local := by first | exact .inl rfl | exact .inr rfl | assumption) : DGw X vs (.Name x pos) (dGN i) :=
  ⟨fun _ _ _ _ _ k q => k _ _ q, pG_imp (pg_name hN hi hx hf) fun v σ H Q ⟨d, τ, S, r, rd, q⟩ => q _ _ (LeH.refl H) ⟨r.st.set i rd, r.rep⟩ (wipe_set hv)⟩
theorem dws_nil : DGsw X vs [] dGNil := by
  refine ⟨dgs_nil.mono (X := X), pGs_imp pgs_nil fun us σ H Q ⟨ds, τ, S, r, rd, q⟩ => ?_⟩
  cases ds with
  | nil => exact ⟨rd, q σ H (LeH.refl H) r rfl⟩
  | cons _ _ => exact q.elim
theorem dws_cons (h1 : DGw X vs tg t) (h2 : DGsw X vs tgs ts) (hs : (assignEach (tg :: tgs) X.env).map (·.2) = assign tg X.env :: (assignEach tgs X.env).map (·.2) := by rfl) : DGsw X vs (tg :: tgs) (dGCons t ts) := by
  refine ⟨fun ds _ _ _ _ k q => ?_, pGs_imp (pgs_cons h1.run h2.run hs) fun us σ H Q ⟨ds, τ, S, r, rd, q⟩ => ?_⟩
  · cases ds with
    | nil => exact q
    | cons d r => exact h1.mono _ _ _ _ _ (fun _ _ z => h2.mono _ _ _ _ _ k z) q
  · cases ds with
    | nil => exact q.elim
    | cons d ds =>
      obtain ⟨v, s, rfl, rd1, rd2⟩ := rd
      refine ⟨v, s, rfl, d, τ, S, r, rd1, h1.mono _ _ _ _ _ (fun τ' S' z σ' H' le r' hw => ?_) q⟩
      exact ⟨ds, τ', S', r', rd2.le le, h2.mono _ _ _ _ _ (fun τ2 S2 z2 σ2 H2 le2 r2 hw2 => z2 σ2 H2 (le.trans le2) r2 (hw2.trans hw)) z⟩
theorem dw_tup {es : List Expr} {k : Nat} {n : Nat} (hc : X.calm = true) (h : DGsw X vs es ts) (hn : (assignEach es X.env).length = n := by rfl) (hst : (assignEach es X.env).findIdx? (·.1) = none := by rfl) : DGw X vs (.Tuple es k pos) (dGTup n ts) := by
  refine ⟨fun d _ _ _ _ k q => ?_, pG_imp (pg_tup hc h.run hn hst) fun v σ H Q ⟨d, τ, S, r, rd, q⟩ => ?_⟩
  · cases d with
    | tup ds => exact ⟨q.1, h.mono _ _ _ _ _ k q.2⟩
    | _ => exact q
  · cases d with
    | tup ds =>
      obtain ⟨p, xs, rfl, sq, rds⟩ : ∃ p xs, v = V.ref p ∧ SqT X.K H p xs ∧ RDs X.K H ds xs := rd
      exact ⟨p, xs, rfl, sq, by rw [← rds.length]; exact q.1, ds, τ, S, r, rds, q.2⟩
    | _ => exact q.elim
end
/-- the block's parts, at any block -/
structure Blk (X : Cx) (scope : Scope) (vs : List Nat) (elt tg : Expr) (ifs : List Expr) (g : DTG) (tt : DTT) (te : DTE) : Prop where
  hg : ∀ (s : Shared) (H : Hp) (C : Addr) (cl : List (Str × Addr)) (fp : List Addr), DGw (X.blk s H scope (compEnvC scope cl C X.env) fp) vs tg g
  ht : ∀ (s : Shared) (H : Hp) (C : Addr) (cl : List (Str × Addr)) (fp : List Addr), DTs (X.blk s H scope (compEnvC scope cl C X.env) fp) ifs tt
  he : ∀ (s : Shared) (H : Hp) (C : Addr) (cl : List (Str × Addr)) (fp : List Addr), DE (X.blk s H scope (compEnvC scope cl C X.env) fp) elt te
section
variable {X : Cx} {elt tg iter : Expr} {ifs : List Expr} {scope : Scope} {own : List (Str × Nat)} {pos spos py : Pos} {ti : DTI} {g : DTG} {tt : DTT} {te : DTE}
theorem dLcL_mono {X' : Cx} {vs : List Nat} (hg : DGw X' vs tg g) (ht : DTs X' ifs tt) (he : DE X' elt te) {E : DW} {τ : DSt} {G : DH → Prop} {p : Addr} {Q Q' : DH → Prop} (k : ∀ S, Q S → Q' S) : ∀ (ds : List D) (S : DH), dLcL g tt te E τ G p Q ds S → dLcL g tt te E τ G p Q' ds S
  | [], _, q => ⟨q.1, k _ q.2⟩
  | d :: ds, S, q => ⟨q.1, hg.mono _ _ _ _ _ (fun τ1 S1 z => ht.mono _ _ _ _ _ _ (fun _ _ _ _ y => y) (fun b S2 z => by
      cases b with
      | true =>
        refine he.mono _ _ _ _ _ _ (fun _ _ _ _ y => y) (fun y S3 z => ?_) z
        split at z
        · exact ⟨z.1, dLcL_mono hg ht he k ds _ z.2⟩
        · exact z
      | false => exact dLcL_mono hg ht he k ds _ z) z) q.2⟩
theorem dLc_mono {vs : List Nat} (hi : DI X tg iter ti) (B : Blk X scope vs elt tg ifs g tt te) (E E' : DW) (τ : DSt) (S : DH) (Q Q' : DK) (he : ∀ C fs τ S, E C fs τ S → E' C fs τ S) (k : ∀ d S', Q d S' → Q' d S') (q : dLc ti g tt te vs E τ S Q) : dLc ti g tt te vs E' τ S Q' :=
  hi.mono _ _ _ _ _ _ he (fun G ds S' z p hp => dLcL_mono (B.hg X.s_0 (fun _ => none) 0 [] []) (B.ht X.s_0 (fun _ => none) 0 [] []) (B.he X.s_0 (fun _ => none) 0 [] []) (fun S h => k _ _ h) ds _ (z p hp)) q
theorem dLc_up {vs : List Nat} (hi : DI X tg iter ti) (B : Blk X scope vs elt tg ifs g tt te) {σ : L2.St} {H : Hp} {Q : VK} (h : upE X (dLc ti g tt te vs) σ H Q) : tLc (upI X ti) (upGw X.w X.K vs g) (upT0 X.w X.K tt) (upE0 X.w X.K te) vs σ H Q := by
  obtain ⟨E, τ, S, w, r, q⟩ := h
  refine hi.to w r q fun G ds S0 J H0 le0 w0 r0 f z => fun p hp => ?_
  have z1 := z p (r0.rep.free hp)
  refine ⟨fun i m H' => m = ds.length - i ∧ i ≤ ds.length ∧ LeH H0 H' ∧ ∃ S', Rep X.w X.K S' H' ∧ dLcL g tt te DW0 (wipeD τ vs) G p (fun S => ∀ v H', LeH H H' → Rep X.w X.K S H' → RD X.K H' (.ref p) v → Q v H') (ds.drop i) S', ⟨ds.length, by omega, Nat.zero_le _, LeH.new hp, _, r0.rep.new hp (o := .lst []) ⟨[], upd_same, rfl⟩, z1⟩, ?_⟩
  rintro i m H1 ⟨rfl, hle, le1, S1, r1, q1⟩
  have st1 : RSt X.K H1 (wipeD τ vs) (L2.wipe σ vs) := (r0.st.wipe vs).le le1
  by_cases hlt : i < ds.length
  · have e0 : ds[i]? = some ds[i] := List.getElem?_eq_getElem hlt
    rw [drop_at e0] at q1
    obtain ⟨hG, q1⟩ := q1
    have again : ∀ S' H', LeH H1 H' → Rep X.w X.K S' H' → dLcL g tt te DW0 (wipeD τ vs) G p (fun S => ∀ v H', LeH H H' → Rep X.w X.K S H' → RD X.K H' (.ref p) v → Q v H') (ds.drop (i + 1)) S' →
        LeH H0 H' ∧ ∃ S', Rep X.w X.K S' H' ∧ dLcL g tt te DW0 (wipeD τ vs) G p (fun S => ∀ v H', LeH H H' → Rep X.w X.K S H' → RD X.K H' (.ref p) v → Q v H') (ds.drop (i + 1)) S' := fun S' H' le r' y => ⟨le1.trans le, S', r', y⟩
    refine .inr ⟨f.go i S1 H1 le1 r1 hG hlt, _, fun H2 y => ⟨ds.length - (i + 1), by omega, rfl, hlt, y⟩, fun x H2 hy => ?_⟩
    obtain ⟨le2, rp2, d, ed, rd⟩ := f.yld i S1 H1 x H2 le1 r1 hG hlt hy
    rw [e0] at ed
    cases ed
    refine ⟨ds[i], wipeD τ vs, S1, ⟨st1.le le2, rp2⟩, rd, (B.hg X.s_0 (fun _ => none) 0 [] []).mono _ _ _ _ _ (fun τ3 S3 q3 σ3 H3 le3 r3 hw => ?_) q1⟩
    refine ⟨hw.trans (wipe_wipe σ vs), τ3, S3, r3, (B.ht X.s_0 (fun _ => none) 0 [] []).mono _ _ _ _ _ _ (fun _ _ _ _ y => y) (fun b S4 q4 H4 le4 r4 => ?_) q3⟩
    cases b with
    | false => exact again S4 H4 (le2.trans (le3.trans le4)) r4 q4
    | true =>
      refine ⟨τ3, S4, ⟨r3.st.le le4, r4⟩, (B.he X.s_0 (fun _ => none) 0 [] []).mono _ _ _ _ _ _ (fun _ _ _ _ y => y) (fun y S5 q5 v H5 le5 r5 rv => ?_) q4⟩
      split at q5
      · rename_i acc ea
        obtain ⟨xs, hx, rxs⟩ : ∃ xs, H5 p = some (.lst xs) ∧ RDs X.K H5 acc xs := r5 p _ ea
        have le6 : LeH H5 (upd H5 p (.lst (xs ++ [v]))) := LeH.put hx trivial
        exact ⟨xs, hx, by rw [← rxs.length]; exact q5.1, again _ _ (le2.trans (le3.trans (le4.trans (le5.trans le6)))) (r5.put hx trivial (o := .lst (acc ++ [y])) ⟨_, upd_same, (rxs.snoc rv).le le6⟩) q5.2⟩
      · exact q5.elim
  · have e : i = ds.length := by omega
    subst e
    rw [List.drop_length] at q1
    exact .inl ⟨f.stop S1 H1 le1 r1 q1.1, q1.2 _ H1 (le0.trans le1) r1 rfl⟩
theorem de_lc (hc : X.calm = true) (hN : X.N.Nodup) (hi : DI X tg iter ti) (ok : BlkOk X.N X.env.scope scope own) (B : Blk X scope (own.map (·.2)) elt tg ifs g tt te) (hs : ∀ x, foldedSetIterable iter X.env x = pure x := by intro _; rfl) :
    DE X (.ListComp elt [⟨tg, iter, ifs, 0⟩] scope pos) (dLc ti g tt te (own.map (·.2))) :=
  ⟨dLc_mono hi B, pE_imp (pe_lc (g := upGw X.w X.K (own.map (·.2)) g) (tt := upT0 X.w X.K tt) (te := upE0 X.w X.K te) hc hN hi.run ok (fun s H C cl fp => (B.hg s H C cl fp).run) (fun s H C cl fp => (B.ht s H C cl fp).zero) (fun s H C cl fp => (B.he s H C cl fp).zero) hs) fun σ H Q h => dLc_up hi B h⟩
end
end Dt
set_option maxRecDepth 100000
set_option maxHeartbeats 4000000
/-! Dat3: defs and their promises, calls, instances. -/
namespace Dt
open PySem PySem.Spec L2

abbrev DXK := Addr → List (Str × D) → DH → Prop
abbrev DSp := List D → DH → DK → DXK → Prop
def lQ (w : World) (K : PySem.W.Frag) (H : Hp) (Q : VK) : DK := fun d S' => ∀ v H', LeH H H' → Rep w K S' H' → RD K H' d v → Q v H'
def lX (w : World) (K : PySem.W.Frag) (H : Hp) (E : XK) : DXK := fun C fs S' => ∀ dd ws H', LeH H H' → Rep w K S' H' → H' dd = some (.xd ws) → RKs K H' fs ws → S' dd = none → E (.ref C) (some dd) H'
def upSp (w : World) (K : PySem.W.Frag) (sp : DSp) : Sp := fun vs H Q E => ∃ ds S, Rep w K S H ∧ RDs K H ds vs ∧ sp ds S (lQ w K H Q) (lX w K H E)
structure DFn (P : Program) (w : World) (K : PySem.W.Frag) (mg : Str → Option Value) (base : Heap) (k : Nat) (f : Addr) (fd : FuncData) (ps : List Str) (sp : DSp) : Prop where
  mono : ∀ ds S (Q Q' : DK) (E E' : DXK), (∀ d S', Q d S' → Q' d S') → (∀ C fs S', E C fs S' → E' C fs S') → sp ds S Q E → sp ds S Q' E'
  len : ∀ ds S Q E, sp ds S Q E → ds.length = ps.length
  run : ∀ (A : Around) (outer : List Env) (s : Shared) (H : Hp) (args : Args) (us : List Value) (vs : List V) (Q : VK) (E : XK), Room k A → A.guards = some [] → Env0 P w K mg base A outer s H → BindsTo s fd args (ps.zip us) → Vals vs us →
    upSp w K sp vs H Q E → codeAny (model P w) A (.call (.ref f) args) (CR (L2.CX P w) outer P w H s Q E) s
theorem DFn.more {P : Program} {w : World} {K : PySem.W.Frag} {mg : Str → Option Value} {base : Heap} {j k : Nat} {f : Addr} {fd : FuncData} {ps : List Str} {sp : DSp} (F : DFn P w K mg base j f fd ps sp) (h : j ≤ k) : DFn P w K mg base k f fd ps sp :=
  ⟨F.mono, F.len, fun A outer s H args us vs Q E hr => F.run A outer s H args us vs Q E (hr.mono h)⟩

section
variable {X : Cx} {k : Nat} {f C : Addr} {fd : FuncData} {ps : List Str} {sp : DSp} {x m : Str} {p pos apos : Pos} {e o : Expr} {es : List Expr} {ta : DTE} {t : DTA}
theorem run_dfn {pins : List (Addr × Obj)} {s : Shared} {us : List Value} {vs : List V} {ds : List D} {E : DW} {τ : DSt} {S : DH} {σ : L2.St} {H : Hp} {Q0 : DK} {Q : VK} (F : DFn X.prog X.w X.K X.mg X.base k f fd ps sp) (hr : Room k X.A) (gu : X.A.guards = some []) (hb : Binds X.K fd ps [])
    (I : Inv X pins σ H s) (w : Wish X E H) (rl : Rel X.w X.K τ S σ H) (r : Vals vs us) (rd : RDs X.K H ds vs) (h : sp ds S Q0 (fun C fs S' => E C fs τ S')) (kq : ∀ d S' v H', LeH H H' → Rep X.w X.K S' H' → RD X.K H' d v → Q0 d S' → Q v H') :
    wpAny (model X.prog X.w) X.A (call (.ref f) us) (EP X pins σ Q) X.xe s := by
  have hl : (us ++ []).length = ps.length := by rw [List.append_nil, ← r.length, ← rd.length]; exact F.len _ _ _ _ h
  have hbd := hb s us I.kIn hl
  rw [List.append_nil] at hbd
  refine wpAny_call (codeAny_mono (F.run X.A X.stack s H ⟨us, []⟩ us vs Q (fun cls d H' => upW X.w X.K E H cls d σ H') hr gu I.env0 hbd r ⟨ds, S, rl.rep, rd, F.mono _ _ _ _ _ _ (fun d S' q v H' le rp rv => kq d S' v H' le rp rv q)
    (fun C fs S' q dd ws H' le rp hx rk hn => ⟨C, fs, τ, S', dd, ws, rfl, rfl, le, rl.le le rp, hx, rk, hn, q⟩) h⟩) fun r s' hq => ?_)
  cases r with
  | error e => exact w e s' (XE.of_call I (fun _ _ _ h => h) hq)
  | ok fl =>
    cases fl with
    | ret u => exact I.after hq
    | next => exact False.elim hq
    | brk => exact False.elim hq
    | cont => exact False.elim hq
@[simp] def dCall (sp : DSp) (t : DTA) : DTE := fun E τ S Q => t E τ S fun ds S1 => sp ds S1 Q fun C fs S' => E C fs τ S'
theorem de_call (F : DFn X.prog X.w X.K X.mg X.base k f fd ps sp) (hr : Room k X.A) (gu : X.A.guards = some []) (hg : Gl X x) (hm : X.mg x = some (.ref f)) (hk : PySem.W.keepIn X.K (.ref f) = true) (hb : Binds X.K fd ps []) (ha : DA X (e :: es) t)
    (hdb : (x == ("__debug__" : Str)) = false := by decide) (he : starEach (e :: es) X.env = (false, eval e X.env) :: starEach es X.env := by rfl) (hpl : (backTo pos (starEach es X.env)).any (·.1) = false := by rfl) :
    DE X (.Call (.Name x p) (e :: es) [] pos) (dCall sp t) := by
  refine ⟨fun E E' τ S Q Q' hE kq q => ha.mono _ _ _ _ _ _ hE (fun ds S1 z => F.mono _ _ _ _ _ _ kq (fun C fs S' y => hE _ _ _ _ y) z) q, ⟨fun pins s σ H Q I ⟨E, τ, S, w, r, q⟩ => ?_⟩⟩
  refine PySem.wpAny_Call_Name_kw (ld_glob I hg hm ?_ hdb)
  refine PySem.W.callWith_K (h₀ := X.base) I.ok.mod.kin hk (thn (ha.run.run pos pins s σ H _ I (ha.to w r q fun ds S1 vs H1 le1 w1 r1 rd1 z => (⟨LeH.refl H1, le1, w1, r1, rd1, z⟩ : LeH H1 H1 ∧ LeH H H1 ∧ Wish X E H1 ∧ Rel X.w X.K τ S1 σ H1 ∧ RDs X.K H1 ds vs ∧ _) |> fun a => (⟨ds, S1, a⟩ : ∃ ds S1, LeH H1 H1 ∧ LeH H H1 ∧ Wish X E H1 ∧ Rel X.w X.K τ S1 σ H1 ∧ RDs X.K H1 ds vs ∧ sp ds S1 (fun d S' => ∀ v H', LeH H H' → Rep X.w X.K S' H' → RD X.K H' d v → Q v H') fun C fs S' => E C fs τ S'))) fun us s1 ⟨vs, H1, I1, rv, ds, S1, _, le1, w1, r1, rd1, z⟩ => ⟨I1.kIn, ?_⟩) he hpl
  exact run_dfn F hr gu hb I1 w1 r1 rv rd1 z fun d S' v H' le rp rd q2 => q2 v H' (le1.trans le) rp rd
/-! ### fields of instances -/
theorem RKs.lookup {K : PySem.W.Frag} {H : Hp} : ∀ {fs : List (Str × D)} {ws : List (Str × V)} (f : Str), RKs K H fs ws → match fs.lookup f, ws.lookup f with | some d, some v => RD K H d v | none, none => True | _, _ => False
  | [], _, f, h => by cases h; trivial
  | (j, d) :: r, _, f, h => by
    obtain ⟨v, s, rfl, h1, h2⟩ := h
    simp only [List.lookup_cons]
    cases e : f == j with
    | true => exact h1
    | false => exact RKs.lookup f h2
theorem RKs.lookup_some {K : PySem.W.Frag} {H : Hp} {fs : List (Str × D)} {ws : List (Str × V)} {f : Str} {d : D} (h : RKs K H fs ws) (e : fs.lookup f = some d) : ∃ v, ws.lookup f = some v ∧ RD K H d v := by
  have := h.lookup f
  rw [e] at this
  cases q : ws.lookup f with
  | none => rw [q] at this; exact this.elim
  | some v => rw [q] at this; exact ⟨v, rfl, this⟩
/-- o.m(..) -/
@[simp] def dMeth (C : Addr) (m : Str) (sp : DSp) (ta : DTE) (t : DTA) : DTE := fun E τ S Q => ta E τ S fun d S1 => match d with
  | .ref a => (match S1 a with | some (.ins C' fs) => C' = C ∧ fs.lookup m = none ∧ t E τ S1 fun ds S2 => sp (.ref a :: ds) S2 Q fun C fs S' => E C fs τ S' | _ => False)
  | _ => False
end

/-! ### a def by its body -/
def dstart (N : List Str) (ds : List D) : DSt := ds.map some ++ List.replicate (N.length - ds.length) none
theorem dstart_rel {K : PySem.W.Frag} {H : Hp} {N : List Str} {ds : List D} {vs : List V} (r : RDs K H ds vs) : RSt K H (dstart N ds) (L2.start N vs) := by
  refine ⟨by simp [dstart, L2.start, r.length], fun i d e => ?_⟩
  unfold dstart at e
  unfold L2.start
  by_cases l : i < ds.length
  · rw [List.getElem?_append_left (by simpa using l), List.getElem?_map] at e
    rw [List.getElem?_append_left (by simpa [← r.length] using l), List.getElem?_map]
    cases q : ds[i]? with
    | none => rw [q] at e; cases e
    | some d' =>
      rw [q] at e
      cases e
      obtain ⟨v, h1, h2⟩ := r.get q
      exact ⟨v, by rw [h1]; rfl, h2⟩
  · rw [List.getElem?_append_right (by simpa using l), List.getElem?_replicate] at e
    split at e <;> cases e
theorem guards_deeper {A : Around} {env : Env} (h : A.guards = some []) : (A.deeper env).guards = some [] := by
  first | exact h | (simp [Around.deeper, h])
end Dt
set_option maxRecDepth 100000
set_option maxHeartbeats 4000000
/-! DatU: lists that are written no more are values; what is no more needed is let go. -/
namespace Dt
open PySem PySem.Spec L2

def delo (S : DH) (a : Addr) : DH := fun b => if b = a then none else S b
@[simp] theorem delo_upo {S : DH} {p : Addr} {o : Ob} : delo (upo S p o) p = delo S p := by
  funext b
  unfold delo upo
  split <;> rfl
theorem delo_none {S : DH} {p : Addr} (h : S p = none) : delo S p = S := by
  funext b
  unfold delo
  split
  · rename_i e
    rw [e, h]
  · rfl
/-- a data heap that tells less -/
def Sub (S' S : DH) : Prop := ∀ b o, S' b = some o → S b = some o
theorem Sub.refl (S : DH) : Sub S S := fun _ _ h => h
theorem Sub.trans {S1 S2 S3 : DH} (a : Sub S1 S2) (b : Sub S2 S3) : Sub S1 S3 := fun x o h => b x o (a x o h)
theorem Sub.delo (S : DH) (a : Addr) : Sub (delo S a) S := fun b o h => by
  unfold Dt.delo at h
  split at h
  · cases h
  · exact h
theorem Sub.new {S : DH} {p : Addr} {o : Ob} (h : S p = none) : Sub S (upo S p o) := fun b u e => by
  rw [upo_ne (fun z => by subst z; rw [h] at e; cases e)]
  exact e
section
variable {w : World} {K : PySem.W.Frag} {S S' : DH} {H H' : Hp}
theorem Rep.sub (r : Rep w K S H) (h : Sub S' S) : Rep w K S' H := fun a o e => r a o (h a o e)
end
section
variable {X : Cx} {pins : List (Addr × Obj)} {σ : L2.St} {H : Hp} {s : Shared}
/-- the list at a is written no more -/
theorem inv_frz {a : Addr} {xs : List V} (I : Inv X pins σ H s) (e : H a = some (.lst xs)) : ∃ o, Inv X pins σ (upd H a (.frz o (.lst xs))) s := by
  obtain ⟨hz, its, n, r, eo⟩ := I.hok a _ e
  refine ⟨{ cls := .type "list", data := .seq its.toArray n }, ?_⟩
  have := I.write (t' := s.toks) (h' := s.heap) (x := a) (e := a) (o := .frz { cls := .type "list", data := .seq its.toArray n } (.lst xs)) (by rw [e]; trivial) (.inl rfl) (fun _ _ _ q => q) ⟨_, eo⟩ ⟨eo, hz, its, n, r, eo⟩
  exact this
/-! lists that are written no more, and how a value is seen then -/
mutual
inductive Vw (S : DH) (F : List Addr) : D → D → Prop
  | same (d : D) : Vw S F d d
  | lst {a : Addr} {ds es : List D} : S a = some (.lst ds) → a ∈ F → Vws S F ds es → Vw S F (.ref a) (.rol es)
  | tup {ds es : List D} : Vws S F ds es → Vw S F (.tup ds) (.tup es)
  | rol {ds es : List D} : Vws S F ds es → Vw S F (.rol ds) (.rol es)
inductive Vws (S : DH) (F : List Addr) : List D → List D → Prop
  | nil : Vws S F [] []
  | cons {d e : D} {ds es : List D} : Vw S F d e → Vws S F ds es → Vws S F (d :: ds) (e :: es)
end
theorem Vws.same {S : DH} {F : List Addr} : ∀ ds : List D, Vws S F ds ds
  | [] => .nil
  | d :: ds => .cons (.same d) (Vws.same ds)
/-- what stands behind: F's lists are told as values alone -/
def Bhd (S : DH) (F : List Addr) (S' : DH) : Prop := ∀ b o, S' b = some o → S b = some o ∧ b ∉ F
structure Frzn (w : World) (K : PySem.W.Frag) (S : DH) (F : List Addr) (H : Hp) : Prop where
  get : ∀ a ∈ F, ∀ ds, S a = some (.lst ds) → ∃ xs o, H a = some (.frz o (.lst xs)) ∧ RDs K H ds xs
end
section
variable {w : World} {K : PySem.W.Frag} {S : DH} {F : List Addr} {H : Hp}
mutual
theorem Vw.rd (f : Frzn w K S F H) : ∀ {d e : D} {v : V}, Vw S F d e → RD K H d v → RD K H e v
  | _, _, _, .same _, r => r
  | _, _, v, .lst (a := a) (ds := ds) h1 h2 h3, r => by
    obtain rfl : v = .ref a := r
    obtain ⟨xs, o, e, rs⟩ := f.get _ h2 _ h1
    exact ⟨a, xs, rfl, .inl ⟨o, e⟩, Vws.rd f h3 rs⟩
  | _, _, v, .tup h, r => by
    obtain ⟨p, xs, rfl, sq, rs⟩ : ∃ p xs, v = V.ref p ∧ SqT K H p xs ∧ RDs K H _ xs := r
    exact ⟨p, xs, rfl, sq, Vws.rd f h rs⟩
  | _, _, v, .rol h, r => by
    obtain ⟨p, xs, rfl, sq, rs⟩ : ∃ p xs, v = V.ref p ∧ SqR K H p xs ∧ RDs K H _ xs := r
    exact ⟨p, xs, rfl, sq, Vws.rd f h rs⟩
theorem Vws.rd (f : Frzn w K S F H) : ∀ {ds es : List D} {vs : List V}, Vws S F ds es → RDs K H ds vs → RDs K H es vs
  | _, _, _, .nil, r => r
  | _, _, vs, .cons h1 h2, r => by
    obtain ⟨v, r', rfl, r1, r2⟩ := r
    exact ⟨v, r', rfl, Vw.rd f h1 r1, Vws.rd f h2 r2⟩
end
end
theorem LeH.frz {H : Hp} {a : Addr} {xs : List V} {o : Obj} (e : H a = some (.lst xs)) : LeH H (upd H a (.frz o (.lst xs))) := LeH.put e trivial
section
variable {X : Cx} {pins : List (Addr × Obj)} {σ : L2.St} {s : Shared}
theorem rep_frz {w : World} {K : PySem.W.Frag} {S : DH} {H : Hp} {a : Addr} {xs : List V} {o : Obj} (r : Rep w K S H) (e : H a = some (.lst xs)) : Rep w K (delo S a) (upd H a (.frz o (.lst xs))) := fun b ob h => by
  unfold delo at h
  split at h
  · cases h
  · rename_i hb
    exact (r b ob h).at (LeH.frz e) (upd_ne hb)
/-- all of F, one by one -/
theorem frz_all {S : DH} : ∀ (F : List Addr) {H : Hp}, Inv X pins σ H s → Rep X.w X.K S H → (∀ a ∈ F, ∃ ds, S a = some (.lst ds)) → F.Nodup →
    ∃ H', Inv X pins σ H' s ∧ LeH H H' ∧ Frzn X.w X.K S F H' ∧ Rep X.w X.K (fun b => if b ∈ F then none else S b) H'
  | [], H, I, r, _, _ => ⟨H, I, LeH.refl H, ⟨fun _ h => nomatch h⟩, by simpa using r⟩
  | a :: F, H, I, r, h, nd => by
    obtain ⟨nd1, nd2⟩ := List.nodup_cons.mp nd
    obtain ⟨ds, ea⟩ := h a (List.mem_cons_self ..)
    obtain ⟨xs, eh, rs⟩ : ∃ xs, H a = some (.lst xs) ∧ RDs X.K H ds xs := r a _ ea
    obtain ⟨o, I1⟩ := inv_frz I eh
    have r1 := rep_frz (o := o) r eh
    obtain ⟨H2, I2, le2, f2, r2⟩ := frz_all (S := delo S a) F I1 r1 (fun b hb => by
      obtain ⟨ds', e'⟩ := h b (List.mem_cons_of_mem _ hb)
      refine ⟨ds', ?_⟩
      unfold delo
      rw [if_neg (fun z : b = a => nd1 (by rw [← z]; exact hb))]
      exact e') nd2
    have le1 : LeH H (upd H a (.frz o (.lst xs))) := LeH.frz eh
    refine ⟨H2, I2, le1.trans le2, ⟨fun b hb ds' e' => ?_⟩, fun b ob hb => ?_⟩
    · rcases List.mem_cons.mp hb with rfl | hb
      · rw [ea] at e'
        cases e'
        exact ⟨xs, o, le2.fl _ _ _ upd_same, rs.le (le1.trans le2)⟩
      · refine f2.get b hb ds' ?_
        unfold delo
        rw [if_neg (fun z : b = a => nd1 (by rw [← z]; exact hb))]
        exact e'
    · refine r2 b ob ?_
      have hb : (if b ∈ a :: F then none else S b) = some ob := hb
      show (if b ∈ F then none else delo S a b) = some ob
      simp only [List.mem_cons] at hb
      by_cases z : b = a
      · rw [if_pos (.inl z)] at hb
        cases hb
      · by_cases z2 : b ∈ F
        · rw [if_pos (.inr z2)] at hb
          cases hb
        · rw [if_neg (fun y => y.elim z z2)] at hb
          rw [if_neg z2]
          unfold delo
          rw [if_neg z]
          exact hb
/-- what a def gives: lists may become values, other things may be let go -/
def Rt (Q : DK) : DK := fun d S => ∃ F d' S', Vw S F d d' ∧ (∀ a ∈ F, ∃ ds, S a = some (.lst ds)) ∧ F.Nodup ∧ Bhd S F S' ∧ Q d' S'
theorem Rt.mono {Q Q' : DK} (k : ∀ d S, Q d S → Q' d S) (d : D) (S : DH) (h : Rt Q d S) : Rt Q' d S := by
  obtain ⟨F, d', S', h1, h2, h3, h4, h5⟩ := h
  exact ⟨F, d', S', h1, h2, h3, h4, k _ _ h5⟩
theorem Rt.same {Q : DK} {d : D} {S : DH} (h : Q d S) : Rt Q d S := ⟨[], d, S, .same d, (fun _ z => nomatch z), .nil, fun b o e => ⟨e, List.not_mem_nil⟩, h⟩
theorem Rt.keep {Q : DK} {d : D} {S S' : DH} (x : Sub S S') (h : Q d S) : Rt Q d S' := ⟨[], d, S, .same d, (fun _ z => nomatch z), .nil, fun b o e => ⟨x b o e, List.not_mem_nil⟩, h⟩
/-- a list of its own is given -/
theorem Rt.rol {Q : DK} {p : Addr} {S S' : DH} {ds : List D} (e : S' p = some (.lst ds)) (n : S p = none) (x : Sub S S') (h : Q (.rol ds) S) : Rt Q (.ref p) S' :=
  ⟨[p], .rol ds, S, .lst e (List.mem_singleton.mpr rfl) (Vws.same ds), fun a ha => ⟨ds, by rw [List.mem_singleton.mp ha]; exact e⟩, List.nodup_cons.mpr ⟨List.not_mem_nil, .nil⟩,
    fun b o eb => ⟨x b o eb, fun z => by rw [List.mem_singleton.mp z, n] at eb; cases eb⟩, h⟩
theorem Rt.to {S : DH} {H : Hp} {d : D} {v : V} {u : Value} {Q : DK} {Q' : VK} (I : Inv X pins σ H s) (r : Rep X.w X.K S H) (rd : RD X.K H d v) (ru : RelV v u) (h : Rt Q d S)
    (k : ∀ d S' v H', LeH H H' → Rep X.w X.K S' H' → RD X.K H' d v → Q d S' → Q' v H') : ∃ v H', Inv X pins σ H' s ∧ RelV v u ∧ LeH H H' ∧ Q' v H' := by
  obtain ⟨F, d', S', h1, h2, h3, h4, h5⟩ := h
  obtain ⟨H', I', le, f, r'⟩ := frz_all F I r h2 h3
  refine ⟨v, H', I', ru, le, k d' S' v H' le (r'.sub fun b o e => ?_) (Vw.rd f h1 (rd.le le)) h5⟩
  obtain ⟨e1, e2⟩ := h4 b o e
  show (if b ∈ F then none else S b) = some o
  rw [if_neg e2]
  exact e1
end
/-- a def by its body -/
theorem dfn_of2 {P : Program} {w : World} {K : PySem.W.Frag} {mg : Str → Option Value} {base : Heap} {x qual : Str} {st : Stmt} {f : Addr} {fd : FuncData} {N ps : List Str} {k : Nat} {sp : DSp} {t : DTS} (F : Fun K x qual st f fd) (Sc : FnScope N ps (defScope st))
    (mono : ∀ ds S (Q Q' : DK) (E E' : DXK), (∀ d S', Q d S' → Q' d S') → (∀ C fs S', E C fs S' → E' C fs S') → sp ds S Q E → sp ds S Q' E') (len : ∀ ds S Q E, sp ds S Q E → ds.length = ps.length)
    (hbody : ∀ (cdv : Value) (A : Around) (outer : List Env) (s : Shared) (H : Hp) (E : XK), Room k (A.deeper (PyProof.Rows.envOfC qual (defScope st) s.heap.objs.size f cdv)) → (A.deeper (PyProof.Rows.envOfC qual (defScope st) s.heap.objs.size f cdv)).guards = some [] →
      DSs (cxOf (L2.CX P w) P w K mg base N qual (defScope st) f cdv A outer s H E) (defBody st) t)
    (hsp : ∀ ds S Q E, sp ds S Q E → t { nx := fun _ S' => Rt Q .non S', rt := Rt Q, xe := fun C fs _ S' => ∃ S'', Sub S'' S' ∧ E C fs S'' } (dstart N ds) S) : DFn P w K mg base (k + 1) f fd ps sp := by
  obtain ⟨oc, od, kV, doc, pm, an, cdv, ct, osl, rfl, lk, hcd⟩ := F.ex
  refine ⟨mono, len, fun A outer s H args us vs Q E hr gu e0 hb r ⟨ds, S, rep, rds, q⟩ => ?_⟩
  have hl : vs.length = ps.length := by rw [← rds.length]; exact len _ _ _ _ q
  have KX : K.In s.heap := e0.mod.kin.keeps fun b o z => (e0.bs b o z).1
  have lim : s.heap.NoLimit := e0.mod.nolimit.keeps fun b o z => (e0.bs b o z).1
  refine codeAny_call_function hr.depth (KX _ _ lk) rfl Sc.co Sc.gen rfl (PySem.W.codeRec_of KX hcd) (hb _ _ _ _ ?_)
  refine wpAny_newFunctionEnv_cells Sc.kind (fun ⟨n, v⟩ hy => ?_) fun env he s1 x => ?_
  · rcases Sc.par n (List.of_mem_zip hy).1 with z | z
    · exact .inl z
    · exact .inr ⟨z, PySem.W.cellsFrom_some _ _ _ (.inl z)⟩
  subst he
  have B := hbody cdv A outer s H E (hr.deeper _) (guards_deeper gu)
  have I : Inv (cxOf (L2.CX P w) P w K mg base N qual (defScope st) f cdv A outer s H E) [] (L2.start N vs) H s1 := inv_start Sc hr.hd e0 hl r x
  have wi : Wish (cxOf (L2.CX P w) P w K mg base N qual (defScope st) f cdv A outer s H E) (fun C fs _ S' => ∃ S'', Sub S'' S' ∧ lX w K H E C fs S'') H := by
    refine Takes.imp (takes_of (E := E) rfl rfl rfl rfl) fun cls d σ H' h => ?_
    obtain ⟨C, fs, τ, S', dd, ws, rfl, rfl, le, rl, hx, rk, hn, S'', sb, h⟩ := h
    refine h dd ws H' le (rl.rep.sub sb) hx rk ?_
    cases e : S'' dd with
    | none => rfl
    | some o => rw [sb dd o e] at hn; cases hn
  have fin : ∀ {σ' : L2.St} {H' : Hp} {v : V} {u : Value} {s' : Shared}, Inv (cxOf (L2.CX P w) P w K mg base N qual (defScope st) f cdv A outer s H E) [] σ' H' s' → RelV v u → (∃ d S', LeH H H' ∧ Rep w K S' H' ∧ RD K H' d v ∧ Rt (lQ w K H Q) d S') → CE outer P w H s Q u s' :=
    fun {σ' H' v u s'} J rv ⟨d, S', le, rp, rd, y⟩ => by
      obtain ⟨v, H', J, rv, le', y⟩ := Rt.to (X := cxOf (L2.CX P w) P w K mg base N qual (defScope st) f cdv A outer s H E) J rp rd rv y fun d S' v H2 le2 rp2 rd2 z => (z v H2 (le.trans le2) rp2 rd2 : Q v H2)
      exact ⟨v, H', J.os, J.bare, J.base, J.hok, rv, y⟩
  refine ⟨lim.keeps x.toInCall.keep, codeAny_func (PySem.wpAny_mono (B.run.run [] s1 (L2.start N vs) H { nx := fun _ H' => ∃ S', LeH H H' ∧ Rep w K S' H' ∧ Rt (lQ w K H Q) .non S', rt := fun v H' => ∃ d S', LeH H H' ∧ Rep w K S' H' ∧ RD K H' d v ∧ Rt (lQ w K H Q) d S' } I ⟨_, dstart N ds, S, wi, ⟨dstart_rel rds, rep⟩, B.mono { nx := fun _ S' => Rt (lQ w K H Q) .non S', rt := Rt (lQ w K H Q), xe := fun C fs _ S' => ∃ S'', Sub S'' S' ∧ lX w K H E C fs S'' } _ _ _ ⟨fun τ S' h σ H' le r' => ?_, fun d S' h v H' le r' rv => ?_, fun _ _ h => h.elim, fun _ _ h => h.elim, fun _ _ _ _ h => h⟩ (hsp _ _ _ _ q)⟩) (fun fl s' hs => ?_) fun e s' hs => hs)⟩
  · exact ⟨S', le, r'.rep, h⟩
  · exact ⟨d, S', le, r', rv, h⟩
  · cases fl with
    | ret u =>
      obtain ⟨v, σ', H', J, rv, y⟩ := hs
      exact fin J rv y
    | next =>
      obtain ⟨σ', H', J, S', le, rp, y⟩ := hs
      exact fin (v := V.non) (u := Value.none) J rfl ⟨.non, S', le, rp, rfl, y⟩
    | brk =>
      obtain ⟨_, _, _, y⟩ := hs
      exact y.elim
    | cont =>
      obtain ⟨_, _, _, y⟩ := hs
      exact y.elim

/-! ### expressions whose list is written no more -/
theorem DE.sub {X : Cx} {e : Expr} {t t' : DTE} (h : DE X e t) (m : ∀ (E E' : DW) τ S (Q Q' : DK), (∀ C fs τ S, E C fs τ S → E' C fs τ S) → (∀ d S', Q d S' → Q' d S') → t' E τ S Q → t' E' τ S Q') (k : ∀ E τ S Q, t' E τ S Q → t E τ S Q) : DE X e t' :=
  ⟨m, pE_imp h.run fun σ H Q ⟨E, τ, S, w, r, q⟩ => ⟨E, τ, S, w, r, k _ _ _ _ q⟩⟩
/-- a list becomes a value -/
@[simp] def fzK (Q : DK) : DK := fun d S => match d with
  | .ref a => (match S a with | some (.lst ds) => Q (.rol ds) (delo S a) | _ => False)
  | d => Q d S
theorem fzK_mono {Q Q' : DK} (k : ∀ d S', Q d S' → Q' d S') (d : D) (S : DH) (h : fzK Q d S) : fzK Q' d S := by
  cases d with
  | ref a =>
    revert h
    show (match S a with | some (.lst ds) => _ | _ => False) → (match S a with | some (.lst ds) => _ | _ => False)
    split
    · exact k _ _
    · exact fun h => h
  | _ => exact k _ _ h
theorem fzK_new {Q : DK} {S : DH} {p : Addr} {ds : List D} (hp : S p = none) (h : Q (.rol ds) S) : fzK Q (.ref p) (upo S p (.lst ds)) := by
  simp only [fzK, upo_same, delo_upo, delo_none hp]
  exact h
def fzK_to {X : Cx} {pins : List (Addr × Obj)} {σ : L2.St} {s : Shared} {S : DH} {H : Hp} {d : D} {v : V} {u : Value} {Q : DK} {Q' : VK} (I : Inv X pins σ H s) (r : Rep X.w X.K S H) (rd : RD X.K H d v) (ru : RelV v u) (h : fzK Q d S)
    (k : ∀ d S' v H', LeH H H' → Rep X.w X.K S' H' → RD X.K H' d v → Q d S' → Q' v H') : EP X pins σ Q' u s := by
  cases d with
  | ref a =>
    obtain rfl : v = .ref a := rd
    revert h
    show (match S a with | some (.lst ds) => _ | _ => False) → _
    split
    · rename_i ds ea
      intro h
      obtain ⟨xs, eh, rs⟩ : ∃ xs, H a = some (.lst xs) ∧ RDs X.K H ds xs := r a _ ea
      obtain ⟨o, I1⟩ := inv_frz I eh
      exact ⟨_, _, I1, ru, k (.rol ds) (delo S a) (.ref a) _ (LeH.frz eh) (rep_frz r eh) ⟨a, xs, rfl, .inl ⟨o, upd_same⟩, rs.le (LeH.frz eh)⟩ h⟩
    · exact fun h => h.elim
  | _ => exact ⟨v, H, I, ru, k _ _ _ _ (LeH.refl H) r rd h⟩
@[simp] def dFz (t : DTE) : DTE := fun E τ S Q => t E τ S (fzK Q)
section
variable {X : Cx} {e : Expr} {t : DTE}
theorem de_fz (h : DE X e t) : DE X e (dFz t) := by
  refine ⟨fun E E' τ S Q Q' he k q => h.mono _ _ _ _ _ _ he (fzK_mono k) q, ⟨fun pins s σ H Q I ⟨E, τ, S, w, r, q⟩ => ?_⟩⟩
  refine thn (h.run.run pins s σ H (fun v H1 => ∃ d S1, LeH H H1 ∧ Rep X.w X.K S1 H1 ∧ RD X.K H1 d v ∧ fzK (fun d S' => ∀ v H', LeH H H' → Rep X.w X.K S' H' → RD X.K H' d v → Q v H') d S1) I (h.to w r q fun d S1 v H1 le w1 r1 rd z => ⟨d, S1, le, r1.rep, rd, z⟩)) fun u s' ⟨v, H1, I1, ru, d, S1, le, rp, rd, z⟩ => ?_
  exact fzK_to I1 rp rd ru z fun d S' v H' le' rp' rd' y => y v H' (le.trans le') rp' rd'
end
@[simp] def rFz (r : R2D) : R2D := fun x y S Q => r x y S (fzK Q)
theorem od_fz {X : Cx} {f : Value → Value → Sem Value} {r : R2D} (h : OpD X f r) : OpD X f (rFz r) := by
  refine ⟨fun x y S Q Q' k q => h.mono _ _ _ _ _ (fzK_mono k) q, fun pins s σ H x y v u Q I rx ry ⟨d, e, S, rep, rd, re, q⟩ => ?_⟩
  refine thn (h.run pins s σ H x y v u (fun v H1 => ∃ d S1, LeH H H1 ∧ Rep X.w X.K S1 H1 ∧ RD X.K H1 d v ∧ fzK (fun d S' => ∀ v H', LeH H H' → Rep X.w X.K S' H' → RD X.K H' d v → Q v H') d S1) I rx ry ⟨d, e, S, rep, rd, re, h.mono _ _ _ _ _ (fun z S' y v H' le rp rz => ⟨z, S', le, rp, rz, y⟩) q⟩) fun u s' ⟨v, H1, I1, ru, d, S1, le, rp, rd, z⟩ => ?_
  exact fzK_to I1 rp rd ru z fun d S' v H' le' rp' rd' y => y v H' (le.trans le') rp' rd'
end Dt
set_option maxRecDepth 100000
set_option maxHeartbeats 4000000
/-! DatN: dicts whose keys are tuples, by the library's nested keys. -/
namespace Dt
open PySem PySem.Spec L2 PySem.W

mutual
theorem rd_nested {X : Cx} {pins : List (Addr × Obj)} {σ : L2.St} {H : Hp} {s : Shared} (I : Inv X pins σ H s) : ∀ (d : D) (nk : NestedKey) (v : V) (u : Value), nkey d = some nk → RD X.K H d v → RelV v u → NestedIs s.heap nk u
  | .non, nk, v, u, e, r, q => by
    simp only [nkey, Option.some.injEq] at e
    subst e
    cases r
    cases (show u = .none from q)
    exact .none
  | .int i, nk, v, u, e, r, q => by
    simp only [nkey, Option.some.injEq] at e
    subst e
    cases r
    obtain ⟨t, rfl⟩ := q
    exact .int i t
  | .str i, nk, v, u, e, r, q => by
    simp only [nkey, Option.some.injEq] at e
    subst e
    cases r
    obtain ⟨t, rfl⟩ := q
    exact .text i t
  | .tup ds, nk, v, u, e, r, q => by
    simp only [nkey] at e
    split at e
    · rename_i ks ek
      cases e
      obtain ⟨p, xs, rfl, sq, rs⟩ : ∃ p xs, v = V.ref p ∧ SqT X.K H p xs ∧ RDs X.K H ds xs := r
      cases (show u = .ref p from q)
      obtain ⟨its, rv, ⟨o, e1, e2, n, e3⟩, hz⟩ := I.tuple sq
      exact .tup e1 e2 e3 (by simpa using rds_nested I ds ks xs its ek rs rv)
    · cases e
  | .bl _, _, _, _, e, _, _ => by simp [nkey] at e
  | .rol _, _, _, _, e, _, _ => by simp [nkey] at e
  | .ref _, _, _, _, e, _, _ => by simp [nkey] at e
theorem rds_nested {X : Cx} {pins : List (Addr × Obj)} {σ : L2.St} {H : Hp} {s : Shared} (I : Inv X pins σ H s) : ∀ (ds : List D) (ks : List NestedKey) (vs : List V) (us : List Value), nkeys ds = some ks → RDs X.K H ds vs → Vals vs us → NestedAll s.heap ks us
  | [], ks, vs, us, e, r, q => by
    simp only [nkeys, Option.some.injEq] at e
    subst e
    cases r
    cases q
    exact .nil
  | d :: ds, ks, vs, us, e, r, q => by
    simp only [nkeys] at e
    split at e
    · rename_i k1 ks1 e1 e2
      cases e
      obtain ⟨v, r', rfl, r1, r2⟩ := r
      cases q with
      | cons q1 q2 => exact .cons (rd_nested I d _ v _ e1 r1 q1) (rds_nested I ds _ r' _ e2 r2 q2)
    · cases e
end
/-- may be a key: a tuple of ints, texts, None, tuples of such -/
def okT (d : D) : Bool := match d, nkey d with | .tup _, some k => decide (k.depth ≤ 8) | _, _ => false
theorem okT_ex {d : D} (h : okT d = true) : ∃ nk, nkey d = some nk ∧ nk.depth ≤ 8 ∧ ∃ ds, d = .tup ds := by
  unfold okT at h
  split at h
  · rename_i ds k e
    exact ⟨k, e, of_decide_eq_true h, ds, rfl⟩
  · cases h
/-- entries beside keys and values -/
def RX (K : PySem.W.Frag) (H : Hp) : List (D × D) → List (NestedKey × Addr × Value) → Prop
  | [], xs => xs = []
  | (k, d) :: r, xs => ∃ nk b u s, xs = (nk, b, u) :: s ∧ (nkey k = some nk ∧ nk.depth ≤ 8 ∧ RD K H k (.ref b) ∧ ∃ v, RelV v u ∧ RD K H d v) ∧ RX K H r s
section
variable {K : PySem.W.Frag} {H H' : Hp}
theorem RX.le (le : LeH H H') : ∀ {kvs : List (D × D)} {xs : List (NestedKey × Addr × Value)}, RX K H kvs xs → RX K H' kvs xs
  | [], _, h => h
  | (_, _) :: _, _, ⟨nk, b, u, s, e, ⟨e1, e2, r1, v, r2, r3⟩, h⟩ => ⟨nk, b, u, s, e, ⟨e1, e2, r1.le le, v, r2, r3.le le⟩, RX.le le h⟩
theorem RX.length : ∀ {kvs : List (D × D)} {xs : List (NestedKey × Addr × Value)}, RX K H kvs xs → kvs.length = xs.length
  | [], _, h => by cases h; rfl
  | (_, _) :: _, _, ⟨nk, b, u, s, e, _, h⟩ => by subst e; simp [RX.length h]
theorem RX.append : ∀ {kvs ls : List (D × D)} {xs ys : List (NestedKey × Addr × Value)}, RX K H kvs xs → RX K H ls ys → RX K H (kvs ++ ls) (xs ++ ys)
  | [], _, _, _, h, k => by cases h; exact k
  | (_, _) :: _, _, _, _, ⟨nk, b, u, s, e, e1, h⟩, k => by subst e; exact ⟨nk, b, u, s ++ _, rfl, e1, RX.append h k⟩
theorem key_iff {k k' : D} {nk nk' : NestedKey} (e : nkey k = some nk) (e' : nkey k' = some nk') : nk = nk' ↔ k = k' :=
  ⟨fun h => nkey_inj k k' nk e (by rw [h]; exact e'), fun h => by rw [h, e'] at e; exact (Option.some.inj e).symm⟩
theorem RX.lk {k : D} {nk : NestedKey} (ek : nkey k = some nk) : ∀ {kvs : List (D × D)} {xs : List (NestedKey × Addr × Value)}, RX K H kvs xs →
    match Dt.lk kvs k, atKey xs nk with | some d, some p => ∃ v, RelV v p.2 ∧ RD K H d v | none, none => True | _, _ => False
  | [], _, h => by cases h; simp [Dt.lk, atKey]
  | (j, d) :: r, _, ⟨nk', b, u, s, e, ⟨e1, e2, r1, r2⟩, h⟩ => by
    subst e
    have ih := RX.lk ek h
    by_cases z : j = k
    · have z' : nk' = nk := (key_iff e1 ek).mpr z
      simp only [Dt.lk, atKey, List.find?_cons, z, z', if_true, decide_true, Option.map_some]
      exact r2
    · have z' : ¬ nk' = nk := fun y => z ((key_iff e1 ek).mp y)
      simp only [Dt.lk, atKey, List.find?_cons, z, z', if_false, decide_false]
      exact ih
theorem RX.ss {kvs : List (D × D)} {xs : List (NestedKey × Addr × Value)} {k d : D} {nk : NestedKey} (h : RX K H kvs xs) (ek : nkey k = some nk) (e : Dt.lk kvs k = some d) : ∃ p, atKey xs nk = some p ∧ ∃ v, RelV v p.2 ∧ RD K H d v := by
  have q := h.lk ek
  rw [e] at q
  split at q
  · rename_i e1 e2
    cases e1
    exact ⟨_, e2, q⟩
  · rename_i e1 _
    cases e1
  · exact q.elim
theorem RX.isSome {kvs : List (D × D)} {xs : List (NestedKey × Addr × Value)} {k : D} {nk : NestedKey} (h : RX K H kvs xs) (ek : nkey k = some nk) : (atKey xs nk).isSome = (Dt.lk kvs k).isSome := by
  have q := h.lk ek
  split at q
  · rename_i e1 e2
    rw [e1, e2]
    rfl
  · rename_i e1 e2
    rw [e1, e2]
    rfl
  · exact q.elim
theorem RX.mapv {k d : D} {nk : NestedKey} {u : Value} {v : V} (ek : nkey k = some nk) (rv : RelV v u) (rd : RD K H d v) : ∀ {kvs : List (D × D)} {xs : List (NestedKey × Addr × Value)}, RX K H kvs xs →
    RX K H (kvs.map fun q => if q.1 = k then (q.1, d) else q) (xs.map (putAt nk u))
  | [], _, h => by cases h; rfl
  | (j, _) :: _, _, ⟨nk', b, u', s, e, ⟨e1, e2, r1, r2⟩, h⟩ => by
    subst e
    by_cases z : j = k
    · have z' : nk' = nk := (key_iff e1 ek).mpr z
      simp only [List.map_cons, putAt, z, z', if_true]
      exact ⟨nk, b, u, _, rfl, ⟨ek, z' ▸ e2, z ▸ r1, v, rv, rd⟩, RX.mapv ek rv rd h⟩
    · have z' : ¬ nk' = nk := fun y => z ((key_iff e1 ek).mp y)
      simp only [List.map_cons, putAt, z, z', if_false]
      exact ⟨nk', b, u', _, rfl, ⟨e1, e2, r1, r2⟩, RX.mapv ek rv rd h⟩
theorem RX.pt {kvs : List (D × D)} {xs : List (NestedKey × Addr × Value)} {k d : D} {nk : NestedKey} {b : Addr} {u : Value} {v : V} (h : RX K H kvs xs) (ek : nkey k = some nk) (hd : nk.depth ≤ 8) (rk : RD K H k (.ref b)) (rv : RelV v u) (rd : RD K H d v) :
    RX K H (Dt.pt kvs k d) (storedH xs nk b u) := by
  unfold Dt.pt storedH
  rw [h.isSome ek]
  split
  · exact RX.mapv ek rv rd h
  · exact h.append ⟨nk, b, u, [], rfl, ⟨ek, hd, rk, v, rv, rd⟩, rfl⟩
theorem RX.dr {k : D} {nk : NestedKey} (ek : nkey k = some nk) : ∀ {kvs : List (D × D)} {xs : List (NestedKey × Addr × Value)}, RX K H kvs xs → RX K H (Dt.dr kvs k) (withoutH xs nk)
  | [], _, h => by cases h; rfl
  | (j, _) :: _, _, ⟨nk', b, u', s, e, ⟨e1, e2, r1, r2⟩, h⟩ => by
    subst e
    have ih := RX.dr ek h
    unfold Dt.dr withoutH at ih ⊢
    by_cases z : j = k
    · have z' : nk' = nk := (key_iff e1 ek).mpr z
      simp only [List.filter_cons, z, z', ne_eq, not_true, decide_false, Bool.false_eq_true, if_false]
      exact ih
    · have z' : ¬ nk' = nk := fun y => z ((key_iff e1 ek).mp y)
      simp only [List.filter_cons, z, z', ne_eq, not_false_eq_true, decide_true, if_true]
      exact ⟨nk', b, u', _, rfl, ⟨e1, e2, r1, r2⟩, ih⟩
theorem RX.get {k d : D} {i : Nat} : ∀ {kvs : List (D × D)} {xs : List (NestedKey × Addr × Value)} {i : Nat} {x : NestedKey × Addr × Value}, RX K H kvs xs → xs[i]? = some x → ∃ k d, kvs[i]? = some (k, d) ∧ nkey k = some x.1 ∧ x.1.depth ≤ 8 ∧ RD K H k (.ref x.2.1) ∧ ∃ v, RelV v x.2.2 ∧ RD K H d v
  | [], _, _, _, h, e => by cases h; simp at e
  | (j, d) :: _, _, 0, _, ⟨nk', b, u', s, e0, ⟨e1, e2, r1, r2⟩, h⟩, e => by
    subst e0
    simp at e
    subst e
    exact ⟨j, d, rfl, e1, e2, r1, r2⟩
  | (_, _) :: _, _, i + 1, _, ⟨nk', b, u', s, e0, _, h⟩, e => by
    subst e0
    obtain ⟨k, d, q⟩ := RX.get (k := .non) (d := .non) (i := 0) h (by simpa using e)
    exact ⟨k, d, by simpa using q⟩
theorem RX.nodup : ∀ {kvs : List (D × D)} {xs : List (NestedKey × Addr × Value)}, RX K H kvs xs → (kvs.map (·.1)).Nodup → (xs.map (·.1)).Nodup
  | [], _, h, _ => by cases h; exact .nil
  | (j, d) :: r, _, ⟨nk', b, u', s, e0, ⟨e1, e2, r1, r2⟩, h⟩, nd => by
    subst e0
    obtain ⟨n1, n2⟩ := List.nodup_cons.mp nd
    refine List.nodup_cons.mpr ⟨fun z => n1 ?_, RX.nodup h n2⟩
    obtain ⟨y, hy, ey⟩ := List.mem_map.mp z
    obtain ⟨i, hi⟩ := List.getElem?_of_mem hy
    obtain ⟨k, d', q1, q2, _⟩ := RX.get (k := .non) (d := .non) (i := 0) h hi
    have : k = j := nkey_inj k j nk' (by rw [q2]; exact congrArg _ ey) e1
    exact List.mem_map.mpr ⟨(k, d'), List.mem_of_getElem? q1, this⟩
end
theorem pt_nodup {kvs : List (D × D)} (k d : D) (h : (kvs.map (·.1)).Nodup) : ((pt kvs k d).map (·.1)).Nodup := by
  unfold pt
  have lkm : ∀ l : List (D × D), (lk l k).isSome = true ∨ k ∉ l.map (·.1) := fun l => by
    induction l with
    | nil => exact .inr (by simp)
    | cons q l ih =>
      obtain ⟨j, v⟩ := q
      by_cases z : j = k
      · exact .inl (by simp [lk, z])
      · rcases ih with ih | ih
        · exact .inl (by simpa [lk, z] using ih)
        · exact .inr (by simp [fun y => z (Eq.symm y)]; exact ⟨fun y => z y.symm, by simpa using ih⟩)
  split
  · have : (kvs.map fun q => if q.1 = k then (q.1, d) else q).map (·.1) = kvs.map (·.1) := by
      rw [List.map_map]
      refine List.map_congr_left fun q _ => ?_
      show (if q.1 = k then (q.1, d) else q).1 = q.1
      split <;> rfl
    rw [this]
    exact h
  · rename_i hn
    rw [List.map_append]
    refine List.nodup_append.mpr ⟨h, by simp, fun a ha b hb => ?_⟩
    simp at hb
    subst hb
    rcases lkm kvs with z | z
    · exact absurd z hn
    · exact fun y => z (y ▸ ha)
theorem pt_len {κ α : Type} [DecidableEq κ] (kvs : List (κ × α)) (k : κ) (d : α) : (pt kvs k d).length ≤ kvs.length + 1 := by
  unfold pt
  split <;> simp
section
variable {X : Cx} {pins : List (Addr × Obj)} {σ : L2.St} {H : Hp} {s : Shared} {a : Addr} {kvs : List (D × D)}
/-- a dict is looked at -/
theorem dn_open (I : Inv X pins σ H s) (r : ROb X.w X.K H a (.dN kvs)) : ∃ xs, s.heap.DictOfH (nestedKind X.prog X.w) a xs ∧ RX X.K H kvs xs ∧ (a == sysModules) = false ∧ kvs.length ≤ sizeLine ∧ (kvs.map (·.1)).Nodup ∧ Mut (H a) := by
  obtain ⟨rows, e, hl, nd, rr⟩ := r
  have x : ObjOk X.prog X.w H s.heap a (.ext (RawRows X.w rows a)) := I.hok a _ e
  obtain ⟨⟨hs, o, es, ep, ho, hx, hd, pr⟩, _⟩ := x
  have go : ∀ {kvs : List (D × D)} {rows : List (NestedKey × Addr × V)} {es : List DictEntry}, RRows X.K H kvs rows → Paired (fun (r : NestedKey × Addr × V) (e : DictEntry) => e.hash = r.1.hash X.w ∧ e.key = .ref r.2.1 ∧ RelV r.2.2 e.val) rows es →
      ∃ xs, RX X.K H kvs xs ∧ es = xs.map (entryOfKey (nestedKind X.prog X.w)) ∧ ∀ x ∈ xs, (nestedKind X.prog X.w).is s.heap x.1 x.2.1 := by
    intro kvs
    induction kvs with
    | nil =>
      intro rows es h p
      cases h
      cases p
      exact ⟨[], rfl, rfl, fun _ z => nomatch z⟩
    | cons q kvs ih =>
      obtain ⟨k, d⟩ := q
      rintro rows es ⟨nk, b, v, s', e, e1, e2, r1, r2, h⟩ p
      subst e
      cases p with
      | @cons _ en _ es' p1 p2 =>
        obtain ⟨xs, h1, h2, h3⟩ := ih h p2
        obtain ⟨hsh, ky, vl⟩ := en
        obtain ⟨q1, q2, q3⟩ := p1
        refine ⟨(nk, b, vl) :: xs, ⟨nk, b, vl, xs, rfl, ⟨e1, e2, r1, v, q3, r2⟩, h1⟩, ?_, fun x hx => ?_⟩
        · rw [List.map_cons, ← h2]
          simp only at q1 q2
          rw [q1, q2]
          rfl
        · rcases List.mem_cons.mp hx with rfl | hx
          · exact ⟨rd_nested I k nk (.ref b) (.ref b) e1 r1 rfl, e2⟩
          · exact h3 x hx
  obtain ⟨xs, h1, h2, h3⟩ := go rr pr
  exact ⟨xs, ⟨o, es, ep, ho, hx, hd, h2, h3, h1.nodup nd⟩, h1, hs, hl, nd, by rw [e]; trivial⟩
theorem rows_of {K : PySem.W.Frag} {w : World} {P : Program} {H : Hp} : ∀ {kvs : List (D × D)} {xs : List (NestedKey × Addr × Value)}, RX K H kvs xs →
    ∃ rows, RRows K H kvs rows ∧ Paired (fun (r : NestedKey × Addr × V) (e : DictEntry) => e.hash = r.1.hash w ∧ e.key = .ref r.2.1 ∧ RelV r.2.2 e.val) rows (xs.map (entryOfKey (nestedKind P w)))
  | [], _, h => by cases h; exact ⟨[], rfl, .nil⟩
  | (k, d) :: r, _, ⟨nk, b, u, s, e, ⟨e1, e2, r1, v, r2, r3⟩, h⟩ => by
    subst e
    obtain ⟨rows, h1, h2⟩ := rows_of (P := P) h
    exact ⟨(nk, b, v) :: rows, ⟨nk, b, v, rows, rfl, e1, e2, r1, r3, h1⟩, .cons ⟨rfl, rfl, r2⟩ h2⟩
/-- a dict was written -/
theorem dn_close {h' : Heap} {t : Nat} {xs : List (NestedKey × Addr × Value)} (I : Inv X pins σ H s) (mu : Mut (H a)) (hs : (a == sysModules) = false) (r : RX X.K H kvs xs) (hl : kvs.length ≤ sizeLine) (nd : (kvs.map (·.1)).Nodup) (hd : h'.DictOfH (nestedKind X.prog X.w) a xs) (sb : Heap.SameBut a s.heap h') :
    ∃ rows, Inv X pins σ (upd H a (dnHO X.w rows a)) { s with heap := h', toks := t } ∧ LeH H (upd H a (dnHO X.w rows a)) ∧ ROb X.w X.K (upd H a (dnHO X.w rows a)) a (.dN kvs) := by
  obtain ⟨rows, r1, r2⟩ := rows_of (P := X.prog) (w := X.w) r
  obtain ⟨o, es, ep, ho, hx, hdd, he, _, _⟩ := hd
  obtain ⟨u, eu⟩ : ∃ u, H a = some u := by
    cases q : H a with
    | none => rw [q] at mu; exact mu.elim
    | some u => exact ⟨u, rfl⟩
  have le : LeH H (upd H a (dnHO X.w rows a)) := LeH.put eu (by rw [← eu]; exact mu)
  refine ⟨rows, I.write (x := a) (e := a) mu (.inl rfl) (fun b u hb q => (sb.2 b hb).trans q) ⟨o, ho⟩ ⟨⟨hs, o, es, ep, ho, hx, hdd, by rw [he]; exact r2⟩, ⟨o, ho⟩, fun h1 h2 z k => ?_⟩, le, ⟨rows, upd_same, hl, nd, r1.le le⟩⟩
  obtain ⟨z1, o', es', ep', q1, q2⟩ := z
  exact ⟨z1, o', es', ep', k _ q1, q2⟩
/-- the key of a dict -/
theorem okT_key (I : Inv X pins σ H s) {k : D} {v : V} {u : Value} (h : okT k = true) (rd : RD X.K H k v) (ru : RelV v u) : ∃ nk b, nkey k = some nk ∧ nk.depth ≤ 8 ∧ v = .ref b ∧ u = .ref b ∧ (nestedKind X.prog X.w).is s.heap nk b := by
  obtain ⟨nk, e, hd, ds, rfl⟩ := okT_ex h
  obtain ⟨p, xs, rfl, _⟩ : ∃ p xs, v = V.ref p ∧ SqT X.K H p xs ∧ RDs X.K H ds xs := id rd
  cases (show u = .ref p from ru)
  exact ⟨nk, p, e, hd, rfl, rfl, rd_nested I _ nk _ _ e rd rfl, hd⟩
end
section
variable {X : Cx} {pos : Pos}
/-- {} whose keys will be tuples -/
@[simp] def dDnN : DTE := fun _ _ S Q => newO S (.dN []) fun p S' => Q (.ref p) S'
end
end Dt
set_option maxRecDepth 100000
set_option maxHeartbeats 4000000
/-! Dat4: operators, comparisons, repr. -/
namespace Dt
open PySem PySem.Spec L2

/-! ### the library's trees -/
mutual
inductive Pd (S : DH) : D → PyData → Prop
  | non : Pd S .non .none
  | bl (b : Bool) : Pd S (.bl b) (.bool b)
  | int (i : Int) : Pd S (.int i) (.int i)
  | str (x : Str) : Pd S (.str x) (.str x)
  | tup {ds : List D} {ps : List PyData} : PdA S ds ps → Pd S (.tup ds) (.tuple ps)
  | rol {ds : List D} {ps : List PyData} : PdA S ds ps → Pd S (.rol ds) (.list ps)
  | lst {a : Addr} {ds : List D} {ps : List PyData} : S a = some (.lst ds) → PdA S ds ps → Pd S (.ref a) (.list ps)
inductive PdA (S : DH) : List D → List PyData → Prop
  | nil : PdA S [] []
  | cons {d : D} {ds : List D} {p : PyData} {ps : List PyData} : Pd S d p → PdA S ds ps → PdA S (d :: ds) (p :: ps)
end
section
variable {w : World} {K : PySem.W.Frag} {S : DH} {H : Hp}
mutual
theorem Pd.dp (rep : Rep w K S H) : ∀ (p : PyData) (d : D) (v : V), Pd S d p → RD K H d v → Dp K H v p
  | .none, _, _, h, r => by cases h; cases r; exact .non
  | .bool b, _, _, h, r => by cases h; cases r; exact .bl b
  | .int i, _, _, h, r => by cases h; cases r; exact .int i
  | .str x, _, _, h, r => by cases h; cases r; exact .str x
  | .tuple ps, _, v, h, r => by
    cases h with
    | tup hs =>
      obtain ⟨p, xs, rfl, sq, rs⟩ : ∃ p xs, v = V.ref p ∧ SqT K H p xs ∧ RDs K H _ xs := r
      exact .tup sq (PdA.dp rep ps _ _ hs rs)
  | .list ps, _, v, h, r => by
    cases h with
    | rol hs =>
      obtain ⟨p, xs, rfl, sq, rs⟩ : ∃ p xs, v = V.ref p ∧ SqR K H p xs ∧ RDs K H _ xs := r
      exact .lst sq.l (PdA.dp rep ps _ _ hs rs)
    | lst e hs =>
      cases r
      obtain ⟨xs, q, rs⟩ := rep _ _ e
      exact .lst (.of q) (PdA.dp rep ps _ _ hs rs)
  | .dict _, _, _, h, _ => by cases h
theorem PdA.dp (rep : Rep w K S H) : ∀ (ps : List PyData) (ds : List D) (vs : List V), PdA S ds ps → RDs K H ds vs → DpAll K H vs ps
  | [], _, _, h, r => by
    cases h
    cases r
    exact .nil
  | p :: ps, _, _, h, r => by
    cases h with
    | cons h1 h2 =>
      obtain ⟨v, vs, rfl, r1, r2⟩ := r
      exact .cons (Pd.dp rep p _ v h1 r1) (PdA.dp rep ps _ vs h2 r2)
end
end
/-! without addresses -/
mutual
def toP : D → PyData
  | .non => .none
  | .bl b => .bool b
  | .int i => .int i
  | .str x => .str x
  | .tup ds => .tuple (toPs ds)
  | .rol ds => .list (toPs ds)
  | .ref _ => .none
def toPs : List D → List PyData
  | [] => []
  | d :: ds => toP d :: toPs ds
end
mutual
def imm : D → Bool
  | .tup ds => imms ds
  | .rol ds => imms ds
  | .ref _ => false
  | _ => true
def imms : List D → Bool
  | [] => true
  | d :: ds => imm d && imms ds
end
mutual
theorem imm_pd (S : DH) : ∀ d : D, imm d = true → Pd S d (toP d)
  | .non, _ => .non
  | .bl b, _ => .bl b
  | .int i, _ => .int i
  | .str x, _ => .str x
  | .tup ds, h => .tup (imms_pd S ds h)
  | .rol ds, h => .rol (imms_pd S ds h)
theorem imms_pd (S : DH) : ∀ ds : List D, imms ds = true → PdA S ds (toPs ds)
  | [], _ => .nil
  | d :: ds, h => by
    have h' : (imm d && imms ds) = true := h
    rw [Bool.and_eq_true] at h'
    exact .cons (imm_pd S d h'.1) (imms_pd S ds h'.2)
end

/-! ### + - * // % ** -/
@[simp] def dAdd : R2D := fun d e S Q => match d, e with
  | .int i, .int j => Q (.int (i + j)) S
  | .str x, .str y => x.length + y.length ≤ sizeLine ∧ Q (.str (x ++ y)) S
  | .tup xs, .tup ys => xs.length + ys.length ≤ sizeLine ∧ Q (.tup (xs ++ ys)) S
  | d, e => catD S d e fun zs => newO S (.lst zs) fun p S' => Q (.ref p) S'
/-- the same, a list is written no more -/
@[simp] def dAddF : R2D := fun d e S Q => match d, e with
  | .int i, .int j => Q (.int (i + j)) S
  | .str x, .str y => x.length + y.length ≤ sizeLine ∧ Q (.str (x ++ y)) S
  | .tup xs, .tup ys => xs.length + ys.length ≤ sizeLine ∧ Q (.tup (xs ++ ys)) S
  | d, e => catD S d e fun zs => Q (.rol zs) S
theorem OpD.sub {X : Cx} {f : Value → Value → Sem Value} {r r' : R2D} (h : OpD X f r) (m : Mono2 r') (k : ∀ x y S Q, r' x y S Q → r x y S Q) : OpD X f r' :=
  ⟨m, opR_imp h.run fun x y H Q ⟨d, e, S, rep, rd, re, q⟩ => ⟨d, e, S, rep, rd, re, k _ _ _ _ q⟩⟩
section
variable {X : Cx}
theorem rep_new {w : World} {K : PySem.W.Frag} {S : DH} {H : Hp} {Q0 : DK} {Q : VK} {ds : List D} {xs : List V} {q : Addr} (rep : Rep w K S H) (hq : H q = none) (rs : RDs K H ds xs) (h : lQ w K H Q (.ref q) (upo S q (.lst ds))) : Q (.ref q) (upd H q (.lst xs)) :=
  h (.ref q) _ (LeH.new hq) (rep.new hq (o := .lst ds) ⟨xs, upd_same, rs.le (LeH.new hq)⟩) rfl
theorem rep_tup {w : World} {K : PySem.W.Frag} {S : DH} {H : Hp} {Q : VK} {ds : List D} {xs : List V} {q : Addr} (rep : Rep w K S H) (hq : H q = none) (rs : RDs K H ds xs) (h : lQ w K H Q (.tup ds) S) : Q (.ref q) (upd H q (.tup xs)) :=
  h (.ref q) _ (LeH.new hq) (rep.garb hq) ⟨q, xs, rfl, .of upd_same, rs.le (LeH.new hq)⟩
/-- lists, one behind the other -/
def rCatX (K : PySem.W.Frag) : R2 := fun x y H Q => ∃ l b xs zs, x = .ref l ∧ y = .ref b ∧ SqX K H l xs ∧ SqX K H b zs ∧ xs.length + zs.length ≤ sizeLine ∧ ∀ p, H p = none → Q (.ref p) (upd H p (.lst (xs ++ zs)))
theorem op_catX : OpR X (binaryOp .Add) (rCatX X.K) := by
  intro pins s σ H x y v u Q I rx ry h
  obtain ⟨l, b, xs, zs, rfl, rfl, hH, hB, hz, q⟩ := h
  cases rx
  cases ry
  obtain ⟨its, n, r, z, hl, e⟩ := sqX_get I hH
  obtain ⟨its2, n2, r2, z2, hl2, e2⟩ := sqX_get I hB
  refine PySem.P.add_list e e2 ?_ (by rw [List.size_toArray, List.size_toArray]; omega)
  have ea : its.toArray ++ its2.toArray = (its ++ its2).toArray := by simp
  rw [ea]
  exact ⟨.ref _, _, I.lnew (t' := s.toks) (r.append r2) (by rw [List.length_append]; omega), rfl, q _ I.fresh⟩
theorem catD_mono {S : DH} {d e : D} {k k' : List D → Prop} (h : ∀ z, k z → k' z) (q : catD S d e k) : catD S d e k' := opt_mono (fun _ q => opt_mono (fun _ q => ⟨q.1, h _ q.2⟩) q) q
theorem od_add : OpD X (binaryOp .Add) dAdd := by
  refine ⟨fun x y S Q Q' k h => ?_, fun pins s σ H x y v u Q I rx ry ⟨d, e, S, rep, rd, re, h⟩ => ?_⟩
  · unfold dAdd at h ⊢
    split at h
    · exact k _ _ h
    · exact ⟨h.1, k _ _ h.2⟩
    · exact ⟨h.1, k _ _ h.2⟩
    · exact catD_mono (fun z q p hp => k _ _ (q p hp)) h
  · unfold dAdd at h
    split at h
    · cases rd; cases re
      exact op_add pins s σ H _ _ v u Q I rx ry ⟨_, _, rfl, rfl, h _ H (LeH.refl H) rep rfl⟩
    · cases rd; cases re
      exact op_add_str pins s σ H _ _ v u Q I rx ry ⟨_, _, rfl, rfl, h.1, h.2 _ H (LeH.refl H) rep rfl⟩
    · rename_i ds es
      obtain ⟨p, xs, rfl, sq, rs⟩ : ∃ p xs, x = V.ref p ∧ SqT X.K H p xs ∧ RDs X.K H ds xs := rd
      obtain ⟨q, ys, rfl, sq2, rs2⟩ : ∃ p xs, y = V.ref p ∧ SqT X.K H p xs ∧ RDs X.K H es xs := re
      refine op_catA pins s σ H _ _ v u Q I rx ry ⟨p, q, xs, ys, rfl, rfl, sq, sq2, by rw [← rs.length, ← rs2.length]; exact h.1, fun e => ?_, fun _ e => ?_, fun _ _ p2 hp => rep_tup rep hp (rs.append rs2) h.2⟩
      · subst e
        have := rs.length
        have e2 : ds = [] := List.length_eq_zero_iff.mp (by simpa using this)
        subst e2
        exact h.2 _ H (LeH.refl H) rep ⟨q, ys, rfl, sq2, rs2⟩
      · subst e
        have := rs2.length
        have e2 : es = [] := List.length_eq_zero_iff.mp (by simpa using this)
        subst e2
        exact h.2 _ H (LeH.refl H) rep ⟨p, xs, rfl, sq, by rw [List.append_nil]; exact rs⟩
    · obtain ⟨xs, ea, h⟩ := opt_ex h
      obtain ⟨ys, eb, hz, h⟩ := opt_ex h
      obtain ⟨a, us, rfl, sa, r1⟩ := seqD_rd rep rd ea
      obtain ⟨b, ws, rfl, sb, r2⟩ := seqD_rd rep re eb
      exact op_catX pins s σ H _ _ v u Q I rx ry ⟨a, b, us, ws, rfl, rfl, sa, sb, by rw [← r1.length, ← r2.length]; exact hz, fun p hp => rep_new (Q0 := fun _ _ => True) rep hp (r1.append r2) (h p (rep.free hp))⟩
theorem od_addF : OpD X (binaryOp .Add) dAddF := (od_fz od_add).sub (fun x y S Q Q' k h => by
    unfold dAddF at h ⊢
    split at h
    · exact k _ _ h
    · exact ⟨h.1, k _ _ h.2⟩
    · exact ⟨h.1, k _ _ h.2⟩
    · exact catD_mono (fun z q => k _ _ q) h) fun x y S Q h => by
    unfold dAddF at h
    unfold rFz dAdd
    split at h
    · exact h
    · exact h
    · exact h
    · exact catD_mono (fun z q p hp => fzK_new hp q) h
/-- two ints -/
@[simp] def dII (C : Int → Int → Prop) (g : Int → Int → D) : R2D := fun d e S Q => match d, e with | .int i, .int j => C i j ∧ Q (g i j) S | _, _ => False
theorem dII_mono {C : Int → Int → Prop} {g : Int → Int → D} : Mono2 (dII C g) := fun x y S Q Q' k h => by
  cases x <;> cases y <;> first | exact h.elim | exact ⟨h.1, k _ _ h.2⟩
theorem od_II {f : Value → Value → Sem Value} {C : Int → Int → Prop} {g : Int → Int → D} {g' : Int → Int → V} (h : OpR X f (rI C g')) (hg : ∀ H i j, RD X.K H (g i j) (g' i j)) : OpD X f (dII C g) := by
  refine ⟨dII_mono, fun pins s σ H x y v u Q I rx ry ⟨d, e, S, rep, rd, re, q⟩ => ?_⟩
  cases d <;> cases e <;> first | exact q.elim | skip
  cases rd; cases re
  exact h pins s σ H _ _ v u Q I rx ry ⟨_, _, rfl, rfl, q.1, q.2 _ H (LeH.refl H) rep (hg _ _ _)⟩
theorem od_II0 {f : Value → Value → Sem Value} {g : Int → Int → D} {g' : Int → Int → V} (h : OpR X f (rI0 g')) (hg : ∀ H i j, RD X.K H (g i j) (g' i j)) : OpD X f (dII (fun _ _ => True) g) := by
  refine ⟨dII_mono, fun pins s σ H x y v u Q I rx ry ⟨d, e, S, rep, rd, re, q⟩ => ?_⟩
  cases d <;> cases e <;> first | exact q.elim | skip
  cases rd; cases re
  exact h pins s σ H _ _ v u Q I rx ry ⟨_, _, rfl, rfl, q.2 _ H (LeH.refl H) rep (hg _ _ _)⟩
theorem od_sub : OpD X (binaryOp .Sub) (dII (fun _ _ => True) fun i j => .int (i - j)) := od_II0 op_sub fun _ _ _ => rfl
theorem od_mod : OpD X (binaryOp .Mod) (dII (fun _ j => 0 < j) fun i j => .int (i % j)) := od_II op_mod fun _ _ _ => rfl
theorem od_fdiv : OpD X (binaryOp .FloorDiv) (dII CDivW fun i j => .int (i / j)) := od_II op_fdivW fun _ _ _ => rfl
theorem od_pow : OpD X (binaryOp .Pow) (dII CPow fun i j => .int (i ^ j.toNat)) := od_II op_pow fun _ _ _ => rfl
theorem od_lt : OpD X (compareOp .Lt) (dII (fun _ _ => True) fun i j => .bl (decide (i < j))) := od_II0 op_lt fun _ _ _ => rfl
theorem od_gt : OpD X (compareOp .Gt) (dII (fun _ _ => True) fun i j => .bl (decide (j < i))) := od_II0 op_gt fun _ _ _ => rfl
theorem od_ge : OpD X (compareOp .GtE) (dII (fun _ _ => True) fun i j => .bl (decide (j ≤ i))) := od_II0 op_ge fun _ _ _ => rfl

/-! ### == -/
def dEqG (neg : Bool) : R2D := fun d e S Q => ∃ p q, Pd S d p ∧ Pd S e q ∧ SeqAt.shaped p = true ∧ SeqAt.shaped q = true ∧ Q (.bl (if neg then !PyData.eqv p q else PyData.eqv p q)) S
def dEq (neg : Bool) : R2D := fun d e S Q => match d, e with
  | .int i, .int j => Q (.bl (if neg then !(i == j) else i == j)) S
  | .str i, .str j => Q (.bl (if neg then !(i == j) else i == j)) S
  | .bl i, .bl j => Q (.bl (if neg then !(i == j) else i == j)) S
  | .non, .str j => Q (.bl neg) S
  | .str j, .non => Q (.bl neg) S
  | .int _, .str j => Q (.bl neg) S
  | .str j, .int _ => Q (.bl neg) S
  | d, e => dEqG neg d e S Q
theorem dEq_mono (neg : Bool) : Mono2 (dEq neg) := fun x y S Q Q' k h => by
  unfold dEq at h ⊢
  split at h <;> first | exact k _ _ h | exact (fun ⟨p, q, h1, h2, h3, h4, h⟩ => ⟨p, q, h1, h2, h3, h4, k _ _ h⟩ : dEqG neg _ _ S Q → dEqG neg _ _ S Q') h
theorem od_eq (hu : X.A.units + 64 < cLine) : OpD X (compareOp .Eq) (dEq false) := by
  refine ⟨dEq_mono false, fun pins s σ H x y v u Q I rx ry ⟨d, e, S, rep, rd, re, h⟩ => ?_⟩
  unfold dEq at h
  split at h
  · cases rd; cases re
    exact op_eq pins s σ H _ _ v u Q I rx ry ⟨rfl, by rw [dec_int]; exact h _ H (LeH.refl H) rep rfl⟩
  · cases rd; cases re
    exact op_eq pins s σ H _ _ v u Q I rx ry ⟨rfl, by rw [dec_str]; exact h _ H (LeH.refl H) rep rfl⟩
  · cases rd; cases re
    exact op_eq pins s σ H _ _ v u Q I rx ry ⟨rfl, by rw [dec_bl]; exact h _ H (LeH.refl H) rep rfl⟩
  · cases rd; cases re
    exact op_eq pins s σ H _ _ v u Q I rx ry ⟨rfl, h _ H (LeH.refl H) rep rfl⟩
  · cases rd; cases re
    exact op_eq pins s σ H _ _ v u Q I rx ry ⟨rfl, h _ H (LeH.refl H) rep rfl⟩
  · cases rd; cases re
    exact op_eq pins s σ H _ _ v u Q I rx ry ⟨rfl, h _ H (LeH.refl H) rep rfl⟩
  · cases rd; cases re
    exact op_eq pins s σ H _ _ v u Q I rx ry ⟨rfl, h _ H (LeH.refl H) rep rfl⟩
  · obtain ⟨p, q, h1, h2, h3, h4, h⟩ := h
    exact op_eqD hu pins s σ H _ _ v u Q I rx ry ⟨p, q, h1.dp rep p _ x rd, h2.dp rep q _ y re, h3, h4, h _ H (LeH.refl H) rep rfl⟩
theorem od_ne (hu : X.A.units + 64 < cLine) : OpD X (compareOp .NotEq) (dEq true) := by
  refine ⟨dEq_mono true, fun pins s σ H x y v u Q I rx ry ⟨d, e, S, rep, rd, re, h⟩ => ?_⟩
  unfold dEq at h
  split at h
  · cases rd; cases re
    exact op_ne pins s σ H _ _ v u Q I rx ry ⟨rfl, by rw [dec_int]; exact h _ H (LeH.refl H) rep rfl⟩
  · cases rd; cases re
    exact op_ne pins s σ H _ _ v u Q I rx ry ⟨rfl, by rw [dec_str]; exact h _ H (LeH.refl H) rep rfl⟩
  · cases rd; cases re
    exact op_ne pins s σ H _ _ v u Q I rx ry ⟨rfl, by rw [dec_bl]; exact h _ H (LeH.refl H) rep rfl⟩
  · cases rd; cases re
    exact op_ne pins s σ H _ _ v u Q I rx ry ⟨rfl, h _ H (LeH.refl H) rep rfl⟩
  · cases rd; cases re
    exact op_ne pins s σ H _ _ v u Q I rx ry ⟨rfl, h _ H (LeH.refl H) rep rfl⟩
  · cases rd; cases re
    exact op_ne pins s σ H _ _ v u Q I rx ry ⟨rfl, h _ H (LeH.refl H) rep rfl⟩
  · cases rd; cases re
    exact op_ne pins s σ H _ _ v u Q I rx ry ⟨rfl, h _ H (LeH.refl H) rep rfl⟩
  · obtain ⟨p, q, h1, h2, h3, h4, h⟩ := h
    exact op_neD hu pins s σ H _ _ v u Q I rx ry ⟨p, q, h1.dp rep p _ x rd, h2.dp rep q _ y re, h3, h4, h _ H (LeH.refl H) rep rfl⟩
/-- is None, is not None -/
@[simp] def isNon : D → Bool
  | .non => true
  | _ => false
@[simp] def dIsN (neg : Bool) : R2D := fun d e S Q => match e with | .non => Q (.bl (if neg then !isNon d else isNon d)) S | _ => False
theorem rd_non {K : PySem.W.Frag} {H : Hp} {d : D} {v : V} (r : RD K H d v) : decide (v = .non) = isNon d := by
  cases d with
  | non => cases r; rfl
  | tup ds => obtain ⟨p, xs, rfl, _⟩ : ∃ p xs, v = V.ref p ∧ SqT K H p xs ∧ RDs K H ds xs := r; rfl
  | rol ds => obtain ⟨p, xs, rfl, _⟩ : ∃ p xs, v = V.ref p ∧ SqR K H p xs ∧ RDs K H ds xs := r; rfl
  | _ => cases r; rfl
theorem od_is : OpD X (compareOp .Is) (dIsN false) := by
  refine ⟨fun x y S Q Q' k h => ?_, fun pins s σ H x y v u Q I rx ry ⟨d, e, S, rep, rd, re, h⟩ => ?_⟩
  · cases y <;> first | exact h.elim | exact k _ _ h
  · cases e <;> first | exact h.elim | skip
    cases re
    exact op_isN pins s σ H _ _ v u Q I rx ry ⟨rfl, by rw [rd_non rd]; exact h _ H (LeH.refl H) rep rfl⟩
/-- in, not in: signs in a text; data in a list or tuple of data -/
def inP (p : PyData) (ps : List PyData) : Bool := ps.any fun z => PyData.eqv z p
@[simp] def dInS (neg : Bool) : R2D := fun d e S Q => match d, e with | .str x, .str y => Q (.bl (if neg then !(!(Builtin.Str.occurrences y x 0 y.length 1).isEmpty) else !(Builtin.Str.occurrences y x 0 y.length 1).isEmpty)) S | _, _ => False
def dInL (neg : Bool) : R2D := fun d e S Q => ∃ p ps, Pd S d p ∧ Pd S e (.list ps) ∧ SeqAt.shaped p = true ∧ SeqAt.shaped (.list ps) = true ∧ Q (.bl (if neg then !inP p ps else inP p ps)) S
theorem od_inL (hu : X.A.units + 65 < cLine) : OpD X (compareOp .In) (dInL false) := by
  refine ⟨fun x y S Q Q' k ⟨p, q, h1, h2, h3, h4, h⟩ => ⟨p, q, h1, h2, h3, h4, k _ _ h⟩, fun pins s σ H x y v u Q I rx ry ⟨d, e, S, rep, rd, re, p, q, h1, h2, h3, h4, h⟩ => ?_⟩
  exact op_inD hu pins s σ H _ _ v u Q I rx ry ⟨p, q, h1.dp rep p d x rd, h2.dp rep _ e y re, h3, h4, h _ H (LeH.refl H) rep rfl⟩
theorem od_ninL (hu : X.A.units + 65 < cLine) : OpD X (compareOp .NotIn) (dInL true) := by
  refine ⟨fun x y S Q Q' k ⟨p, q, h1, h2, h3, h4, h⟩ => ⟨p, q, h1, h2, h3, h4, k _ _ h⟩, fun pins s σ H x y v u Q I rx ry ⟨d, e, S, rep, rd, re, p, q, h1, h2, h3, h4, h⟩ => ?_⟩
  exact op_notInD hu pins s σ H _ _ v u Q I rx ry ⟨p, q, h1.dp rep p d x rd, h2.dp rep _ e y re, h3, h4, h _ H (LeH.refl H) rep rfl⟩

/-! ### calls of built-ins -/
abbrev RCD := List D → DH → DK → Prop
def MonoC (r : RCD) : Prop := ∀ ds S (Q Q' : DK), (∀ d S', Q d S' → Q' d S') → r ds S Q → r ds S Q'
def upC (w : World) (K : PySem.W.Frag) (r : RCD) : List V → Hp → VK → Prop := fun vs H Q => ∃ ds S, Rep w K S H ∧ RDs K H ds vs ∧ r ds S (lQ w K H Q)
structure CallD (X : Cx) (f : Value) (r : RCD) : Prop where
  mono : MonoC r
  run : CallR X f (upC X.w X.K r)
@[simp] def dCB (r : RCD) (t : DTA) : DTE := fun E τ S Q => t E τ S fun ds S1 => r ds S1 Q
variable {x : Str} {p pos : Pos} {e : Expr} {es : List Expr} {t : DTA} {id T : String} {r : RCD}
theorem dCB_up (hr : MonoC r) (ha : DA X es t) {σ : L2.St} {H : Hp} {Q : VK} (h : upE X (dCB r t) σ H Q) : tCB (upC X.w X.K r) (upA X t) σ H Q := by
  obtain ⟨E, τ, S, w, rl, q⟩ := h
  exact ha.to w rl q fun ds S1 vs H1 le w1 r1 rd h => ⟨ds, S1, r1.rep, rd, hr _ _ _ _ (fun d S' z v H' le2 rp rv => z v H' (le.trans le2) rp rv) h⟩
theorem de_callB (hc : CallD X (.builtin id) r) (hg : Gl X x) (hm : X.mg x = none) (hv : bootBuiltins x = some (.builtin id)) (ha : DA X (e :: es) t) (hn : x ≠ "__name__" := by decide) (hdb : (x == ("__debug__" : Str)) = false := by decide)
    (he : starEach (e :: es) X.env = (false, eval e X.env) :: starEach es X.env := by rfl) (hpl : (backTo pos (starEach es X.env)).any (·.1) = false := by rfl) : DE X (.Call (.Name x p) (e :: es) [] pos) (dCB r t) :=
  ⟨fun _ _ _ _ _ _ hE k q => ha.mono _ _ _ _ _ _ hE (fun _ _ z => hc.mono _ _ _ _ k z) q, pE_imp (pe_callB hc.run hg hm hv ha.run hn hdb he hpl) fun _ _ _ h => dCB_up hc.mono ha h⟩
theorem de_callTy (hc : CallD X (.type T) r) (hg : Gl X x) (hm : X.mg x = none) (hv : bootBuiltins x = some (.type T)) (ha : DA X (e :: es) t) (hn : x ≠ "__name__" := by decide) (hdb : (x == ("__debug__" : Str)) = false := by decide)
    (he : starEach (e :: es) X.env = (false, eval e X.env) :: starEach es X.env := by rfl) (hpl : (backTo pos (starEach es X.env)).any (·.1) = false := by rfl) : DE X (.Call (.Name x p) (e :: es) [] pos) (dCB r t) :=
  ⟨fun _ _ _ _ _ _ hE k q => ha.mono _ _ _ _ _ _ hE (fun _ _ z => hc.mono _ _ _ _ k z) q, pE_imp (pe_callTy hc.run hg hm hv ha.run hn hdb he hpl) fun _ _ _ h => dCB_up hc.mono ha h⟩
theorem rds1 {K : PySem.W.Frag} {H : Hp} {d : D} {vs : List V} (r : RDs K H [d] vs) : ∃ v, vs = [v] ∧ RD K H d v := by
  obtain ⟨v, _, rfl, h, rfl⟩ := r
  exact ⟨v, rfl, h⟩
theorem rds2 {K : PySem.W.Frag} {H : Hp} {d e : D} {vs : List V} (r : RDs K H [d, e] vs) : ∃ v u, vs = [v, u] ∧ RD K H d v ∧ RD K H e u := by
  obtain ⟨v, _, rfl, h, u, _, rfl, h2, rfl⟩ := r
  exact ⟨v, u, rfl, h, h2⟩
/-- repr -/
def cRepr : RCD := fun ds S Q => match ds with | [d] => ∃ p, Pd S d p ∧ p.showable = true ∧ p.depth ≤ 100 ∧ p.shown.length ≤ sizeLine ∧ Q (.str p.shown) S | _ => False
end
end Dt
set_option maxRecDepth 100000
set_option maxHeartbeats 4000000
/-! Dat5: subscripts, slices, dicts, built-ins, methods, what is walked. -/
namespace Dt
open PySem PySem.Spec L2

/-! ### keys -/
@[simp] def dkey : D → Option Key
  | .int i => some (.inl i)
  | .str x => some (.inr x)
  | _ => none
def dkeys : List D → Option (List Key)
  | [] => some []
  | d :: ds => match dkey d, dkeys ds with | some k, some ks => some (k :: ks) | _, _ => none
def tkey : D → Option (List Key)
  | .tup ds => dkeys ds
  | _ => none
section
variable {w : World} {K : PySem.W.Frag} {S : DH} {H : Hp}
theorem dkey_rd {d : D} {k : Key} {v : V} (e : dkey d = some k) (r : RD K H d v) : v = kV k := by
  cases d <;> cases e <;> exact r
/-- a key tuple of the heap: not one of the written part -/
def TrkT (K : PySem.W.Frag) (H : Hp) (d : D) (v : V) : Prop := ∃ p ks, v = .ref p ∧ tkey d = some ks ∧ H p = some (.tup (ks.map kV))
end
/-- the tuple that a value stands for is tracked itself -/
theorem sqT_split {K : PySem.W.Frag} {H : Hp} {p : Addr} {xs : List V} (h : SqT K H p xs) : H p = some (.tup xs) ∨ (∃ o, H p = some (.frz o (.tup xs))) ∨ ∃ (o : Obj) (its : Array Value) (n : Nat), K.lookup p = some o ∧ o.cls = .type "tuple" ∧ o.data = .seq its n ∧ its.size ≤ sizeLine ∧ Vals xs its.toList := by
  rcases h with (h | h) | h
  · exact .inl h
  · exact .inr (.inl h)
  · exact .inr (.inr h)

/-! ### o[i] -/
@[simp] def dIxS : R2D := fun d e S Q => match d, e with
  | .tup ds, .int i => opt (atI ds i) fun x => Q x S
  | .rol ds, .int i => opt (atI ds i) fun x => Q x S
  | .str z, .int i => z.length ≤ sizeLine ∧ opt (atI z.cps.toList i) fun c => Q (.str ⟨#[c]⟩) S
  | .ref a, e => (match S a with
    | some (.lst ds) => (match e with | .int i => opt (atI ds i) fun x => Q x S | _ => False)
    | some (.dK kvs) => opt (dkey e) fun k => opt (lk kvs k) fun x => Q x S
    | some (.dN kvs) => okT e = true ∧ opt (lk kvs e) fun x => Q x S
    | _ => False)
  | _, _ => False
def IxD (X : Cx) (r : R2D) : Prop := Mono2 r ∧ IxR X (upO X.w X.K r)
theorem atI_of {K : PySem.W.Frag} {H : Hp} {ds : List D} {xs : List V} {i : Int} {d : D} (r : RDs K H ds xs) (e : atI ds i = some d) : ∃ v, atI xs i = some v ∧ RD K H d v := by
  unfold atI at e ⊢
  rw [← r.length]
  cases q : ixN ds.length i with
  | none => rw [q] at e; cases e
  | some j =>
    rw [q] at e
    exact r.get e
section
variable {X : Cx} {a b : Expr} {ta tb : DTE} {pos : Pos}
theorem ixD_any (hu : X.A.units + 120 < cLine) : IxD X dIxS := by
  refine ⟨fun x y S Q Q' k h => ?_, fun value slice pins s σ H x y v u Q I rx ry ⟨d, e, S, rep, rd, re, h⟩ hs => ?_⟩
  · cases x with
    | tup ds => cases y <;> first | exact h.elim | exact opt_mono (fun _ z => k _ _ z) h
    | rol ds => cases y <;> first | exact h.elim | exact opt_mono (fun _ z => k _ _ z) h
    | str z => cases y <;> first | exact h.elim | exact ⟨h.1, opt_mono (fun _ z => k _ _ z) h.2⟩
    | ref a =>
      revert h
      show (match S a with | some (.lst ds) => _ | some (.dK kvs) => _ | some (.dN kvs) => _ | _ => False) → (match S a with | some (.lst ds) => _ | some (.dK kvs) => _ | some (.dN kvs) => _ | _ => False)
      split
      · intro h
        cases y <;> first | exact h.elim | exact opt_mono (fun _ z => k _ _ z) h
      · exact fun h => opt_mono (fun _ z => opt_mono (fun _ z => k _ _ z) z) h
      · exact fun h => ⟨h.1, opt_mono (fun _ z => k _ _ z) h.2⟩
      · exact fun h => h
    | _ => exact h.elim
  · cases d with
    | tup ds =>
      cases e <;> first | exact h.elim | skip
      rename_i i
      cases re
      obtain ⟨p, xs, rfl, sq, rs⟩ : ∃ p xs, x = V.ref p ∧ SqT X.K H p xs ∧ RDs X.K H ds xs := rd
      obtain ⟨z, e1, q⟩ := opt_ex h
      obtain ⟨w, e2, rw2⟩ := atI_of rs e1
      exact ix_tup value slice pins s σ H _ _ v u Q I rx ry ⟨p, xs, i, w, rfl, rfl, sq, e2, q w H (LeH.refl H) rep rw2⟩ hs
    | rol ds =>
      cases e <;> first | exact h.elim | skip
      rename_i i
      cases re
      obtain ⟨p, xs, rfl, sq, rs⟩ : ∃ p xs, x = V.ref p ∧ SqR X.K H p xs ∧ RDs X.K H ds xs := rd
      obtain ⟨z, e1, q⟩ := opt_ex h
      obtain ⟨w, e2, rw2⟩ := atI_of rs e1
      exact ix_list value slice pins s σ H _ _ v u Q I rx ry ⟨p, xs, i, w, rfl, rfl, sq.l, e2, q w H (LeH.refl H) rep rw2⟩ hs
    | str z =>
      cases e <;> first | exact h.elim | skip
      rename_i i
      cases re
      cases rd
      obtain ⟨c, e1, q⟩ := opt_ex h.2
      exact ix_str value slice pins s σ H _ _ v u Q I rx ry ⟨z, i, c, rfl, rfl, h.1, e1, q _ H (LeH.refl H) rep rfl⟩ hs
    | ref a =>
      cases rd
      revert h
      show (match S a with | some (.lst ds) => _ | some (.dK kvs) => _ | some (.dN kvs) => _ | _ => False) → _
      split
      · rename_i ds ea
        intro h
        cases e <;> first | exact h.elim | skip
        rename_i i
        cases re
        obtain ⟨xs, e0, rs⟩ : ∃ xs, H a = some (.lst xs) ∧ RDs X.K H ds xs := rep a _ ea
        obtain ⟨z, e1, q⟩ := opt_ex h
        obtain ⟨w, e2, rw2⟩ := atI_of rs e1
        exact ix_list value slice pins s σ H _ _ v u Q I rx ry ⟨a, xs, i, w, rfl, rfl, .of e0, e2, q w H (LeH.refl H) rep rw2⟩ hs
      · rename_i kvs ea
        intro h
        obtain ⟨ws, e0, rk⟩ : ∃ ws, H a = some (.dK ws) ∧ RKs X.K H kvs ws := rep a _ ea
        obtain ⟨k, ek, h⟩ := opt_ex h
        obtain ⟨z, el, q⟩ := opt_ex h
        obtain ⟨w, ew, rw2⟩ := rk.ss el
        have ey := dkey_rd ek re
        subst ey
        cases rx
        have g : DGet H a (kV k) (some w) := ew ▸ DGet.k e0
        exact PyProof.Rows.tail_any (dict_typeIs I g) PySem.F.slot_dict_getitem.lookup (d_getItem (by omega) I g ry fun w' s3 I3 r3 => ⟨w, H, I3, r3, q w H (LeH.refl H) rep rw2⟩) hs
      · rename_i kvs ea
        rintro ⟨hk, h⟩
        obtain ⟨z, el, q⟩ := opt_ex h
        obtain ⟨xs, dd, rx', hsys, hl, nd, mu⟩ := dn_open I (rep a _ ea)
        obtain ⟨nk, b, ek, _, rfl, rfl, his⟩ := okT_key I hk re ry
        obtain ⟨p, hp, w, rw1, rw2⟩ := rx'.ss ek el
        cases rx
        exact PyProof.Rows.tail_any dd.typeIs PySem.F.slot_dict_getitem.lookup (wpAny_getItem_heap (show X.A.units + 1 + 8 < cLine by omega) his dd hp ⟨w, H, I.tok _, rw1, q w H (LeH.refl H) rep rw2⟩) hs
      · exact fun h => h.elim
    | _ => exact h.elim
theorem de_ix {r : R2D} (hr : IxD X r) (ha : DE X a ta) (hb : DE X b tb) (hs : PlainIx b := by exact fun _ _ => rfl) : DE X (.Subscript a b pos) (dOp r ta tb) :=
  ⟨fun _ _ _ _ _ _ he k q => dOp_mono ha hb hr.1 he k q, pE_imp (pe_ix hr.2 ha.run hb.run hs) fun _ _ _ h => dOp_up ha hb hr.1 h⟩
end

/-! ### o[i:j] -/
abbrev DTO := DW → DSt → DH → (Option Int → DH → Prop) → Prop
def upP (X : Cx) (t : DTO) : TO := fun σ H Q => ∃ E τ S, Wish X E H ∧ Rel X.w X.K τ S σ H ∧ t E τ S fun o S' => ∀ H', LeH H H' → Rep X.w X.K S' H' → Q o H'
structure DO (X : Cx) (e : Option Expr) (t : DTO) : Prop where
  mono : ∀ (E E' : DW) τ S (Q Q' : Option Int → DH → Prop), (∀ C fs τ S, E C fs τ S → E' C fs τ S) → (∀ d S', Q d S' → Q' d S') → t E τ S Q → t E' τ S Q'
  run : PO X e (upP X t)
@[simp] def dNoP : DTO := fun _ _ S Q => Q none S
@[simp] def dSoP (te : DTE) : DTO := fun E τ S Q => te E τ S fun d S' => match d with | .int i => Q (some i) S' | _ => False
section
variable {X : Cx} {e o : Expr} {lo hi : Option Expr} {te to : DTE} {tl th : DTO} {pos p2 : Pos}
theorem pP_imp {e : Option Expr} {t t' : TO} (h : PO X e t) (k : ∀ σ H Q, t' σ H Q → t σ H Q) : PO X e t' := ⟨fun pins s σ H Q I q => h.run pins s σ H Q I (k σ H Q q)⟩
theorem do_none : DO X none dNoP := ⟨fun _ _ _ _ _ _ _ k q => k _ _ q, pP_imp po_none fun σ H Q ⟨E, τ, S, w, r, q⟩ => q H (LeH.refl H) r.rep⟩
theorem do_some (h : DE X e te) : DO X (some e) (dSoP te) := by
  refine ⟨fun E E' τ S Q Q' he k q => h.mono _ _ _ _ _ _ he (fun d S' z => ?_) q, pP_imp (po_some h.run) fun σ H Q ⟨E, τ, S, w, r, q⟩ => ?_⟩
  · cases d <;> first | exact z.elim | exact k _ _ z
  · refine h.to w r q fun d S' v H' le w' r' rd z => ?_
    cases d <;> first | exact z.elim | skip
    exact ⟨_, rd, z H' le r'.rep⟩
theorem DO.lead {t : DTO} (h : DO X lo t) {E : DW} {τ : DSt} {S : DH} {σ : L2.St} {H : Hp} {Q0 : Option Int → DH → Prop} {Q : Option Int → Hp → Prop} (w : Wish X E H) (r : Rel X.w X.K τ S σ H) (q : t E τ S Q0)
    (k : ∀ b S' H', LeH H H' → Wish X E H' → Rel X.w X.K τ S' σ H' → Q0 b S' → Q b H') : upP X t σ H Q :=
  ⟨E, τ, S, w, r, h.mono _ _ _ _ _ _ (fun _ _ _ _ z => z) (fun d S' z H' le rp => k d S' H' le (w.le le) (r.le le rp) z) q⟩
def cutD (ds : List D) (lo hi : Option Int) : List D := (ds.drop (HT.sIx ds.length 0 lo)).take (HT.sIx ds.length ds.length hi - HT.sIx ds.length 0 lo)
theorem cut_rd {K : PySem.W.Frag} {H : Hp} {ds : List D} {xs : List V} (r : RDs K H ds xs) (lo hi : Option Int) : RDs K H (cutD ds lo hi) (cutV xs lo hi) := by
  unfold cutD cutV
  rw [r.length]
  exact (r.drop _).take _
@[simp] def dSl (to : DTE) (tl th : DTO) : DTE := fun E τ S Q => to E τ S fun d S1 => tl E τ S1 fun l S2 => th E τ S2 fun h S3 => match d with
  | .str z => z.length ≤ sizeLine ∧ Q (.str (cutS z l h)) S3
  | .tup ds => Q (.tup (cutD ds l h)) S3
  | .ref a => (match S3 a with | some (.lst ds) => newO S3 (.lst (cutD ds l h)) fun p S' => Q (.ref p) S' | _ => False)
  | .rol ds => newO S3 (.lst (cutD ds l h)) fun p S' => Q (.ref p) S'
  | _ => False
theorem de_sl (ho : DE X o to) (hl : DO X lo tl) (hh : DO X hi th) : DE X (.Subscript o (.Slice lo hi none p2) pos) (dSl to tl th) := by
  refine ⟨fun E E' τ S Q Q' he k q => ho.mono _ _ _ _ _ _ he (fun d S1 z => hl.mono _ _ _ _ _ _ he (fun l S2 z => hh.mono _ _ _ _ _ _ he (fun h S3 z => ?_) z) z) q,
    pE_imp (pe_slice (sl_list.or (sl_tupA.or sl_str)) ho.run hl.run hh.run) fun σ H Q ⟨E, τ, S, w, r, q⟩ => ?_⟩
  · cases d with
    | str x => exact ⟨z.1, k _ _ z.2⟩
    | tup ds => exact k _ _ z
    | rol ds => exact fun p hp => k _ _ (z p hp)
    | ref a =>
      revert z
      show (match S3 a with | some (.lst ds) => _ | _ => False) → (match S3 a with | some (.lst ds) => _ | _ => False)
      split
      · exact fun z p hp => k _ _ (z p hp)
      · exact fun z => z
    | _ => exact z
  · refine ho.to w r q fun d S1 x H1 le1 w1 r1 rd z => hl.lead w1 r1 z fun l S2 H2 le2 w2 r2 z => hh.lead w2 r2 z fun h S3 H3 le3 w3 r3 z => ?_
    have rd3 := rd.le (le2.trans le3)
    have le := le1.trans (le2.trans le3)
    cases d with
    | str x =>
      cases rd
      exact .inr (.inr ⟨_, rfl, z.1, z.2 _ H3 le r3.rep rfl⟩)
    | tup ds =>
      obtain ⟨p, xs, rfl, sq, rs⟩ : ∃ p xs, x = V.ref p ∧ SqT X.K H3 p xs ∧ RDs X.K H3 ds xs := rd3
      refine .inr (.inl ⟨p, xs, rfl, sq, fun ⟨h1, h2⟩ => z _ H3 le r3.rep ⟨p, xs, rfl, sq, ?_⟩, fun _ q hq => ?_⟩)
      · have : cutD ds l h = ds := by
          unfold cutD
          rw [rs.length, h1, h2, List.drop_zero, Nat.sub_zero, ← rs.length, List.take_length]
        rw [this]
        exact rs
      · exact z _ _ (le.trans (LeH.new hq)) (r3.rep.garb hq) ⟨q, _, rfl, .of upd_same, (cut_rd rs l h).le (LeH.new hq)⟩
    | rol ds =>
      obtain ⟨p, xs, rfl, sq, rs⟩ : ∃ p xs, x = V.ref p ∧ SqR X.K H3 p xs ∧ RDs X.K H3 ds xs := rd3
      refine .inl ⟨p, xs, rfl, sq.l, fun q hq => ?_⟩
      exact z q (r3.rep.free hq) _ _ (le.trans (LeH.new hq)) (r3.rep.new hq (o := .lst (cutD ds l h)) ⟨_, upd_same, (cut_rd rs l h).le (LeH.new hq)⟩) rfl
    | ref a =>
      cases rd
      revert z
      show (match S3 a with | some (.lst ds) => _ | _ => False) → _
      split
      · rename_i ds ea
        intro z
        obtain ⟨xs, e0, rs⟩ : ∃ xs, H3 a = some (.lst xs) ∧ RDs X.K H3 ds xs := r3.rep a _ ea
        refine .inl ⟨a, xs, rfl, .of e0, fun q hq => ?_⟩
        exact z q (r3.rep.free hq) _ _ (le.trans (LeH.new hq)) (r3.rep.new hq (o := .lst (cutD ds l h)) ⟨_, upd_same, (cut_rd rs l h).le (LeH.new hq)⟩) rfl
      · exact fun z => z.elim
    | _ => exact z.elim
@[simp] def dSlF (to : DTE) (tl th : DTO) : DTE := fun E τ S Q => to E τ S fun d S1 => tl E τ S1 fun l S2 => th E τ S2 fun h S3 => match d with
  | .str z => z.length ≤ sizeLine ∧ Q (.str (cutS z l h)) S3
  | .tup ds => Q (.tup (cutD ds l h)) S3
  | d => opt (seqD S3 d) fun ds => Q (.rol (cutD ds l h)) S3
theorem de_slF (ho : DE X o to) (hl : DO X lo tl) (hh : DO X hi th) : DE X (.Subscript o (.Slice lo hi none p2) pos) (dSlF to tl th) :=
  (de_fz (de_sl ho hl hh)).sub (fun E E' τ S Q Q' he k q => ho.mono _ _ _ _ _ _ he (fun d S1 z => hl.mono _ _ _ _ _ _ he (fun l S2 z => hh.mono _ _ _ _ _ _ he (fun h S3 z => by
      cases d with
      | str x => exact ⟨z.1, k _ _ z.2⟩
      | tup ds => exact k _ _ z
      | _ => exact opt_mono (fun _ q => k _ _ q) z) z) z) q)
    fun E τ S Q q => ho.mono _ _ _ _ _ _ (fun _ _ _ _ z => z) (fun d S1 z => hl.mono _ _ _ _ _ _ (fun _ _ _ _ z => z) (fun l S2 z => hh.mono _ _ _ _ _ _ (fun _ _ _ _ z => z) (fun h S3 z => by
      cases d with
      | str x => exact ⟨z.1, z.2⟩
      | tup ds => exact z
      | rol ds => exact fun p hp => fzK_new hp z
      | ref a =>
        obtain ⟨ds, e, z⟩ := opt_ex z
        simp only [seqD_ref] at e
        split at e
        · rename_i xs ea
          cases e
          simp only [ea]
          exact fun p hp => fzK_new hp z
        · cases e
      | _ => cases z) z) z) q
end

/-! ### displays -/
section
variable {X : Cx} {es : List Expr} {t : DTA} {pos : Pos}
@[simp] def dTup (t : DTA) : DTE := fun E τ S Q => t E τ S fun ds S1 => ds.length ≤ sizeLine ∧ Q (.tup ds) S1
@[simp] def dLst (t : DTA) : DTE := fun E τ S Q => t E τ S fun ds S1 => ds.length ≤ sizeLine ∧ newO S1 (.lst ds) fun p S' => Q (.ref p) S'
theorem de_tup {x1} (h : DA X es t) : DE X (.Tuple es x1 pos) (dTup t) := by
  refine ⟨fun E E' τ S Q Q' he k q => h.mono _ _ _ _ _ _ he (fun ds S1 z => ⟨z.1, k _ _ z.2⟩) q, pE_imp (pe_tup h.run) fun σ H Q ⟨E, τ, S, w, r, q⟩ => ?_⟩
  refine h.to w r q fun ds S1 vs H1 le w1 r1 rd z => ⟨by rw [← rd.length]; exact z.1, fun p hp => ?_⟩
  exact z.2 _ _ (le.trans (LeH.new hp)) (r1.rep.garb hp) ⟨p, vs, rfl, .of upd_same, rd.le (LeH.new hp)⟩
theorem de_lst (h : DA X es t) : DE X (.List es pos) (dLst t) := by
  refine ⟨fun E E' τ S Q Q' he k q => h.mono _ _ _ _ _ _ he (fun ds S1 z => ⟨z.1, fun p hp => k _ _ (z.2 p hp)⟩) q, pE_imp (pe_lst h.run) fun σ H Q ⟨E, τ, S, w, r, q⟩ => ?_⟩
  refine h.to w r q fun ds S1 vs H1 le w1 r1 rd z => ⟨by rw [← rd.length]; exact z.1, fun p hp => ?_⟩
  exact z.2 p (r1.rep.free hp) _ _ (le.trans (LeH.new hp)) (r1.rep.new hp (o := .lst ds) ⟨vs, upd_same, rd.le (LeH.new hp)⟩) rfl
@[simp] def dLstF (t : DTA) : DTE := fun E τ S Q => t E τ S fun ds S1 => ds.length ≤ sizeLine ∧ Q (.rol ds) S1
theorem de_lstF (h : DA X es t) : DE X (.List es pos) (dLstF t) := (de_fz (de_lst h)).sub (fun E E' τ S Q Q' he k q => h.mono _ _ _ _ _ _ he (fun ds S1 z => ⟨z.1, k _ _ z.2⟩) q) fun E τ S Q q => h.mono _ _ _ _ _ _ (fun _ _ _ _ z => z) (fun ds S1 z => ⟨z.1, fun p hp => fzK_new hp z.2⟩) q
/-- {} with int and text keys; with keys that are tuples of such -/
@[simp] def dDnK : DTE := fun _ _ S Q => newO S (.dK []) fun p S' => Q (.ref p) S'
theorem de_dnK : DE X (.Dict [] [] pos) dDnK := ⟨fun _ _ _ _ _ _ _ k q p hp => k _ _ (q p hp), pE_imp pe_dnewK fun σ H Q ⟨E, τ, S, w, r, q⟩ p hp => q p (r.rep.free hp) _ _ (LeH.new hp) (r.rep.new hp (o := .dK []) ⟨[], upd_same, rfl⟩) rfl⟩
/-- {k: v, ..}, the keys written texts -/
@[simp] def dPairs : List (Str × DTE) → DW → DSt → DH → (List (Key × D) → DH → Prop) → Prop
  | [], _, _, S, Q => Q [] S
  | (k, tv) :: r, E, τ, S, Q => tv E τ S fun d S1 => dPairs r E τ S1 fun kvs S2 => Q ((Sum.inr k, d) :: kvs) S2
def mergeD (kvs more : List (Key × D)) : List (Key × D) := more.foldl (fun acc kv => pt acc kv.1 kv.2) kvs
theorem merge_rk {K : PySem.W.Frag} {H : Hp} : ∀ {more kvs : List (Key × D)} {ms ws : List (Key × V)}, RKs K H more ms → RKs K H kvs ws → RKs K H (mergeD kvs more) (mergeK ws ms)
  | [], _, _, _, h, k => by cases h; exact k
  | (j, d) :: r, _, _, _, h, k => by
    obtain ⟨v, s, rfl, h1, h2⟩ := h
    show RKs K H (mergeD (pt _ j d) r) (mergeK (putK _ j v) s)
    exact merge_rk h2 (k.pt h1)
@[simp] def dDisp (prs : List (Str × DTE)) : DTE := fun E τ S Q => newO S (.dK []) fun p S1 => dPairs prs E τ S1 fun kvs S2 => S2 p = some (.dK []) ∧ Q (.ref p) (upo S2 p (.dK (mergeD [] kvs)))
inductive DPs (X : Cx) (pos : Pos) : List (Option Expr) → List Expr → List (Str × DTE) → Prop where
  | nil : DPs X pos [] [] []
  | cons {k : Str} {j : Nat} {kp : Pos} {v : Expr} {ks : List (Option Expr)} {vs : List Expr} {tv : DTE} {prs : List (Str × DTE)} : DE X v tv → DPs X pos ks vs prs → DPs X pos (some (.Constant (.str k) j kp) :: ks) (v :: vs) ((k, tv) :: prs)
def trsOf (X : Cx) (prs : List (Str × DTE)) : List (TE × TE) := prs.map fun q => (tC (.str q.1), upE X q.2)
theorem DPs.pps {ks : List (Option Expr)} {vs : List Expr} {prs : List (Str × DTE)} (h : DPs X pos ks vs prs) : PPs X pos ks vs (trsOf X prs) := by
  induction h with
  | nil => exact pps_nil
  | cons hv _ ih => exact pps_cons pe_str hv.run ih
theorem DPs.mono {ks : List (Option Expr)} {vs : List Expr} {prs : List (Str × DTE)} (h : DPs X pos ks vs prs) : ∀ (E E' : DW) τ S (Q Q' : List (Key × D) → DH → Prop), (∀ C fs τ S, E C fs τ S → E' C fs τ S) → (∀ d S', Q d S' → Q' d S') → dPairs prs E τ S Q → dPairs prs E' τ S Q' := by
  induction h with
  | nil => exact fun _ _ _ _ _ _ _ k q => k _ _ q
  | cons hv _ ih => exact fun _ _ _ _ _ _ he k q => hv.mono _ _ _ _ _ _ he (fun d S1 z => ih _ _ _ _ _ _ he (fun _ _ z => k _ _ z) z) q
theorem DPs.to {ks : List (Option Expr)} {vs : List Expr} {prs : List (Str × DTE)} (h : DPs X pos ks vs prs) : ∀ {E : DW} {τ : DSt} {S : DH} {σ : L2.St} {H : Hp} {Q0 : List (Key × D) → DH → Prop} {Q : List (V × V) → Hp → Prop}, Wish X E H → Rel X.w X.K τ S σ H → dPairs prs E τ S Q0 →
    (∀ kvs S' (ws : List (Key × V)) H', LeH H H' → Wish X E H' → Rel X.w X.K τ S' σ H' → RKs X.K H' kvs ws → kvs.length = prs.length → Q0 kvs S' → Q (ws.map fun kv => (kV kv.1, kv.2)) H') → tPairs (trsOf X prs) σ H Q := by
  induction h with
  | nil => exact fun w r q k => k [] _ [] _ (LeH.refl _) w r rfl rfl q
  | @cons kk j kp v ks vs tv prs hv _ ih =>
    intro E τ S σ H Q0 Q w r q k
    refine hv.to w r q fun d S1 x H1 le1 w1 r1 rd z => ih w1 r1 z fun kvs S2 ws H2 le2 w2 r2 rk hl z => ?_
    exact k ((Sum.inr kk, d) :: kvs) S2 ((Sum.inr kk, x) :: ws) H2 (le1.trans le2) w2 r2 ⟨x, ws, rfl, rd.le le2, rk⟩ (by simp [hl]) z
theorem de_disp {ks : List (Option Expr)} {vs : List Expr} {prs : List (Str × DTE)} (h : DPs X pos ks vs prs) (hall : ks.all (·.isSome) = true := by rfl) (hl : ks.length = vs.length := by rfl) (h0 : ks ≠ [] := by exact fun z => nomatch z) (h15 : ks.length ≤ 15 := by decide) (h16 : prs.length ≤ 15 := by decide) : DE X (.Dict ks vs pos) (dDisp prs) := by
  refine ⟨fun E E' τ S Q Q' he k q p hp => h.mono _ _ _ _ _ _ he (fun kvs S2 z => ⟨z.1, k _ _ z.2⟩) (q p hp), pE_imp (pe_disp h.pps hall hl h0 h15) fun σ H Q ⟨E, τ, S, w, r, q⟩ p hp => ?_⟩
  have le0 : LeH H (upd H p (.dK [])) := LeH.new hp
  have r0 : Rel X.w X.K τ (upo S p (.dK [])) σ (upd H p (.dK [])) := r.le le0 (r.rep.new hp (o := .dK []) ⟨[], upd_same, rfl⟩)
  refine h.to (w.le le0) r0 (q p (r.rep.free hp)) fun kvs S2 ws H2 le2 w2 r2 rk hlen z => ?_
  obtain ⟨ws0, e0, rk0⟩ : ∃ ws, H2 p = some (.dK ws) ∧ RKs X.K H2 [] ws := r2.rep p _ z.1
  cases rk0
  have le3 : LeH H2 (upd H2 p (.dK (mergeK [] ws))) := LeH.put e0 trivial
  exact ⟨e0, ws, rfl, by rw [← rk.length, hlen]; exact h16, z.2 _ _ (le0.trans (le2.trans le3)) (r2.rep.put e0 trivial (o := .dK (mergeD [] kvs)) ⟨_, upd_same, (merge_rk rk (show RKs X.K H2 ([] : List (Key × D)) [] from rfl)).le le3⟩) rfl⟩
end

/-! ### o[i] = e -/
section
variable {X : Cx} {o i value : Expr} {to ti tv : DTE} {pos pos' : Pos}
/-- what the place's object becomes -/
@[simp] def putO (ob : Ob) (k v : D) : Option Ob := match ob, k with
  | .lst ds, .int i => (ixN ds.length i).map fun j => .lst (ds.set j v)
  | .dK kvs, k => (dkey k).bind fun kk => if kvs.length < sizeLine then some (.dK (pt kvs kk v)) else none
  | .dN kvs, k => if okT k = true ∧ kvs.length < sizeLine then some (.dN (pt kvs k v)) else none
  | _, _ => none
@[simp] def dPut (to ti tv : DTE) : DTS := fun A τ S => tv A.xe τ S fun v S1 => to A.xe τ S1 fun d S2 => ti A.xe τ S2 fun k S3 => match d with
  | .ref a => opt (S3 a) fun ob => opt (putO ob k v) fun ob' => A.nx τ (upo S3 a ob')
  | _ => False
/-- what a store asks, told of data -/
def rPutD (K : PySem.W.Frag) (w : World) : TSet := fun o i v H Q => rSetL o i v H Q ∨ (∃ a H4, o = .ref a ∧ DPut H a i v H4 ∧ Q H4) ∨
  ∃ a kvs k d, o = .ref a ∧ ROb w K H a (.dN kvs) ∧ okT k = true ∧ RD K H k i ∧ RD K H d v ∧ kvs.length < sizeLine ∧ ∀ rows, LeH H (upd H a (dnHO w rows a)) → ROb w K (upd H a (dnHO w rows a)) a (.dN (pt kvs k d)) → Q (upd H a (dnHO w rows a))
theorem set_both (hu : X.A.units + 120 < cLine) : PSet X (rPutD X.K X.w) := by
  intro pins s σ H o i v ov iv u Q I ro ri rv h
  rcases h with h | ⟨a, H4, rfl, g, q⟩ | ⟨a, kvs, k, d, rfl, rb, hk, rk, rd, hl, q⟩
  · exact set_list pins s σ H o i v ov iv u Q I ro ri rv h
  · cases ro
    exact d_setItem (by omega) I g ri rv fun s4 I4 => ⟨H4, I4, q⟩
  · cases ro
    obtain ⟨xs, dd, rx', hsys, _, nd, mu⟩ := dn_open I rb
    obtain ⟨nk, b, ek, hd8, rfl, rfl, his⟩ := okT_key I hk rk ri
    refine wpAny_setItem_heap (show X.A.units + 1 + 8 < cLine by omega) his dd (fun h' dd' sb => ?_) (by rw [← rx'.length]; omega)
    obtain ⟨rows, I2, le, rb2⟩ := dn_close (t := s.toks + (nestedKind X.prog X.w).draws nk) I mu hsys (rx'.pt ek hd8 rk rv rd) (by have := pt_len kvs k d; omega) (pt_nodup k d nd) dd' sb
    exact ⟨_, I2, q rows le rb2⟩
theorem ds_put (hu : X.A.units + 120 < cLine) (ho : DE X o to) (hi : DE X i ti) (hv : DE X value tv) (hs : swapsWithSole [.Subscript o i pos'] value pos.line X.env = pure false := by rfl) (hw : swappedStores [.Subscript o i pos'] value X.env = pure none := by rfl)
    (h1 : (assignEach [.Subscript o i pos'] X.env).map (·.2) = [assign (.Subscript o i pos') X.env] := by rfl)
    (ha : ∀ v, assign (.Subscript o i pos') X.env v = (do let ov ← holding [v] (eval o X.env); let iv ← holding [v, ov] (eval i X.env); standAt pos'; holding [v, ov, iv] (setItem ov iv v); release [v, ov, iv] []) := by intro _; rfl) :
    DS X (.Assign [.Subscript o i pos'] value pos) (dPut to ti tv) := by
  refine ⟨fun A B τ S le q => hv.mono _ _ _ _ _ _ le.xe (fun v S1 z => ho.mono _ _ _ _ _ _ le.xe (fun d S2 z => hi.mono _ _ _ _ _ _ le.xe (fun k S3 z => ?_) z) z) q,
    pS_imp (ps_asg hv.run (pg_sub ho.run hi.run (set_both hu) ha) hs hw h1) fun D σ H ⟨E, τ, S, w, r, q⟩ => ?_⟩
  · cases d <;> first | exact z | exact opt_mono (fun _ z => opt_mono (fun _ z => le.nx _ _ z) z) z
  · refine hv.to w r q fun v S1 x H1 le1 w1 r1 rv z => ho.to w1 r1 z fun d S2 y H2 le2 w2 r2 rd z => hi.to w2 r2 z fun k S3 u H3 le3 w3 r3 rk z => ?_
    cases d with
    | ref a =>
      cases rd
      obtain ⟨ob, ea, z⟩ := opt_ex z
      obtain ⟨ob', eo, z⟩ := opt_ex z
      have rv3 := rv.le (le2.trans le3)
      have le := le1.trans (le2.trans le3)
      cases ob with
      | lst ds =>
        cases k with
        | int n =>
          cases rk
          obtain ⟨xs, e0, rs⟩ : ∃ xs, H3 a = some (.lst xs) ∧ RDs X.K H3 ds xs := r3.rep a _ ea
          have eo' : (ixN ds.length n).map (fun j => Ob.lst (ds.set j v)) = some ob' := eo
          cases ej : ixN ds.length n with
          | none =>
            rw [ej] at eo'
            cases eo'
          | some j =>
            rw [ej] at eo'
            cases eo'
            have le4 : LeH H3 (upd H3 a (.lst (xs.set j x))) := LeH.put e0 trivial
            exact .inl ⟨a, xs, n, j, rfl, rfl, e0, by rw [← rs.length]; exact ej, z _ _ (le.trans le4) (r3.le le4 (r3.rep.put e0 trivial (o := .lst (ds.set j v)) ⟨_, upd_same, (rs.set j rv3).le le4⟩))⟩
        | _ => cases eo
      | dK kvs =>
        obtain ⟨ws, e0, rk0⟩ : ∃ ws, H3 a = some (.dK ws) ∧ RKs X.K H3 kvs ws := r3.rep a _ ea
        have eo' : ((dkey k).bind fun kk => if kvs.length < sizeLine then some (Ob.dK (pt kvs kk v)) else none) = some ob' := by
          cases k <;> exact eo
        cases ek : dkey k with
        | none =>
          rw [ek] at eo'
          cases eo'
        | some kk =>
          rw [ek, Option.bind_some] at eo'
          split at eo'
          · rename_i hl
            cases eo'
            have eu := dkey_rd ek rk
            subst eu
            have le4 : LeH H3 (upd H3 a (.dK (putK ws kk x))) := LeH.put e0 trivial
            exact .inr (.inl ⟨a, _, rfl, DPut.k e0 (by rw [← rk0.length]; exact hl), z _ _ (le.trans le4) (r3.le le4 (r3.rep.put e0 trivial (o := .dK (pt kvs kk v)) ⟨_, upd_same, (rk0.pt rv3).le le4⟩))⟩)
          · cases eo'
      | dN kvs =>
        have eo' : (if okT k = true ∧ kvs.length < sizeLine then some (Ob.dN (pt kvs k v)) else none) = some ob' := by
          cases k <;> exact eo
        split at eo'
        · rename_i hk
          cases eo'
          have rb := r3.rep a _ ea
          refine .inr (.inr ⟨a, kvs, k, v, rfl, rb, hk.1, rk, rv3, hk.2, fun rows le4 rb2 => z _ _ (le.trans le4) (r3.le le4 ?_)⟩)
          obtain ⟨rows0, e0, _⟩ := rb
          exact r3.rep.put e0 trivial rb2
        · cases eo'
      | ins C fs => cases k <;> cases eo
      | exc _ _ => cases k <;> cases eo
      | xd _ => cases k <;> cases eo
      | ex0 _ => cases k <;> cases eo
      | ex1 _ _ => cases k <;> cases eo
      | xm _ => cases k <;> cases eo
      | fK _ => cases k <;> cases eo
      | fN _ => cases k <;> cases eo
    | _ => exact z.elim
end
end Dt
set_option maxRecDepth 100000
set_option maxHeartbeats 4000000
/-! Dat6: built-ins by name, methods, what is walked, isinstance, names of the module. -/
namespace Dt
open PySem PySem.Spec L2

section
variable {X : Cx}
/-! ### calls -/
@[simp] def cLen : RCD := fun ds S Q => match ds with
  | [.str z] => z.length ≤ sizeLine ∧ Q (.int z.length) S
  | [.tup xs] => Q (.int xs.length) S
  | [.rol xs] => Q (.int xs.length) S
  | [.ref a] => (match S a with | some (.lst xs) => Q (.int xs.length) S | some (.dK kvs) => Q (.int kvs.length) S | some (.dN kvs) => Q (.int kvs.length) S | _ => False)
  | _ => False
theorem cd_len : CallD X (.builtin "len") cLen := by
  refine ⟨fun ds S Q Q' k h => ?_, fun pins s σ H vs us Q I rv ⟨ds, S, rep, rd, h⟩ => ?_⟩
  · match ds, h with
    | [.str z], h => exact ⟨h.1, k _ _ h.2⟩
    | [.tup xs], h => exact k _ _ h
    | [.rol xs], h => exact k _ _ h
    | [.ref a], h =>
      revert h
      show (match S a with | some (.lst xs) => _ | some (.dK kvs) => _ | some (.dN kvs) => _ | _ => False) → (match S a with | some (.lst xs) => _ | some (.dK kvs) => _ | some (.dN kvs) => _ | _ => False)
      split
      · exact k _ _
      · exact k _ _
      · exact k _ _
      · exact fun h => h
  · match ds, h with
    | [.str z], h =>
      obtain ⟨v, rfl, r⟩ := rds1 rd
      cases r
      exact call_len_str pins s σ H _ us Q I rv ⟨z, rfl, h.1, h.2 _ H (LeH.refl H) rep rfl⟩
    | [.tup xs], h =>
      obtain ⟨v, rfl, r⟩ := rds1 rd
      obtain ⟨p, ys, rfl, sq, rs⟩ : ∃ p ys, v = V.ref p ∧ SqT X.K H p ys ∧ RDs X.K H xs ys := r
      exact call_len_seq pins s σ H _ us Q I rv ⟨p, ys, rfl, .inr sq, by rw [← rs.length]; exact h _ H (LeH.refl H) rep rfl⟩
    | [.rol xs], h =>
      obtain ⟨v, rfl, r⟩ := rds1 rd
      obtain ⟨p, ys, rfl, sq, rs⟩ : ∃ p ys, v = V.ref p ∧ SqR X.K H p ys ∧ RDs X.K H xs ys := r
      exact call_len_seq pins s σ H _ us Q I rv ⟨p, ys, rfl, .inl sq.l, by rw [← rs.length]; exact h _ H (LeH.refl H) rep rfl⟩
    | [.ref a], h =>
      obtain ⟨v, rfl, r⟩ := rds1 rd
      cases r
      revert h
      show (match S a with | some (.lst xs) => _ | some (.dK kvs) => _ | some (.dN kvs) => _ | _ => False) → _
      split
      · rename_i xs ea
        intro h
        obtain ⟨ys, e0, rs⟩ : ∃ ys, H a = some (.lst ys) ∧ RDs X.K H xs ys := rep a _ ea
        exact call_len_seq pins s σ H _ us Q I rv ⟨a, ys, rfl, .inl (.of e0), by rw [← rs.length]; exact h _ H (LeH.refl H) rep rfl⟩
      · rename_i kvs ea
        intro h
        obtain ⟨ws, e0, rk⟩ : ∃ ws, H a = some (.dK ws) ∧ RKs X.K H kvs ws := rep a _ ea
        exact call_lenD pins s σ H _ us Q I rv ⟨a, ws, rfl, e0, by rw [← rk.length]; exact h _ H (LeH.refl H) rep rfl⟩
      · rename_i kvs ea
        intro h
        obtain ⟨xs, dd, rx', hsys, hl, nd, mu⟩ := dn_open I (rep a _ ea)
        rw [Vals.ref1 rv]
        refine call_len_dictH hsys dd (by rw [← rx'.length]; rw [sizeLine_eq] at hl; omega) ?_
        rw [← rx'.length]
        exact ⟨.int ((kvs.length : Nat) : Int), H, I.tok _, ⟨_, rfl⟩, h _ H (LeH.refl H) rep rfl⟩
      · exact fun h => h.elim
@[simp] def cMax2 : RCD := fun ds S Q => match ds with | [.int i, .int j] => Q (.int (if j > i then j else i)) S | _ => False
@[simp] def cMin2 : RCD := fun ds S Q => match ds with | [.int i, .int j] => Q (.int (if j < i then j else i)) S | _ => False
def cMinL : RCD := fun ds S Q => ∃ (d : D) (ns : List Int), ds = [d] ∧ seqD S d = some (ns.map D.int) ∧ 0 < ns.length ∧ ∀ m, m ∈ ns → (∀ y, y ∈ ns → m ≤ y) → Q (.int m) S
def cMaxL : RCD := fun ds S Q => ∃ (d : D) (ns : List Int), ds = [d] ∧ seqD S d = some (ns.map D.int) ∧ 0 < ns.length ∧ ∀ m, m ∈ ns → (∀ y, y ∈ ns → y ≤ m) → Q (.int m) S
def cAll : RCD := fun ds S Q => ∃ (d : D) (bs : List Bool), ds = [d] ∧ seqD S d = some (bs.map D.bl) ∧ Q (.bl (bs.all id)) S
def cAny : RCD := fun ds S Q => ∃ (d : D) (bs : List Bool), ds = [d] ∧ seqD S d = some (bs.map D.bl) ∧ Q (.bl (bs.any id)) S
@[simp] def cList : RCD := fun ds S Q => match ds with
  | [.tup xs] => newO S (.lst xs) fun p S' => Q (.ref p) S'
  | [.rol xs] => newO S (.lst xs) fun p S' => Q (.ref p) S'
  | [.ref a] => (match S a with | some (.lst xs) => newO S (.lst xs) fun p S' => Q (.ref p) S' | _ => False)
  | _ => False
theorem cd_list : CallD X (.type "list") cList := by
  refine ⟨fun ds S Q Q' k h => ?_, fun pins s σ H vs us Q I rv ⟨ds, S, rep, rd, h⟩ => ?_⟩
  · match ds, h with
    | [.tup xs], h => exact fun p hp => k _ _ (h p hp)
    | [.rol xs], h => exact fun p hp => k _ _ (h p hp)
    | [.ref a], h =>
      revert h
      show (match S a with | some (.lst xs) => _ | _ => False) → (match S a with | some (.lst xs) => _ | _ => False)
      split
      · exact fun h p hp => k _ _ (h p hp)
      · exact fun h => h
  · match ds, h with
    | [.tup xs], h =>
      obtain ⟨v, rfl, r⟩ := rds1 rd
      obtain ⟨p, ys, rfl, sq, rs⟩ : ∃ p ys, v = V.ref p ∧ SqT X.K H p ys ∧ RDs X.K H xs ys := r
      exact call_list_of pins s σ H _ us Q I rv ⟨p, ys, rfl, .inr sq, fun l hl => rep_new (Q0 := fun _ _ => True) rep hl rs (h l (rep.free hl))⟩
    | [.rol xs], h =>
      obtain ⟨v, rfl, r⟩ := rds1 rd
      obtain ⟨p, ys, rfl, sq, rs⟩ : ∃ p ys, v = V.ref p ∧ SqR X.K H p ys ∧ RDs X.K H xs ys := r
      exact call_list_of pins s σ H _ us Q I rv ⟨p, ys, rfl, .inl sq.l, fun l hl => rep_new (Q0 := fun _ _ => True) rep hl rs (h l (rep.free hl))⟩
    | [.ref a], h =>
      obtain ⟨v, rfl, r⟩ := rds1 rd
      cases r
      revert h
      show (match S a with | some (.lst xs) => _ | _ => False) → _
      split
      · rename_i xs ea
        intro h
        obtain ⟨ys, e0, rs⟩ : ∃ ys, H a = some (.lst ys) ∧ RDs X.K H xs ys := rep a _ ea
        exact call_list_of pins s σ H _ us Q I rv ⟨a, ys, rfl, .inl (.of e0), fun l hl => rep_new (Q0 := fun _ _ => True) rep hl rs (h l (rep.free hl))⟩
      · exact fun h => h.elim
theorem CallD.sub {f : Value} {r r' : RCD} (h : CallD X f r) (m : MonoC r') (k : ∀ ds S Q, r' ds S Q → r ds S Q) : CallD X f r' :=
  ⟨m, fun pins s σ H vs us Q I rv ⟨ds, S, rep, rd, q⟩ => h.run pins s σ H vs us Q I rv ⟨ds, S, rep, rd, k _ _ _ q⟩⟩
@[simp] def cFz (r : RCD) : RCD := fun ds S Q => r ds S (fzK Q)
theorem cd_fz {f : Value} {r : RCD} (h : CallD X f r) : CallD X f (cFz r) := by
  refine ⟨fun ds S Q Q' k q => h.mono _ _ _ _ (fzK_mono k) q, fun pins s σ H vs us Q I rv ⟨ds, S, rep, rd, q⟩ => ?_⟩
  refine thn (h.run pins s σ H vs us (fun v H1 => ∃ d S1, LeH H H1 ∧ Rep X.w X.K S1 H1 ∧ RD X.K H1 d v ∧ fzK (fun d S' => ∀ v H', LeH H H' → Rep X.w X.K S' H' → RD X.K H' d v → Q v H') d S1) I rv ⟨ds, S, rep, rd, h.mono _ _ _ _ (fun z S' y v H' le rp rz => ⟨z, S', le, rp, rz, y⟩) q⟩) fun u s' ⟨v, H1, I1, ru, d, S1, le, rp, rd, z⟩ => ?_
  exact fzK_to I1 rp rd ru z fun d S' v H' le' rp' rd' y => y v H' (le.trans le') rp' rd'
@[simp] def cListF : RCD := fun ds S Q => match ds with
  | [.tup xs] => Q (.rol xs) S
  | [d] => opt (seqD S d) fun xs => Q (.rol xs) S
  | _ => False
theorem cd_listF : CallD X (.type "list") cListF := (cd_fz cd_list).sub (fun ds S Q Q' k h => by
    unfold cListF at h ⊢
    split at h
    · exact k _ _ h
    · exact opt_mono (fun _ q => k _ _ q) h
    · exact h) fun ds S Q h => by
    unfold cListF at h
    unfold cFz cList
    split at h
    · exact fun p hp => fzK_new hp h
    · rename_i d _
      obtain ⟨xs, e, q⟩ := opt_ex h
      clear h
      cases d with
      | rol ys => cases e; exact fun p hp => fzK_new hp q
      | ref a =>
        simp only [seqD_ref] at e
        split at e
        · rename_i ys ea
          cases e
          simp only [ea]
          exact fun p hp => fzK_new hp q
        · cases e
      | _ => simp at e
    · exact h.elim
@[simp] def cTuple : RCD := fun ds S Q => match ds with
  | [.tup xs] => Q (.tup xs) S
  | [.rol xs] => Q (.tup xs) S
  | [.ref a] => (match S a with | some (.lst xs) => Q (.tup xs) S | _ => False)
  | _ => False
theorem cd_tuple : CallD X (.type "tuple") cTuple := by
  refine ⟨fun ds S Q Q' k h => ?_, fun pins s σ H vs us Q I rv ⟨ds, S, rep, rd, h⟩ => ?_⟩
  · match ds, h with
    | [.tup xs], h => exact k _ _ h
    | [.rol xs], h => exact k _ _ h
    | [.ref a], h =>
      revert h
      show (match S a with | some (.lst xs) => _ | _ => False) → (match S a with | some (.lst xs) => _ | _ => False)
      split
      · exact k _ _
      · exact fun h => h
  · match ds, h with
    | [.tup xs], h =>
      obtain ⟨v, rfl, r⟩ := rds1 rd
      obtain ⟨p, ys, rfl, sq, rs⟩ : ∃ p ys, v = V.ref p ∧ SqT X.K H p ys ∧ RDs X.K H xs ys := r
      exact call_tuple_of pins s σ H _ us Q I rv ⟨p, ys, rfl, .inr ⟨sq, h _ H (LeH.refl H) rep ⟨p, ys, rfl, sq, rs⟩⟩⟩
    | [.rol xs], h =>
      obtain ⟨v, rfl, r⟩ := rds1 rd
      obtain ⟨p, ys, rfl, sq, rs⟩ : ∃ p ys, v = V.ref p ∧ SqR X.K H p ys ∧ RDs X.K H xs ys := r
      exact call_tuple_of pins s σ H _ us Q I rv ⟨p, ys, rfl, .inl ⟨sq.l, fun l hl => rep_tup rep hl rs h⟩⟩
    | [.ref a], h =>
      obtain ⟨v, rfl, r⟩ := rds1 rd
      cases r
      revert h
      show (match S a with | some (.lst xs) => _ | _ => False) → _
      split
      · rename_i xs ea
        intro h
        obtain ⟨ys, e0, rs⟩ : ∃ ys, H a = some (.lst ys) ∧ RDs X.K H xs ys := rep a _ ea
        exact call_tuple_of pins s σ H _ us Q I rv ⟨a, ys, rfl, .inl ⟨.of e0, fun l hl => rep_tup rep hl rs h⟩⟩
      · exact fun h => h.elim
@[simp] def cInt : RCD := fun ds S Q => match ds with | [.int i] => Q (.int i) S | [.bl b] => Q (.int (if b then 1 else 0)) S | _ => False
/-! ### methods -/
abbrev RMD := D → List D → DH → DK → Prop
def MonoM (r : RMD) : Prop := ∀ d ds S (Q Q' : DK), (∀ d S', Q d S' → Q' d S') → r d ds S Q → r d ds S Q'
def upM (w : World) (K : PySem.W.Frag) (r : RMD) : V → List V → Hp → VK → Prop := fun x vs H Q => ∃ d ds S, Rep w K S H ∧ RD K H d x ∧ RDs K H ds vs ∧ r d ds S (lQ w K H Q)
structure MtD (X : Cx) (id : String) (r : RMD) : Prop where
  mono : MonoM r
  run : MtR X id (upM X.w X.K r)
@[simp] def tyD (T : String) (d : D) (S : DH) : Prop := match d with
  | .str _ => T = "str"
  | .rol _ => T = "list"
  | .ref a => (match S a with | some (.lst _) => T = "list" | some (.dK _) => T = "dict" | some (.dN _) => T = "dict" | _ => False)
  | _ => False
theorem tyD_is {pins : List (Addr × Obj)} {σ : L2.St} {s : Shared} {T : String} {d : D} {S : DH} {x : V} {v : Value} {H : Hp} (I : Inv X pins σ H s) (rep : Rep X.w X.K S H) (r : RD X.K H d x) (rv : RelV x v) (h : tyD T d S) :
    s.TypeIs v T ∧ ∀ a, v = .ref a → ∃ ob, s.heap.get? a = some ob ∧ ob.dict = none := by
  have via : tyV X.K T x H → s.TypeIs v T ∧ ∀ a, v = .ref a → ∃ ob, s.heap.get? a = some ob ∧ ob.dict = none := tyV_is I rv
  cases d with
  | str z => cases r; exact via h
  | rol ds =>
    obtain ⟨p, ys, rfl, sq, rs⟩ : ∃ p ys, x = V.ref p ∧ SqR X.K H p ys ∧ RDs X.K H ds ys := r
    exact via (.inl ⟨h, ys, sq.l⟩)
  | ref a =>
    cases r
    revert h
    show (match S a with | some (.lst _) => T = "list" | some (.dK _) => T = "dict" | some (.dN _) => T = "dict" | _ => False) → _
    split
    · rename_i xs ea
      obtain ⟨ys, e0, _⟩ : ∃ ys, H a = some (.lst ys) ∧ RDs X.K H xs ys := rep a _ ea
      exact fun h => via (.inl ⟨h, ys, .of e0⟩)
    · rename_i xs ea
      obtain ⟨ys, e0, _⟩ : ∃ ys, H a = some (.dK ys) ∧ RKs X.K H xs ys := rep a _ ea
      exact fun h => via (.inr (.inr (.inl ⟨h, .inl ⟨ys, e0⟩⟩)))
    · rename_i xs ea
      rintro rfl
      obtain ⟨xs, dd, _⟩ := dn_open I (rep a _ ea)
      cases (show v = .ref a from rv)
      refine ⟨dd.typeIs, fun b e => ?_⟩
      cases e
      obtain ⟨o, es, ep, ho, hx, _⟩ := dd
      exact ⟨o, ho, hx.2.1⟩
    · exact fun h => h.elim
  | _ => exact h.elim
@[simp] def dBM (T : String) (r : RMD) (to : DTE) (t : DTA) : DTE := fun E τ S Q => to E τ S fun d S1 => tyD T d S1 ∧ t E τ S1 fun ds S2 => r d ds S2 Q
variable {o e : Expr} {es : List Expr} {to te : DTE} {t : DTA} {name : Str} {apos cpos pos p : Pos} {T id : String} {r : RMD}
theorem de_bm (pa : PlainAttrs T) (slot : Slot T name id) (hty : typeOf (.builtin id) = pure (.type "method_descriptor")) (hm : MtD X id r) (ho : DE X o to) (ha : DA X (e :: es) t)
    (hbase : attributeBase o name X.env (eval o X.env) = eval o X.env := by rfl)
    (hfew : ((backTo cpos (starEach (e :: es) X.env)).all (fun x => !x.1) && (backToKw cpos (keywordEach [] X.env)).all (fun x => x.1.isSome) && decide ((e :: es).length + ([] : List Keyword).length + (if ([] : List Keyword).isEmpty then 0 else 1) < 30)) = true := by rfl)
    (hline : (apos.endLine == cpos.line) = true := by rfl) (hs : starEach (e :: es) X.env = (false, eval e X.env) :: starEach es X.env := by rfl) (hplain : (backTo cpos (starEach es X.env)).any (·.1) = false := by rfl) :
    DE X (.Call (.Attribute o name apos) (e :: es) [] cpos) (dBM T r to t) := by
  refine ⟨fun E E' τ S Q Q' he k q => ho.mono _ _ _ _ _ _ he (fun d S1 z => ⟨z.1, ha.mono _ _ _ _ _ _ he (fun ds S2 z => hm.mono _ _ _ _ _ k z) z.2⟩) q, ⟨fun pins s σ H Q I ⟨E, τ, S, w, rl, q⟩ => ?_⟩⟩
  refine wpAny_Call_method_late hbase hfew hline rfl (thn (ho.run.run pins s σ H _ I (ho.to w rl q fun d S1 x H1 le1 w1 r1 rd z => (⟨d, S1, le1, w1, r1, rd, z⟩ : ∃ d S1, LeH H H1 ∧ Wish X E H1 ∧ Rel X.w X.K τ S1 σ H1 ∧ RD X.K H1 d x ∧ tyD T d S1 ∧
    t E τ S1 fun ds S2 => r d ds S2 fun d S' => ∀ v H', LeH H H' → Rep X.w X.K S' H' → RD X.K H' d v → Q v H'))) fun v s1 ⟨x, H1, I1, rx, d, S1, le1, w1, r1, rd, ht, z⟩ => ?_)
  obtain ⟨h1, h2⟩ := tyD_is I1 r1.rep rd rx ht
  refine ⟨T, id, pa, slot, hty, h1, h2, ?_⟩
  have hA := ha.run.run cpos pins s1 σ H1 _ I1 (ha.to w1 r1 z fun ds S2 vs H2 le2 w2 r2 rds z => (⟨ds, S2, le2, r2, rds, z⟩ : ∃ ds S2, LeH H1 H2 ∧ Rel X.w X.K τ S2 σ H2 ∧ RDs X.K H2 ds vs ∧
    r d ds S2 fun d S' => ∀ v H', LeH H H' → Rep X.w X.K S' H' → RD X.K H' d v → Q v H'))
  rw [hs] at hA ⊢
  refine Calls.callWith_builtin (by show (false || (backTo cpos (starEach es X.env)).any (·.1)) = false; rw [hplain] <;> rfl) (Calls.evalArgs_plain ?_)
  exact thn hA fun us s2 ⟨vs, H2, I2, rv2, ds, S2, le2, r2, rds, z⟩ => hm.run pins s2 σ H2 x vs v us Q I2 rx rv2 ⟨d, ds, S2, r2.rep, rd.le le2, rds, hm.mono _ _ _ _ _ (fun z S' y v H' le rp rz => y v H' (le1.trans (le2.trans le)) rp rz) z⟩
/-- a method that changes the list at a -/
@[simp] def mLst (ds : List D) (d : D) (S : DH) (Q : List D → (List D → DH) → Prop) : Prop := match d with | .ref a => (match S a with | some (.lst xs) => Q xs fun ys => upo S a (.lst ys) | _ => False) | _ => False
@[simp] def mAppend : RMD := fun d ds S Q => mLst ds d S fun xs up => match ds with | [y] => xs.length < sizeLine ∧ Q .non (up (xs ++ [y])) | _ => False
theorem mLst_mono {ds : List D} {d : D} {S : DH} {Q Q' : List D → (List D → DH) → Prop} (k : ∀ a xs, d = .ref a → S a = some (.lst xs) → Q xs (fun ys => upo S a (.lst ys)) → Q' xs (fun ys => upo S a (.lst ys))) (h : mLst ds d S Q) : mLst ds d S Q' := by
  cases d with
  | ref a =>
    revert h
    show (match S a with | some (.lst xs) => _ | _ => False) → (match S a with | some (.lst xs) => _ | _ => False)
    split
    · rename_i xs ea
      exact k a xs rfl ea
    · exact fun h => h
  | _ => exact h
theorem mLst_ex {ds : List D} {d : D} {S : DH} {Q : List D → (List D → DH) → Prop} (h : mLst ds d S Q) : ∃ a xs, d = .ref a ∧ S a = some (.lst xs) ∧ Q xs fun ys => upo S a (.lst ys) := by
  cases d with
  | ref a =>
    revert h
    show (match S a with | some (.lst xs) => _ | _ => False) → _
    split
    · rename_i xs ea
      exact fun h => ⟨a, xs, rfl, ea, h⟩
    · exact fun h => h.elim
  | _ => exact h.elim
theorem md_append : MtD X "list.append" mAppend := by
  refine ⟨fun d ds S Q Q' k h => mLst_mono (fun a xs e1 e2 z => ?_) h, fun pins s σ H x vs v us Q I rx rv ⟨d, ds, S, rep, rd, rds, h⟩ => ?_⟩
  · match ds, z with | [y], z => exact ⟨z.1, k _ _ z.2⟩
  · obtain ⟨a, xs, rfl, ea, z⟩ := mLst_ex h
    match ds, z with
    | [y], z =>
      cases rd
      obtain ⟨u, rfl, ru⟩ := rds1 rds
      obtain ⟨ys, e0, rs⟩ : ∃ ys, H a = some (.lst ys) ∧ RDs X.K H xs ys := rep a _ ea
      have le : LeH H (upd H a (.lst (ys ++ [u]))) := LeH.put e0 trivial
      exact mt_append pins s σ H _ _ v us Q I rx rv ⟨a, ys, u, rfl, rfl, e0, by rw [← rs.length]; exact z.1, z.2 _ _ le (rep.put e0 trivial (o := .lst (xs ++ [y])) ⟨_, upd_same, (rs.snoc ru).le le⟩) rfl⟩
@[simp] def mExtend : RMD := fun d ds S Q => mLst ds d S fun xs up => match ds with | [e] => opt (seqD S e) fun zs => xs.length + zs.length ≤ sizeLine ∧ Q .non (up (xs ++ zs)) | _ => False
def rExtendX (K : PySem.W.Frag) : V → List V → Hp → VK → Prop := fun x vs H Q => ∃ l b xs zs, x = .ref l ∧ vs = [.ref b] ∧ H l = some (.lst xs) ∧ SqX K H b zs ∧ xs.length + zs.length ≤ sizeLine ∧ Q .non (upd H l (.lst (xs ++ zs)))
theorem mt_extendX : MtM X "list.extend" (rExtendX X.K) := by
  intro pins s σ H x vs v us Q I rx rv h
  obtain ⟨l, b, xs, zs, rfl, rfl, hH, hB, hz, q⟩ := h
  cases rx
  obtain ⟨u, rfl, ru⟩ := rv.one
  cases ru
  obtain ⟨z, its, n, r, hl, e⟩ := I.lstM hH
  obtain ⟨its2, n2, r2, z2, hl2, e2⟩ := sqX_get I hB
  have hsz : its.toArray.size + its2.toArray.size ≤ sizeLine := by rw [List.size_toArray, List.size_toArray]; omega
  have hlong : ¬ (!its.toArray.isEmpty && Builtin.List.listTooLong (its.toArray.size + its2.toArray.size)) = true := by
    rw [notLongL hsz, Bool.and_false]
    exact Bool.false_ne_true
  refine call_meets F.slot_list_extend ⟨_, e, rfl⟩ F.entry_list_extend (F.args_list_extend_2 _ _)
    (AutoSeq1.list_extend_list_list_0 l its.toArray n b its2.toArray n2 hlong (by rw [List.size_toArray]; omega) (by omega)) ⟨e, e2, ?_⟩
  refine ⟨.non, _, I.lset (its' := its ++ its2) hH e (by simp) (r.append r2) ?_, rfl, q⟩
  rw [List.length_append]
  omega
theorem md_extend : MtD X "list.extend" mExtend := by
  refine ⟨fun d ds S Q Q' k h => mLst_mono (fun a xs e1 e2 z => ?_) h, fun pins s σ H x vs v us Q I rx rv ⟨d, ds, S, rep, rd, rds, h⟩ => ?_⟩
  · match ds, z with
    | [e], z => exact opt_mono (fun _ z => ⟨z.1, k _ _ z.2⟩) z
  · obtain ⟨a, xs, rfl, ea, z⟩ := mLst_ex h
    match ds, z with
    | [e], z =>
      cases rd
      obtain ⟨u, rfl, ru⟩ := rds1 rds
      obtain ⟨zs, eb, z⟩ := opt_ex z
      obtain ⟨b, ws, rfl, sb, rs1⟩ := seqD_rd rep ru eb
      obtain ⟨ys, e0, rs⟩ : ∃ ys, H a = some (.lst ys) ∧ RDs X.K H xs ys := rep a _ ea
      have le : LeH H (upd H a (.lst (ys ++ ws))) := LeH.put e0 trivial
      exact mt_extendX pins s σ H _ _ v us Q I rx rv ⟨a, b, ys, ws, rfl, rfl, e0, sb, by rw [← rs.length, ← rs1.length]; exact z.1, z.2 _ _ le (rep.put e0 trivial (o := .lst (xs ++ zs)) ⟨_, upd_same, (rs.append rs1).le le⟩) rfl⟩
@[simp] def mPop : RMD := fun d ds S Q => mLst ds d S fun xs up => match ds with | [] => opt xs[xs.length - 1]? fun y => Q y (up xs.dropLast) | _ => False
@[simp] def mReverse : RMD := fun d ds S Q => mLst ds d S fun xs up => match ds with | [] => Q .non (up xs.reverse) | _ => False
def mJoin : RMD := fun d ds S Q => ∃ (a : Str) (e : D) (ys : List Str), d = .str a ∧ ds = [e] ∧ (seqD S e = some (ys.map D.str) ∨ e = .tup (ys.map D.str)) ∧ (ys.map (·.length)).sum + ys.length * a.length ≤ 16777216 ∧ Q (.str (Txt.join a ys)) S
theorem md_join : MtD X "str.join" mJoin := by
  refine ⟨fun d ds S Q Q' k ⟨a, p, ys, e1, e2, h1, h2, h⟩ => ⟨a, p, ys, e1, e2, h1, h2, k _ _ h⟩, fun pins s σ H x vs v us Q I rx rv ⟨d, ds, S, rep, rd, rds, a, e, ys, e1, e2, h1, h2, h⟩ => ?_⟩
  subst e1 e2
  cases rd
  obtain ⟨u, rfl, ru⟩ := rds1 rds
  rcases h1 with h1 | rfl
  · obtain ⟨p, ws, rfl, sq, rs⟩ := seqD_rd rep ru h1
    rw [RDs.strs.mp rs] at sq
    exact mt_join pins s σ H _ _ v us Q I rx rv ⟨a, p, ys, rfl, rfl, .inl sq.l, h2, h _ H (LeH.refl H) rep rfl⟩
  · obtain ⟨p, ws, rfl, sq, rs⟩ : ∃ p ws, u = V.ref p ∧ SqT X.K H p ws ∧ RDs X.K H (ys.map D.str) ws := ru
    rw [RDs.strs.mp rs] at sq
    exact mt_join pins s σ H _ _ v us Q I rx rv ⟨a, p, ys, rfl, rfl, .inr sq, h2, h _ H (LeH.refl H) rep rfl⟩
@[simp] def mFind : RMD := fun d ds S Q => match d, ds with | .str a, [.str b] => Q (.int (Txt.find a b)) S | _, _ => False
end

/-! ### what is walked -/
section
variable {X : Cx} {tg l : Expr} {tl : DTE} {ta : DTA} {p pos : Pos}
def iAny (K : PySem.W.Frag) (tl : TE) : TI := fun σ H R => tl σ H fun x H1 => (∃ a, x = .ref a ∧ (∃ xs, SqL K H1 a xs) ∧ R (Itl K a) H1) ∨ (∃ a, x = .ref a ∧ (∃ xs, SqT K H1 a xs) ∧ R (Itt K a) H1) ∨ ∃ z, x = .str z ∧ R (Its z) H1
theorem pi_any {tl : TE} (hl : PE X l tl) : PI X tg l (iAny X.K tl) := by
  refine ⟨fun pins s σ H R I h => thn (hl.run pins s σ H _ I h) fun v s1 ⟨x, H1, I1, r1, q1⟩ => ?_⟩
  rcases q1 with ⟨a, rfl, ⟨xs, hq⟩, q⟩ | ⟨a, rfl, ⟨xs, hq⟩, q⟩ | ⟨z, rfl, q⟩
  · cases r1
    obtain ⟨its, rv, pl, hz⟩ := I1.list hq
    exact PySem.wpAny_pyIter_list pl.isList (pi_one (tk := s1.toks) I1 _ (turn_list a _) ⟨_, Heap.get?_push_size _ rfl, rfl, rfl⟩ q)
  · cases r1
    obtain ⟨its, rv, pl, hz⟩ := I1.tuple hq
    exact PySem.wpAny_pyIter_tuple (show s1.heap.IsTuple a its.toArray from pl) (pi_one (tk := s1.toks) I1 _ (turn_tuple a _) ⟨_, Heap.get?_push_size _ rfl, rfl, rfl⟩ q)
  · obtain ⟨t, rfl⟩ := r1
    cases ha : z.cps.all (· < 128)
    · exact PySem.wpAny_pyIter_wide ha (pi_one (tk := s1.toks) I1 _ (turn_str _ z t "str_iterator" (.inr rfl)) ⟨_, Heap.get?_push_size _ rfl, rfl, rfl⟩ q)
    · exact PySem.wpAny_pyIter_ascii ha (pi_one (tk := s1.toks) I1 _ (turn_str _ z t "str_ascii_iterator" (.inl rfl)) ⟨_, Heap.get?_push_size _ rfl, rfl, rfl⟩ q)
def signD (c : Nat) : D := .str ⟨#[c]⟩
@[simp] def dSeqI (tl : DTE) : DTI := fun E τ S R => tl E τ S fun d S1 => match d with
  | .tup ds => R (fun _ => True) ds S1
  | .rol ds => R (fun _ => True) ds S1
  | .str z => R (fun _ => True) (z.cps.toList.map signD) S1
  | .ref a => (match S1 a with | some (.lst ds) => R (fun S => S a = some (.lst ds)) ds S1 | _ => False)
  | _ => False
theorem feeds_seqL {w : World} {K : PySem.W.Frag} {H0 : Hp} {a : Addr} {ds : List D} {G : DH → Prop} (h : ∀ S H, LeH H0 H → Rep w K S H → G S → ∃ xs, SqL K H a xs ∧ RDs K H ds xs) : Feeds w K H0 (Itl K a) G ds where
  go := fun i S H le rp g hi => by
    obtain ⟨xs, sq, rs⟩ := h S H le rp g
    exact ⟨xs, xs[i]'(by rw [← rs.length]; exact hi), sq, by simp⟩
  yld := fun i S H x H' le rp g hi ⟨e, y⟩ => by
    subst e
    obtain ⟨xs, sq, rs⟩ := h S _ le rp g
    obtain ⟨d, e, r⟩ := rs.got (y xs sq)
    exact ⟨LeH.refl _, rp, d, e, r⟩
  stop := fun S H le rp g => by
    obtain ⟨xs, sq, rs⟩ := h S H le rp g
    exact ⟨xs, sq, by rw [rs.length]; exact Nat.le_refl _⟩
theorem feeds_seqT {w : World} {K : PySem.W.Frag} {H0 : Hp} {a : Addr} {ds : List D} {G : DH → Prop} (h : ∀ S H, LeH H0 H → Rep w K S H → G S → ∃ xs, SqT K H a xs ∧ RDs K H ds xs) : Feeds w K H0 (Itt K a) G ds where
  go := fun i S H le rp g hi => by
    obtain ⟨xs, sq, rs⟩ := h S H le rp g
    exact ⟨xs, xs[i]'(by rw [← rs.length]; exact hi), sq, by simp⟩
  yld := fun i S H x H' le rp g hi ⟨e, y⟩ => by
    subst e
    obtain ⟨xs, sq, rs⟩ := h S _ le rp g
    obtain ⟨d, e, r⟩ := rs.got (y xs sq)
    exact ⟨LeH.refl _, rp, d, e, r⟩
  stop := fun S H le rp g => by
    obtain ⟨xs, sq, rs⟩ := h S H le rp g
    exact ⟨xs, sq, by rw [rs.length]; exact Nat.le_refl _⟩
theorem feeds_str {w : World} {K : PySem.W.Frag} {H0 : Hp} {z : Str} {G : DH → Prop} : Feeds w K H0 (Its z) G (z.cps.toList.map signD) where
  go := fun i S H le rp g hi => by
    show i < z.cps.size
    simpa using hi
  yld := fun i S H x H' le rp g hi ⟨e, c, ec, ex⟩ => by
    subst e ex
    refine ⟨LeH.refl _, rp, signD c, ?_, rfl⟩
    rw [List.getElem?_map, Array.getElem?_toList, ec]
    rfl
  stop := fun S H le rp g => by
    show z.cps.size ≤ (z.cps.toList.map signD).length
    simp
theorem di_seq (hl : DE X l tl) : DI X tg l (dSeqI tl) := by
  refine ⟨fun E E' τ S Q Q' he k q => hl.mono _ _ _ _ _ _ he (fun d S1 z => ?_) q, pI_imp (pi_any hl.run) fun σ H R ⟨E, τ, S, w, r, q⟩ => ?_⟩
  · cases d with
    | tup ds => exact k _ _ _ z
    | rol ds => exact k _ _ _ z
    | str ds => exact k _ _ _ z
    | ref a =>
      revert z
      show (match S1 a with | some (.lst ds) => _ | _ => False) → (match S1 a with | some (.lst ds) => _ | _ => False)
      split
      · exact k _ _ _
      · exact fun z => z
    | _ => exact z
  · refine hl.to w r q fun d S1 x H1 le w1 r1 rd z => ?_
    cases d with
    | tup ds =>
      obtain ⟨p, ys, rfl, sq, rs⟩ : ∃ p ys, x = V.ref p ∧ SqT X.K H1 p ys ∧ RDs X.K H1 ds ys := rd
      exact .inr (.inl ⟨p, rfl, ⟨ys, sq⟩, z _ H1 le r1.rep (feeds_seqT fun S H le rp g => ⟨ys, sqT_le le sq, rs.le le⟩)⟩)
    | rol ds =>
      obtain ⟨p, ys, rfl, sq, rs⟩ : ∃ p ys, x = V.ref p ∧ SqR X.K H1 p ys ∧ RDs X.K H1 ds ys := rd
      exact .inl ⟨p, rfl, ⟨ys, sq.l⟩, z _ H1 le r1.rep (feeds_seqL fun S H le rp g => ⟨ys, (sq.le le).l, rs.le le⟩)⟩
    | str y =>
      cases rd
      exact .inr (.inr ⟨y, rfl, z _ H1 le r1.rep feeds_str⟩)
    | ref a =>
      cases rd
      revert z
      show (match S1 a with | some (.lst ds) => _ | _ => False) → _
      split
      · rename_i ds ea
        intro z
        obtain ⟨ys, e0, rs⟩ : ∃ ys, H1 a = some (.lst ys) ∧ RDs X.K H1 ds ys := r1.rep a _ ea
        exact .inl ⟨a, rfl, ⟨ys, .of e0⟩, z _ H1 le r1.rep (feeds_seqL fun S H le rp g => by
          obtain ⟨zs, e1, rz⟩ : ∃ ys, H a = some (.lst ys) ∧ RDs X.K H ds ys := rp a _ g
          exact ⟨zs, .of e1, rz⟩)⟩
      · exact fun z => z.elim
    | _ => exact z.elim
theorem feeds_rng {w : World} {K : PySem.W.Frag} {H0 : Hp} {lo : Int} {n : Nat} {G : DH → Prop} : Feeds w K H0 (Itr lo n) G ((List.range n).map fun i : Nat => D.int (lo + (i : Nat))) where
  go := fun i S H le rp g hi => by
    show i < n
    simpa using hi
  yld := fun i S H x H' le rp g hi ⟨e, ex⟩ => by
    subst e ex
    refine ⟨LeH.refl _, rp, .int (lo + (i : Nat)), ?_, rfl⟩
    have hi' : i < n := by simpa using hi
    rw [List.getElem?_map, List.getElem?_range hi']
    rfl
  stop := fun S H le rp g => by
    show n ≤ ((List.range n).map fun i : Nat => D.int (lo + (i : Nat))).length
    simp
def rngD (lo : Int) (n : Nat) : List D := (List.range n).map fun i : Nat => D.int (lo + (i : Nat))
@[simp] def dRng1 (ta : DTA) : DTI := fun E τ S R => ta E τ S fun ds S1 => match ds with | [.int j] => (-(2 ^ 62) ≤ j ∧ j < 2 ^ 62) ∧ R (fun _ => True) (rngD 0 j.toNat) S1 | _ => False
@[simp] def dRng2 (ta : DTA) : DTI := fun E τ S R => ta E τ S fun ds S1 => match ds with | [.int i, .int j] => (-(2 ^ 62) ≤ i ∧ i < 2 ^ 62 ∧ -(2 ^ 62) ≤ j ∧ j < 2 ^ 62) ∧ R (fun _ => True) (rngD i (j - i).toNat) S1 | _ => False
theorem di_rng1 {a : Expr} (hg : Gl X "range") (hm : X.mg "range" = none) (ha : DA X [a] ta) (hs : starEach [a] X.env = [(false, eval a X.env)] := by rfl) : DI X tg (.Call (.Name "range" p) [a] [] pos) (dRng1 ta) := by
  refine ⟨fun E E' τ S Q Q' he k q => ha.mono _ _ _ _ _ _ he (fun ds S1 z => ?_) q, pI_imp (pi_range1 hg hm ha.run hs) fun σ H R ⟨E, τ, S, w, r, q⟩ => ?_⟩
  · match ds, z with | [.int j], z => exact ⟨z.1, k _ _ _ z.2⟩
  · refine ha.to w r q fun ds S1 vs H1 le w1 r1 rd z => ?_
    match ds, z with
    | [.int j], z =>
      obtain ⟨v, rfl, rv⟩ := rds1 rd
      cases rv
      exact ⟨j, rfl, z.1.1, z.1.2, z.2 _ H1 le r1.rep feeds_rng⟩
end

/-! ### isinstance by a built-in class; names of the module; chains; * -/
section
variable {X : Cx} {e : Expr} {te : DTE} {p p2 pos : Pos} {T : String}
def tyName (d : D) (S : DH) : Option String := match d with
  | .non => some "NoneType" | .bl _ => some "bool" | .int _ => some "int" | .str _ => some "str" | .tup _ => some "tuple" | .rol _ => some "list"
  | .ref a => (match S a with | some (.lst _) => some "list" | some (.dK _) => some "dict" | _ => none)
section
variable (S : DH)
@[simp] theorem tyName_non : tyName .non S = some "NoneType" := rfl
@[simp] theorem tyName_bl (b : Bool) : tyName (.bl b) S = some "bool" := rfl
@[simp] theorem tyName_int (b : Int) : tyName (.int b) S = some "int" := rfl
@[simp] theorem tyName_str (b : Str) : tyName (.str b) S = some "str" := rfl
@[simp] theorem tyName_tup (b : List D) : tyName (.tup b) S = some "tuple" := rfl
@[simp] theorem tyName_rol (b : List D) : tyName (.rol b) S = some "list" := rfl
theorem tyName_ref (a : Addr) : tyName (.ref a) S = (match S a with | some (.lst _) => some "list" | some (.dK _) => some "dict" | _ => none) := rfl
theorem tyName_lst {a : Addr} {xs : List D} (h : S a = some (.lst xs)) : tyName (.ref a) S = some "list" := by rw [tyName_ref, h]
end
@[simp] def isiB (a b : String) : Bool := a == b || (a == "bool" && b == "int")
theorem tyName_x {w : World} {K : PySem.W.Frag} {d : D} {S : DH} {x : V} {H : Hp} {n : String} (rep : Rep w K S H) (r : RD K H d x) (h : tyName d S = some n) : TyX K H x (.type n) := by
  cases d with
  | non => cases r; cases h; exact .base .non
  | bl b => cases r; cases h; exact .base (.bl b)
  | int b => cases r; cases h; exact .base (.int b)
  | str b => cases r; cases h; exact .base (.str b)
  | tup ds =>
    cases h
    obtain ⟨p, ys, rfl, sq, rs⟩ : ∃ p ys, x = V.ref p ∧ SqT K H p ys ∧ RDs K H ds ys := r
    rcases sqT_split sq with e | ⟨o, e⟩ | ⟨o, its, m, e, c, _⟩
    · exact .base (.tup e)
    · exact .fTuple e
    · exact .kTuple e c
  | rol ds =>
    cases h
    obtain ⟨p, ys, rfl, sq, rs⟩ : ∃ p ys, x = V.ref p ∧ SqR K H p ys ∧ RDs K H ds ys := r
    rcases sq with ⟨o, e⟩ | ⟨its, m, e, _⟩
    · exact .base (.frz e)
    · exact .kList e rfl
  | ref a =>
    cases r
    revert h
    show (match S a with | some (.lst _) => some "list" | some (.dK _) => some "dict" | _ => none) = some n → _
    split
    · rename_i xs ea
      obtain ⟨ys, e0, _⟩ : ∃ ys, H a = some (.lst ys) ∧ RDs K H xs ys := rep a _ ea
      intro h
      cases h
      exact .base (.lst e0)
    · rename_i xs ea
      obtain ⟨ys, e0, _⟩ : ∃ ys, H a = some (.dK ys) ∧ RKs K H xs ys := rep a _ ea
      intro h
      cases h
      exact .base (.dK e0)
    · intro h
      cases h
theorem kit_tab : (["NoneType", "bool", "int", "str", "tuple", "list", "dict"].all fun a => ["bool", "int", "str", "tuple", "list", "dict"].all fun b => decide (kitB a b = some (isiB a b))) = true := by decide +kernel
theorem tyName_mem {d : D} {S : DH} {n : String} (h : tyName d S = some n) : n ∈ ["NoneType", "bool", "int", "str", "tuple", "list", "dict"] := by
  cases d with
  | ref a =>
    revert h
    show (match S a with | some (.lst _) => some "list" | some (.dK _) => some "dict" | _ => none) = some n → _
    split <;> intro h <;> cases h <;> decide
  | _ => cases h; decide
@[simp] def dIsi (T : String) (te : DTE) : DTE := fun E τ S Q => te E τ S fun d S1 => opt (tyName d S1) fun n => Q (.bl (isiB n T)) S1
theorem de_isi {x : Str} (hT : T ∈ ["bool", "int", "str", "tuple", "list", "dict"]) (h : DE X e te) (hg : Gl X "isinstance") (hm : X.mg "isinstance" = none) (hgT : Gl X x) (hmT : X.mg x = none) (hvT : bootBuiltins x = some (.type T))
    (hn : x ≠ "__name__" := by decide) (hdb : (x == ("__debug__" : Str)) = false := by decide)
    (he : starEach (e :: [.Name x p2]) X.env = (false, eval e X.env) :: starEach [.Name x p2] X.env := by rfl) (he2 : starEach (.Name x p2 :: []) X.env = (false, eval (.Name x p2) X.env) :: starEach [] X.env := by rfl) (hpl : (backTo pos (starEach [.Name x p2] X.env)).any (·.1) = false := by rfl) :
    DE X (.Call (.Name "isinstance" p) [e, .Name x p2] [] pos) (dIsi T te) := by
  refine ⟨fun E E' τ S Q Q' hE k q => h.mono _ _ _ _ _ _ hE (fun d S1 z => opt_mono (fun _ z => k _ _ z) z) q,
    pE_imp (pe_callB call_isi hg hm PyProof.Rows.boot_isinstance (pa_cons h.run (pa_cons (pe_bltn (v := .ty T) hgT hmT hvT rfl hn hdb) pa_nil he2) he) (by decide) (by decide) he hpl) fun σ H Q ⟨E, τ, S, w, r, q⟩ => ?_⟩
  refine h.to w r q fun d S1 x H1 le w1 r1 rd z => ?_
  obtain ⟨n, en, z⟩ := opt_ex z
  have hk : kitB n T = some (isiB n T) := of_decide_eq_true (List.all_eq_true.mp (List.all_eq_true.mp kit_tab n (tyName_mem en)) T hT)
  exact ⟨x, .ty T, .type n, .type T, isiB n T, rfl, .ty T, tyName_x r1.rep rd en, kit_ty hk, z _ H1 le r1.rep rfl⟩
theorem de_gstr {x z : Str} {t : Tok} (hg : Gl X x) (hm : X.mg x = some (.str z t)) (hdb : (x == ("__debug__" : Str)) = false := by decide) : DE X (.Name x pos) (dC (.str z)) := de_c (pe_glob (v := .str z) hg hm ⟨t, rfl⟩ hdb) fun _ => rfl
/-- a < b < c -/
@[simp] def dChain (r r' : R2D) (ta tb tc : DTE) : DTE := fun E τ S Q => ta E τ S fun x S1 => tb E τ S1 fun y S2 => r x y S2 fun z S3 => match z with
  | .bl k => if k = true then tc E τ S3 fun u S4 => r' y u S4 Q else Q (.bl false) S3
  | _ => False
end
end Dt
set_option maxRecDepth 100000
set_option maxHeartbeats 4000000
/-! Dat7: *, chains. -/
namespace Dt
open PySem PySem.Spec L2

@[simp] def dMul : R2D := fun d e S Q => match d, e with
  | .int i, .int j => CMulW i j ∧ Q (.int (i * j)) S
  | .str x, .int n => MulOk x n ∧ Q (.str (Txt.mul x n)) S
  | .ref a, .int n => (match S a with | some (.lst xs) => (-(2 ^ 63) ≤ n ∧ n < 2 ^ 63 ∧ xs.length * n.toNat ≤ sizeLine) ∧ newO S (.lst (List.replicate n.toNat xs).flatten) fun p S' => Q (.ref p) S' | _ => False)
  | _, _ => False
theorem RDs.rep {K : PySem.W.Frag} {H : Hp} {ds : List D} {vs : List V} (r : RDs K H ds vs) : ∀ n : Nat, RDs K H (List.replicate n ds).flatten (List.replicate n vs).flatten
  | 0 => by simp [RDs]
  | n + 1 => by
    rw [List.replicate_succ, List.replicate_succ, List.flatten_cons, List.flatten_cons]
    exact r.append (RDs.rep r n)
section
variable {X : Cx}
theorem od_mul : OpD X (binaryOp .Mult) dMul := by
  refine ⟨fun x y S Q Q' k h => ?_, fun pins s σ H x y v u Q I rx ry ⟨d, e, S, rep, rd, re, h⟩ => ?_⟩
  · cases x <;> cases y <;> first | exact h.elim | exact ⟨h.1, k _ _ h.2⟩ | skip
    rename_i a n
    revert h
    show (match S a with | some (.lst xs) => _ | _ => False) → (match S a with | some (.lst xs) => _ | _ => False)
    split
    · exact fun h => ⟨h.1, fun p hp => k _ _ (h.2 p hp)⟩
    · exact fun h => h
  · cases d <;> cases e <;> first | exact h.elim | skip
    · cases rd; cases re
      exact op_mulW pins s σ H _ _ v u Q I rx ry ⟨_, _, rfl, rfl, h.1, h.2 _ H (LeH.refl H) rep rfl⟩
    · cases rd; cases re
      obtain ⟨t, rfl⟩ := rx
      obtain ⟨t2, rfl⟩ := ry
      exact PySem.SB.mul h.1 fun t' k => ⟨.str _, H, I.tok _, ⟨_, rfl⟩, h.2 _ H (LeH.refl H) rep rfl⟩
    · rename_i a n
      cases rd; cases re
      revert h
      show (match S a with | some (.lst xs) => _ | _ => False) → _
      split
      · rename_i xs ea
        intro h
        obtain ⟨ys, e0, rs⟩ : ∃ ys, H a = some (.lst ys) ∧ RDs X.K H xs ys := rep a _ ea
        exact op_rep pins s σ H _ _ v u Q I rx ry ⟨a, n, ys, rfl, rfl, e0, h.1.1, h.1.2.1, by rw [← rs.length]; exact h.1.2.2, fun p hp => rep_new (Q0 := fun _ _ => True) rep hp (rs.rep _) (h.2 p (rep.free hp))⟩
      · exact fun h => h.elim
variable {a b c : Expr} {ta tb tc : DTE} {r r' : R2D} {pos : Pos}
end
abbrev rSub : R2D := dII (fun _ _ => True) fun i j => .int (i - j)
abbrev rMod : R2D := dII (fun _ j => 0 < j) fun i j => .int (i % j)
abbrev rFdiv : R2D := dII CDivW fun i j => .int (i / j)
abbrev rPow : R2D := dII CPow fun i j => .int (i ^ j.toNat)
abbrev rLt : R2D := dII (fun _ _ => True) fun i j => .bl (decide (i < j))
abbrev rLe : R2D := dII (fun _ _ => True) fun i j => .bl (decide (i ≤ j))
abbrev rGt : R2D := dII (fun _ _ => True) fun i j => .bl (decide (j < i))
abbrev rGe : R2D := dII (fun _ _ => True) fun i j => .bl (decide (j ≤ i))
theorem hu_big {A : Around} {k : Nat} (hr : Room k A) : A.units + 120 < cLine := by
  have := hr.un
  omega
def SpMono (sp : DSp) : Prop := ∀ ds S (Q Q' : DK) (E E' : DXK), (∀ d S', Q d S' → Q' d S') → (∀ C fs S', E C fs S' → E' C fs S') → sp ds S Q E → sp ds S Q' E'
@[simp] def dNeg (te : DTE) : DTE := fun E τ S Q => te E τ S fun d S' => match d with | .int i => Q (.int (-i)) S' | _ => False
end Dt
set_option maxRecDepth 100000
set_option maxHeartbeats 4000000
/-! Feed: the draws that each law has. -/
namespace Dt
open PySem PySem.Spec L2
theorem char_inj : ∀ (a b : List Char), a.map Char.toNat = b.map Char.toNat → a = b
  | [], [], _ => rfl
  | [], _ :: _, h => by simp at h
  | _ :: _, [], h => by simp at h
  | x :: a, y :: b, h => by
    simp only [List.map_cons, List.cons.injEq] at h
    rw [char_inj a b h.2]
    have : x = y := Char.ext (UInt32.toNat_inj.mp h.1)
    rw [this]
@[simp] theorem ofs_inj (a b : String) : (PySem.Str.ofString a = PySem.Str.ofString b) = (a = b) := by
  refine propext ⟨fun h => ?_, fun h => by rw [h]⟩
  rw [PySem.Str.ofString_eq_toList, PySem.Str.ofString_eq_toList] at h
  have h1 := congrArg (fun z : Str => z.cps.toList) h
  simp only at h1
  exact String.toList_inj.mp (char_inj _ _ (by simpa using h1))
@[simp] theorem line_le (n : Nat) : (n ≤ sizeLine) = (n ≤ 16777216) := by rw [sizeLine_eq]
@[simp] theorem line_lt (n : Nat) : (n < sizeLine) = (n < 16777216) := by rw [sizeLine_eq]
def Bd (a : Nat) (i : Int) : Prop := i.natAbs < 2 ^ a
theorem Bd.mono {a b : Nat} {i : Int} (h : Bd a i) (l : a ≤ b) : Bd b i := Nat.lt_of_lt_of_le h (Nat.pow_le_pow_right (by decide) l)
theorem Bd.add {a : Nat} {i j : Int} (h : Bd a i) (k : Bd a j) : Bd (a + 1) (i + j) := by
  unfold Bd at *
  have := Int.natAbs_add_le i j
  rw [Nat.pow_succ]
  omega
theorem Bd.mul {a b : Nat} {i j : Int} (h : Bd a i) (k : Bd b j) : Bd (a + b) (i * j) := wide_lt h k
theorem Bd.mod {a : Nat} {i j : Int} (hj : 0 < j) (k : Bd a j) : Bd a (i % j) := by
  unfold Bd at *
  have h1 := Int.emod_nonneg i (show j ≠ 0 by omega)
  have h2 := Int.emod_lt_of_pos i hj
  omega
theorem Bd.cm {a b : Nat} {i j : Int} (h : Bd a i) (k : Bd b j) (ha : 0 < a := by decide) (hb : 0 < b := by decide) (l : a + b ≤ 1000000 := by decide) : CMulW i j := wide_mul h k ha hb l
theorem Bd.nat {a n : Nat} {i : Int} (h0 : 0 ≤ i) (h : i ≤ n) (hn : n < 2 ^ a) : Bd a i := by
  unfold Bd
  omega
def Ext (S S' : DH) : Prop := ∀ b o, S b = some o → S' b = some o
theorem Ext.refl (S : DH) : Ext S S := fun _ _ h => h
theorem Ext.trans {S S1 S2 : DH} (a : Ext S S1) (b : Ext S1 S2) : Ext S S2 := fun x o h => b x o (a x o h)
theorem Ext.new {S : DH} {p : Addr} {o : Ob} (h : S p = none) : Ext S (upo S p o) := fun b u e => by
  rw [upo_ne (fun z => by subst z; rw [h] at e; cases e)]
  exact e
theorem Ext.put {S S1 : DH} {p : Addr} {o : Ob} (e : Ext S S1) (h : S p = none) : Ext S (upo S1 p o) := fun b u z => by
  rw [upo_ne (fun y => by subst y; rw [h] at z; cases z)]
  exact e b u z
theorem Ext.free {S S' : DH} (e : Ext S S') {p : Addr} (h : S' p = none) : S p = none := by
  cases q : S p with
  | none => rfl
  | some o => rw [e p o q] at h; cases h
/-- a feed after at most n draws -/
def FeedOb (n : Nat) (o : Ob) : Prop := ∃ l s d : Int, o = .dK [(.inr "left", .int l), (.inr "seed", .int s), (.inr "drawn", .int d)] ∧ 0 ≤ l ∧ 0 ≤ s ∧ s < 1000003 ∧ 0 ≤ d ∧ d ≤ n
theorem FeedOb.more {n m : Nat} {o : Ob} (h : FeedOb n o) (l : n ≤ m) : FeedOb m o := by
  obtain ⟨a, s, d, e, h1, h2, h3, h4, h5⟩ := h
  exact ⟨a, s, d, e, h1, h2, h3, h4, by omega⟩
def sp_l_next : DSp := fun ds S Q _ => ∃ (p : Addr) (m : Int) (n : Nat) (o : Ob), ds = [.ref p, .int m] ∧ 0 < m ∧ m < 2 ^ 100 ∧ S p = some o ∧ FeedOb n o ∧ n < 2 ^ 100 ∧
  ∀ v o', 0 ≤ v → v < m → FeedOb (n + 1) o' → Q (.int v) (upo S p o')
def cellZ (ns : List Int) (k : Nat) : Int := if k < ns.length then ns.getD k 0 else (if 0 < ns.length then ns.getD (k % ns.length) 0 else 0) % 1000003 * 48271 + 7919 * k + 1
def sp_l_cell_at : DSp := fun ds S Q _ => ∃ (ns : List Int) (k : Nat), ds = [.rol (ns.map D.int), .int k] ∧ k < 2 ^ 100 ∧ Q (.int (cellZ ns k)) S
def sp_l_feed : DSp := fun ds S Q _ => ∃ c : Int, ds = [.int c] ∧ ∀ p o, S p = none → FeedOb 0 o → Q (.ref p) (upo S p o)
theorem sp_l_feed_mono : SpMono sp_l_feed := fun ds S Q Q' E E' k _ ⟨c, h1, h⟩ => ⟨c, h1, fun p o a b => k _ _ (h p o a b)⟩
end Dt
set_option maxRecDepth 100000
set_option maxHeartbeats 4000000
/-! Dat8: loops by invariants. -/
namespace Dt
open PySem PySem.Spec L2
theorem loop_go {g : DTG} {tb : DTS} {A : DEnds} {G : DH → Prop} (ds : List D) (I : Nat → DSt → DH → Prop) (hG : ∀ i τ S, i ≤ ds.length → I i τ S → G S)
    (hs : ∀ i d τ S (N : DSt → DH → Prop), ds[i]? = some d → I i τ S → (∀ τ' S', I (i + 1) τ' S' → N τ' S') → g d τ S fun τ1 S1 => tb { A with nx := N, ct := N, bk := A.nx } τ1 S1)
    (hd : ∀ τ S, I ds.length τ S → A.nx τ S) : ∀ (m i : Nat) (τ : DSt) (S : DH), i + m = ds.length → I i τ S → dLoop g tb A G (ds.drop i) τ S
  | 0, i, τ, S, e, h => by
    have e' : i = ds.length := by omega
    subst e'
    rw [List.drop_length]
    exact ⟨hG _ _ _ (Nat.le_refl _) h, hd _ _ h⟩
  | m + 1, i, τ, S, e, h => by
    have hi : i < ds.length := by omega
    have ed : ds[i]? = some ds[i] := List.getElem?_eq_getElem hi
    rw [drop_at ed]
    exact ⟨hG _ _ _ (by omega) h, hs i _ τ S _ ed h fun τ' S' h' => loop_go ds I hG hs hd m (i + 1) τ' S' (by omega) h'⟩
theorem loop_inv {g : DTG} {tb : DTS} {A : DEnds} {G : DH → Prop} {ds : List D} {τ : DSt} {S : DH} (I : Nat → DSt → DH → Prop) (h0 : I 0 τ S) (hG : ∀ i τ S, i ≤ ds.length → I i τ S → G S)
    (hs : ∀ i d τ S (N : DSt → DH → Prop), ds[i]? = some d → I i τ S → (∀ τ' S', I (i + 1) τ' S' → N τ' S') → g d τ S fun τ1 S1 => tb { A with nx := N, ct := N, bk := A.nx } τ1 S1)
    (hd : ∀ τ S, I ds.length τ S → A.nx τ S) : dLoop g tb A G ds τ S := by
  have := loop_go ds I hG hs hd ds.length 0 τ S (by omega) h0
  rwa [List.drop_zero] at this
/-- the elements' making changes nothing: [f d for d in ds if c d] -/
theorem lc_pure {g : DTG} {tt : DTT} {te : DTE} {E : DW} {τ : DSt} {G : DH → Prop} {p : Addr} {Q : DH → Prop} {S : DH} (c : D → Bool) (f : D → D) : ∀ (ds acc : List D), (∀ acc, G (upo S p (.lst acc))) →
    (∀ d ∈ ds, ∀ acc (N M : DH → Prop), (c d = true → N (upo S p (.lst (acc ++ [f d])))) → (c d = false → M (upo S p (.lst acc))) → acc.length < sizeLine →
      g d τ (upo S p (.lst acc)) fun τ1 S1 => tt E τ1 S1 fun b S2 => if b = true then te E τ1 S2 fun y S3 => (match S3 p with | some (.lst acc) => acc.length < sizeLine ∧ N (upo S3 p (.lst (acc ++ [y]))) | _ => False) else M S2) →
    acc.length + ds.length < sizeLine → Q (upo S p (.lst (acc ++ (ds.filter c).map f))) → dLcL g tt te E τ G p Q ds (upo S p (.lst acc))
  | [], acc, hG, hs, hl, hq => ⟨hG acc, by simpa using hq⟩
  | d :: ds, acc, hG, hs, hl, hq => by
    refine ⟨hG acc, hs d (List.mem_cons_self ..) acc _ _ (fun hc => ?_) (fun hc => ?_) (by rw [List.length_cons] at hl; omega)⟩
    · refine lc_pure c f ds (acc ++ [f d]) hG (fun d' hd' => hs d' (List.mem_cons_of_mem _ hd')) (by simp at hl ⊢; omega) ?_
      rw [List.filter_cons, if_pos hc, List.map_cons] at hq
      rw [List.append_assoc]
      exact hq
    · refine lc_pure c f ds acc hG (fun d' hd' => hs d' (List.mem_cons_of_mem _ hd')) (by simp at hl ⊢; omega) ?_
      rw [List.filter_cons, if_neg (by rw [hc]; decide)] at hq
      exact hq
theorem upo_id {S : DH} {p : Addr} {o : Ob} (h : S p = some o) : upo S p o = S := by
  funext b
  unfold upo
  split
  · rename_i e
    rw [e, h]
  · rfl
theorem opt_at {α : Type} {xs : List α} {i : Int} {k : α → Prop} (h0 : 0 ≤ i) (h1 : i < xs.length) (h : ∀ d ∈ xs, k d) : opt (atI xs i) k := by
  obtain ⟨j, rfl⟩ := Int.eq_ofNat_of_zero_le h0
  have hj : j < xs.length := by omega
  rw [atI_nat (List.getElem?_eq_getElem hj)]
  exact h _ (List.getElem_mem hj)
theorem lc_map {g : DTG} {te : DTE} {E : DW} {τ : DSt} {G : DH → Prop} {p : Addr} {Q : DH → Prop} {S : DH} (f : D → D) (ds : List D) (h0 : S p = some (.lst [])) (hG : ∀ acc, G (upo S p (.lst acc)))
    (hs : ∀ d ∈ ds, ∀ acc (N : DH → Prop), N (upo S p (.lst (acc ++ [f d]))) → acc.length < 16777216 →
      g d τ (upo S p (.lst acc)) fun τ1 S1 => te E τ1 S1 fun y S3 => (match S3 p with | some (.lst acc) => acc.length < 16777216 ∧ N (upo S3 p (.lst (acc ++ [y]))) | _ => False))
    (hl : ds.length < sizeLine) (hq : Q (upo S p (.lst (ds.map f)))) : dLcL g dYes te E τ G p Q ds S := by
  have hf : ds.filter (fun _ => true) = ds := List.filter_eq_self.mpr fun _ _ => rfl
  rw [← upo_id h0]
  refine lc_pure (fun _ => true) f ds [] hG (fun d hd acc N M hN hM hl => ?_) (by simpa using hl) (by rw [hf]; exact hq)
  have := hs d hd acc N (hN rfl) (by rw [line_lt] at hl; exact hl)
  simpa only [dYes, if_true, line_lt] using this
theorem wh_go {c : DTT} {tb : DTS} {A : DEnds} (I : DSt → DH → Prop) (μ : DSt → DH → Nat)
    (hs : ∀ τ S (N : DSt → DH → Prop), I τ S → (∀ τ' S', I τ' S' → μ τ' S' < μ τ S → N τ' S') → c A.xe τ S fun b S' => if b = true then tb { A with nx := N, ct := N, bk := A.nx } τ S' else A.nx τ S') :
    ∀ (n : Nat) (τ : DSt) (S : DH), μ τ S < n → I τ S → dWh c tb A n τ S
  | 0, τ, S, h, _ => absurd h (Nat.not_lt_zero _)
  | n + 1, τ, S, h, hi => hs τ S _ hi fun τ' S' h' hl => wh_go I μ hs n τ' S' (by omega) h'
theorem while_inv {c : DTT} {tb : DTS} {A : DEnds} {τ : DSt} {S : DH} (I : DSt → DH → Prop) (μ : DSt → DH → Nat) (h0 : I τ S)
    (hs : ∀ τ S (N : DSt → DH → Prop), I τ S → (∀ τ' S', I τ' S' → μ τ' S' < μ τ S → N τ' S') → c A.xe τ S fun b S' => if b = true then tb { A with nx := N, ct := N, bk := A.nx } τ S' else A.nx τ S') : dWhile c tb A τ S :=
  ⟨_, wh_go I μ hs (μ τ S + 1) τ S (Nat.lt_succ_self _) h0⟩
/-! == of scalars -/
section
variable {S : DH} {Q : DK}
@[simp] theorem dEq_bl (n a b : Bool) : dEq n (.bl a) (.bl b) S Q = Q (.bl (if n then !(a == b) else a == b)) S := rfl
@[simp] theorem dEq_int (n : Bool) (a b : Int) : dEq n (.int a) (.int b) S Q = Q (.bl (if n then !(a == b) else a == b)) S := rfl
@[simp] theorem dEq_str (n : Bool) (a b : Str) : dEq n (.str a) (.str b) S Q = Q (.bl (if n then !(a == b) else a == b)) S := rfl
end
mutual
theorem Pd.ext {S S' : DH} (e : Ext S S') : ∀ (p : PyData) (d : D), Pd S d p → Pd S' d p
  | .none, _, h => by cases h; exact .non
  | .bool b, _, h => by cases h; exact .bl b
  | .int i, _, h => by cases h; exact .int i
  | .str x, _, h => by cases h; exact .str x
  | .tuple ps, _, h => by cases h with | tup hs => exact .tup (PdA.ext e ps _ hs)
  | .list ps, _, h => by
    cases h with
    | rol hs => exact .rol (PdA.ext e ps _ hs)
    | lst ea hs => exact .lst (e _ _ ea) (PdA.ext e ps _ hs)
  | .dict _, _, h => by cases h
theorem PdA.ext {S S' : DH} (e : Ext S S') : ∀ (ps : List PyData) (ds : List D), PdA S ds ps → PdA S' ds ps
  | [], _, h => by cases h; exact .nil
  | p :: ps, _, h => by cases h with | cons h1 h2 => exact .cons (Pd.ext e p _ h1) (PdA.ext e ps _ h2)
end
/-- what repr takes -/
def Shows (S : DH) (d : D) (p : PyData) : Prop := Pd S d p ∧ p.showable = true ∧ p.depth ≤ 100 ∧ p.shown.length ≤ sizeLine
theorem Shows.ext {S S' : DH} {d : D} {p : PyData} (e : Ext S S') (h : Shows S d p) : Shows S' d p := ⟨h.1.ext e p d, h.2⟩
end Dt
set_option maxRecDepth 100000
set_option maxHeartbeats 4000000
/-! Dat9: the law's own head, from a def's promise over data. -/
namespace Dt
open PySem PySem.Spec L2 PySem.W PyProof.Rows
theorem rds_ints {K : PySem.W.Frag} {H : Hp} : ∀ ns : List Int, RDs K H (ns.map D.int) (ns.map V.int)
  | [] => .nil
  | i :: r => .cons rfl (rds_ints r)
section
variable {P : Program} {w : World} {K : PySem.W.Frag} {mg mb : Str → Option Value} {k : Nat} {fa a : Addr} {fd : FuncData} {x : Str} {sp : DSp} {s : Shared} {ns : List Int}
/-- what the ground of the law's call holds -/
structure Grd (K : PySem.W.Frag) (mg mb : Str → Option Value) (s : Shared) : Prop where
  kin : K.In s.heap
  glob : s.heap.Ns mainGlobals mg
  blt : s.heap.Ns builtinsNs mb
  bbs : ∀ x : Str, x ≠ "__name__" → mb x = bootBuiltins x
  lim : s.heap.NoLimit
  gens : s.gens = #[]
theorem head_run (G : Grd K mg mb s) (hr : Room k callerA) (F : ∀ base : Heap, K.In base → base.Ns mainGlobals mg → DFn P w K mg base k fa fd [x] sp) (hb : ∀ (s : Shared) (u : Value), BindsTo s fd ⟨[u], []⟩ [(x, u)])
    (hsp : ∀ S, sp [.rol (ns.map D.int)] S (fun d _ => d = .bl true) fun _ _ _ => False) {H : Hp} (hH : ∀ b u, H b = some u → K.lookup b = none ∧ (∃ o, u = .frz o (.lst (ns.map V.int))) ∧ ∃ o its n, s.heap.get? b = some o ∧ o.data = .seq its n) (hok : HOk P w H s.heap) (hS : SqR K H a (ns.map V.int)) :
    codeAny (model P w) callerA (.call (.ref fa) ⟨[.ref a], []⟩) (fun r s' => r = .ok (.ret (.bool true)) ∧ OldK s.heap s'.heap ∧ s'.os = s.os ∧ AllBare s'.gens) s := by
  have up : ∀ {b : Addr} {o : Obj}, s.heap.get? b = some o → (∀ its n, o.data ≠ .seq its n) → (hidT s.heap H).get? b = some o := fun {b o} e nd => hidT_get e (by
    cases q : H b with
    | none => rfl
    | some u =>
      obtain ⟨_, _, o', its, n, e', d'⟩ := hH b u q
      cases e.symm.trans e'
      exact absurd d' (nd its n))
  have upNs : ∀ {b : Addr} {m : Str → Option Value}, s.heap.Ns b m → (hidT s.heap H).Ns b m := fun {b m} ⟨o, es, ep, e, d, r⟩ => ⟨o, es, ep, up e (fun its n z => by cases d.symm.trans z), d, r⟩
  have kin : K.In (hidT s.heap H) := fun b o e => hidT_get (G.kin b o e) (by
    cases q : H b with
    | none => rfl
    | some u => cases (hH b u q).1.symm.trans e)
  obtain ⟨mc, c1, c2⟩ := G.lim
  have env : Env0 P w K mg (hidT s.heap H) callerA [] s H :=
    ⟨rfl, ⟨kin, upNs G.glob, ⟨mb, upNs G.blt, G.bbs⟩, ⟨mc, upNs c1, c2⟩⟩, fun _ _ e => of_hidT e, by rw [hidT_size]; exact Nat.le_refl _, trivial, fun _ z => (nomatch z), hok, .of_eq G.gens⟩
  refine codeAny_mono ((F _ kin (upNs G.glob)).run callerA [] s H ⟨[.ref a], []⟩ [.ref a] [.ref a] (fun v _ => v = .bl true) (fun _ _ _ => False) hr rfl env (hb s (.ref a)) (.cons rfl .nil)
    ⟨[.rol (ns.map D.int)], fun _ => none, (fun _ _ z => nomatch z), RDs.cons ⟨a, _, rfl, hS, rds_ints ns⟩ .nil, (F _ kin (upNs G.glob)).mono _ _ _ _ _ _ (fun d S' e v H' _ _ r => ?_) (fun _ _ _ z => z.elim) (hsp _)⟩) fun r s' h => ?_
  · subst e
    exact r
  · match r, h with
    | .error e, ⟨_, _, _, _, _, _, _, _, _, _, _, _, z⟩ => exact z.elim
    | .ok (.ret u), ⟨v, H', os, bare, un, hok', rv, e⟩ =>
      cases e
      cases (show u = Value.bool true from rv)
      refine ⟨rfl, OldK.of_keep fun b o e => ?_, os, bare⟩
      cases q : H b with
      | none => exact un.keep b o e q (fun z => nomatch z) (fun z => nomatch z)
      | some u =>
        obtain ⟨_, ⟨ob, rfl⟩, _⟩ := hH b u q
        have e1 := (hok b _ q).1
        have e2 := (hok' b _ (un.frzs b ob _ q)).1
        cases e.symm.trans e1
        exact e2
/-- the same for the script as it is handed in -/
theorem head_call {vs : List Value} (G : Grd K mg mb s) (hr : Room k callerA) (F : ∀ base : Heap, K.In base → base.Ns mainGlobals mg → DFn P w K mg base k fa fd [x] sp) (hb : ∀ (s : Shared) (u : Value), BindsTo s fd ⟨[u], []⟩ [(x, u)])
    (hsp : ∀ S, sp [.rol (ns.map D.int)] S (fun d _ => d = .bl true) fun _ _ _ => False) (ha : s.heap.get? a = some { cls := .type "list", data := .seq vs.toArray }) (hi : IntsAre vs ns) (hl : ns.length ≤ sizeLine) :
    codeAny (model P w) callerA (.call (.ref fa) ⟨[.ref a], []⟩) (fun r s' => r = .ok (.ret (.bool true)) ∧ OldK s.heap s'.heap ∧ s'.os = s.os ∧ AllBare s'.gens) s := by
  have rv := vals_ints hi
  cases hk : K.lookup a with
  | some o =>
    have e := G.kin a o hk
    cases ha.symm.trans e
    refine head_run (H := fun _ => none) G hr F hb hsp (fun _ _ z => nomatch z) (fun _ _ z => nomatch z) (.inr ⟨vs.toArray, _, hk, ?_, rv⟩)
    rw [List.size_toArray, hi.length]
    exact hl
  | none =>
    refine head_run (H := upd (fun _ => none) a (.frz { cls := .type "list", data := .seq vs.toArray } (.lst (ns.map V.int)))) G hr F hb hsp (fun b u z => ?_) (fun b u z => ?_) (.inl ⟨_, upd_same⟩)
    all_goals
      by_cases hba : b = a
      · subst hba
        rw [upd_same] at z
        cases z
        first
          | exact ⟨hk, ⟨_, rfl⟩, _, vs.toArray, _, ha, rfl⟩
          | exact ⟨ha, by rw [List.length_map]; exact hl, vs, _, rv, ha⟩
      · rw [upd_ne hba] at z
        cases z
end
/-- the goal that k_head leaves, from the promise of the law's def -/
theorem dwalk {l : OpenLaw} {n k : Nat} {q : Program} {loose : List Str} {XP : (Str → Option Value) → Heap → Prop} {YP : World → Heap → Prop} {d : DefRec} {K : Params → PySem.W.Frag} {sp : DSp} {x : Str} (hn : l.most = some n) (hn2 : n ≤ sizeLine) (hdf : d.params.defaults = []) (hr : Room k callerA) (hY : ∀ (w : World) (h : Heap), YP w h → (K w.params).In h)
    (F : ∀ (w : World) (mg : Str → Option Value) (fa : Addr) (h : Heap), (K w.params).In h → h.Ns mainGlobals mg → mg d.name = some (.ref fa) →
      ∃ fd : FuncData, (∀ (s : Shared) (u : Value), BindsTo s fd ⟨[u], []⟩ [(x, u)]) ∧ ∀ base : Heap, (K w.params).In base → base.Ns mainGlobals mg → DFn l.prog w (K w.params) mg base k fa fd [x] sp)
    (hsp : ∀ (ns : List Int) S, ns.length ≤ n → sp [.rol (ns.map D.int)] S (fun d _ => d = .bl true) fun _ _ _ => False) : WalkO q loose XP YP l.row.toRowW d [] (fun f vs => PySem.call f vs) := by
  refine Att.attach_call hn hdf fun w _ s₁ mg mb fa _ _ _ _ a vs ns G Y _ _ _ hmg hobj hints hlen hg => ?_
  have KX := hY w _ Y
  obtain ⟨fd, hb, hF⟩ := F w mg fa _ KX G.T.g hmg
  exact head_call (ns := ns) ⟨KX, G.T.g, G.T.b, G.T.builtins, G.T.nolimit, hg⟩ hr hF hb (fun S => hsp ns S hlen) hobj hints (Nat.le_trans hlen hn2)
end Dt
set_option maxRecDepth 100000
set_option maxHeartbeats 4000000
/-! DatS: set(list) of ints and texts. -/
namespace Dt
open PySem PySem.Spec PySem.W L2 PyProof.Rows
/-- a set's row stands for a key -/
def RowK (w : World) (e : Int × Value) (k : Key) : Prop := keyIs k e.2 = true ∧ e.1 = keyH w k
theorem key_scans {k : Key} {v : Value} (h : keyIs k v = true) : v.scannable = true := by
  rcases keyIs_shape h with ⟨i, t, rfl, rfl⟩ | ⟨x, t, rfl, rfl⟩ <;> rfl
/-- the set at a: its keys, each once, in some order of the table's rows; the table may be walked -/
def SetKs (w : World) (h : Heap) (a : Addr) (ks : List Key) : Prop :=
  ∃ (o : Obj) (es : Array (Int × Value)) (ep : Nat) (t : SetTable) (l : List (Int × Value)), h.get? a = some o ∧ o.ExactSet ∧ o.data = .set es ep t ∧ es.toList.Perm l ∧ EachIs (RowK w) l ks ∧ ks.Nodup ∧
    es.size < scanBound ∧ t.fits es.size = true ∧ Ris t.place.toList ∧ (w.params.followText "set-order" = true ∨ t.led = true)
section
variable {P : Program} {w : World} {A : Around} {E : Value → Shared → Prop} {s : Shared} {a : Addr} {ks : List Key}
theorem each_right {α β : Type} {R : α → β → Prop} : ∀ {l : List α} {ks : List β}, EachIs R l ks → ∀ e ∈ l, ∃ k ∈ ks, R e k
  | _, _, .nil, _, h => nomatch h
  | _, _, .cons x t, e, h => by
    rcases List.mem_cons.mp h with rfl | z
    · exact ⟨_, List.mem_cons_self .., x⟩
    · obtain ⟨k, hk, r⟩ := each_right t e z
      exact ⟨k, List.mem_cons_of_mem _ hk, r⟩
theorem each_left {α β : Type} {R : α → β → Prop} : ∀ {l : List α} {ks : List β}, EachIs R l ks → ∀ k ∈ ks, ∃ e ∈ l, R e k
  | _, _, .nil, _, h => nomatch h
  | _, _, .cons x t, k, h => by
    rcases List.mem_cons.mp h with rfl | z
    · exact ⟨_, List.mem_cons_self .., x⟩
    · obtain ⟨e, he, r⟩ := each_left t k z
      exact ⟨e, List.mem_cons_of_mem _ he, r⟩
theorem each_get {α β : Type} {R : α → β → Prop} : ∀ {l : List α} {ks : List β} {i : Nat} {v : α}, EachIs R l ks → l[i]? = some v → ∃ k, ks[i]? = some k ∧ R v k
  | _, _, _, _, .nil, h => by cases h
  | _, _, 0, _, .cons x _, h => by cases h; exact ⟨_, rfl, x⟩
  | _, _, i + 1, _, .cons _ t, h => each_get (i := i) t h
theorem each_snoc {α β : Type} {R : α → β → Prop} {x : α} {y : β} (h : R x y) : ∀ {l : List α} {ks : List β}, EachIs R l ks → EachIs R (l ++ [x]) (ks ++ [y])
  | _, _, .nil => .cons h .nil
  | _, _, .cons a t => .cons a (each_snoc h t)
theorem rows_elems {es : Array (Int × Value)} {l : List (Int × Value)} (p : es.toList.Perm l) (r : EachIs (RowK w) l ks) : ElemsOf (mixKind P w) es.toList := fun e he => by
  obtain ⟨k, _, h1, h2⟩ := each_right r e (p.mem_iff.mp he)
  exact ⟨⟨k, h1, h2⟩, key_scans h1⟩
theorem SetKs.len {h : Heap} (R : SetKs w h a ks) : ks.length < scanBound := by
  obtain ⟨o, es, ep, t, l, _, _, _, p, r, _, hb, _⟩ := R
  rw [← r.length, ← p.length_eq, Array.length_toList]
  exact hb
theorem SetKs.at {h h' : Heap} (R : SetKs w h a ks) (k : ∀ o, h.get? a = some o → h'.get? a = some o) : SetKs w h' a ks := by
  obtain ⟨o, es, ep, t, l, ho, r⟩ := R
  exact ⟨o, es, ep, t, l, k o ho, r⟩
/-- the rows laid down, and the table laid anew where it is too full -/
theorem ks_lay {g : Bool → Sem Unit} (hg : ∀ (b : Bool) (s₁ : Shared) (Q' : Unit → Shared → Prop), Q' () s₁ → wpAny (model P w) A (g b) Q' E s₁) {o : Obj} {es es1 : Array (Int × Value)} {ep : Nat} {t t2 : SetTable} {l : List (Int × Value)} {wasDummy : Bool} {R : Option Bool → Shared → Prop}
    (ho : s.heap.get? a = some o) (hex : o.ExactSet) (hd : o.data = .set es ep t) (p : es1.toList.Perm l) (r : EachIs (RowK w) l ks) (nd : ks.Nodup) (hb : es1.size < scanBound) (hf : t2.fits es1.size = true) (hr : Ris t2.place.toList) (hl : w.params.followText "set-order" = true ∨ t2.led = true)
    (hR : ∀ h', Heap.SameBut a s.heap h' → SetKs w h' a ks → R (some true) { s with heap := h' }) :
    wpAny (model P w) A (do
        storeSet a es1 t2
        if (!wasDummy && t2.tooFull) = true then do
            g (relayAll t2 es1 (SetTable.grown es1.size)).2.2
            storeSet a (relayAll t2 es1 (SetTable.grown es1.size)).1 (relayAll t2 es1 (SetTable.grown es1.size)).2.1
            pure (some true)
          else pure (some true)) R E s := by
  refine wpAny_bind (wpAny_storeSet_of ho hd ?_ (fits_of_scanBound hb))
  have ho1 := store_at (es' := es1) (t' := t2) ho hd
  have sb := Heap.SameBut.update s.heap a (Obj.putSet es1 t2)
  split
  · have q1 := relayAll_perm t2 es1 (SetTable.grown es1.size)
    have q2 := relayAll_fits t2 es1 (SetTable.grown es1.size)
    have q3 := relayAll_ris t2 es1 (SetTable.grown es1.size)
    have q4 := relayAll_led t2 es1 (SetTable.grown es1.size)
    generalize relayAll t2 es1 (SetTable.grown es1.size) = Z at q1 q2 q3 q4 ⊢
    obtain ⟨es2, t3, gave⟩ := Z
    dsimp only at q1 q2 q3 q4 ⊢
    have hb2 : es2.size < scanBound := by
      rw [← Array.length_toList, q1.length_eq, Array.length_toList]
      exact hb
    refine wpAny_bind (hg _ _ _ ?_)
    refine wpAny_bind (wpAny_storeSet_of ho1 rfl ?_ (fits_of_scanBound hb2))
    refine wpAny_pure (hR _ (sb.trans (Heap.SameBut.update _ a _)) ⟨_, es2, _, t3, l, store_at (es' := es2) (t' := t3) ho1 rfl, hex, rfl, q1.trans p, r, nd, hb2, q2, q3, ?_⟩)
    rcases hl with z | z
    · exact .inl z
    · exact .inr (q4.trans z)
  · exact wpAny_pure (hR _ sb ⟨_, es1, _, t2, l, ho1, hex, rfl, p, r, nd, hb, hf, hr, hl⟩)
/-- a key more, where it is not there -/
def addK (ks : List Key) (k : Key) : List Key := if (ks.any fun j => decide (j = k)) = true then ks else ks ++ [k]
theorem any_key {ks : List Key} {k : Key} : (ks.any fun j => decide (j = k)) = true ↔ k ∈ ks := by
  rw [List.any_eq_true]
  exact ⟨fun ⟨j, hj, e⟩ => of_decide_eq_true e ▸ hj, fun h => ⟨k, h, decide_eq_true rfl⟩⟩
theorem ks_add {k : Key} {v : Value} {Q : Bool → Shared → Prop} (hv : keyIs k v = true) (R : SetKs w s.heap a ks) (room : ks.length + 1 < scanBound) (hQ : ∀ b h', Heap.SameBut a s.heap h' → SetKs w h' a (addK ks k) → Q b { s with heap := h' }) :
    wpAny (model P w) A (setAddHashed a v (keyH w k)) Q E s := by
  obtain ⟨o, es, ep, t, l, ho, hex, hd, p, r, nd, hb, hf, hr, hl⟩ := R
  have hsc := key_scans hv
  have hel : ElemsOf (mixKind P w) es.toList := rows_elems p r
  unfold setAddHashed setAddHashedIn
  refine wpAny_holding (wpAny_bind (wpAny_setState_of ho hd hf ?_))
  dsimp only
  rw [byScan_of hsc hb hel]
  simp only [↓reduceIte]
  unfold setAddByScan
  refine wpAny_bind (wpAny_bind (wpAny_rule (wpAny_bind (wpAny_setScan_of (knd := mixKind P w) (k := k) hv ho hd hf hel ?_))))
  cases hfi : List.findIdx? (fun e => (mixKind P w).is k e.2) es.toList with
  | some j =>
    dsimp only
    obtain ⟨hj, pj, _⟩ := List.findIdx?_eq_some_iff_getElem.mp hfi
    obtain ⟨k2, hk2, r1, _⟩ := each_right r _ (p.mem_iff.mp (List.getElem_mem hj))
    have ek : k = k2 := (mixKind P w).inj _ _ _ pj r1
    have e : addK ks k = ks := if_pos (any_key.mpr (ek ▸ hk2))
    exact wpAny_pure (wpAny_pure (hQ false s.heap (Heap.SameBut.refl a s.heap) (by rw [e]; exact ⟨o, es, ep, t, l, ho, hex, hd, p, r, nd, hb, hf, hr, hl⟩)))
  | none =>
    dsimp only
    have hnk : k ∉ ks := fun z => by
      obtain ⟨e, he, q, _⟩ := each_left r k z
      have c := List.findIdx?_eq_none_iff.mp hfi e (p.mem_iff.mpr he)
      have q' : (mixKind P w).is k e.2 = true := q
      rw [q'] at c
      cases c
    have e : addK ks k = ks ++ [k] := if_neg fun z => hnk (any_key.mp z)
    rw [e] at hQ
    have hgw : ∀ (b : Bool) {s₁ : Shared} {Q' : Unit → Shared → Prop}, Q' () s₁ → wpAny (model P w) A (match b with | true => rule "set.scan.the-table-gave-way" | false => pure ()) Q' E s₁ := fun b s₁ Q' q => by
      cases b
      · exact wpAny_pure q
      · exact wpAny_rule q
    have q1 := layNew_perm t es (keyH w k) v
    have q2 := layNew_fits t es (keyH w k) v
    have q3 := layNew_ris t es (keyH w k) v hr
    have q4 := layNew_led t es (keyH w k) v
    generalize layNew t es (keyH w k) v = Z at q1 q2 q3 q4 ⊢
    obtain ⟨es1, t1, wasDummy, gave⟩ := Z
    dsimp only at q1 q2 q3 q4 ⊢
    rw [Array.toList_push] at q1
    have p1 : es1.toList.Perm (l ++ [(keyH w k, v)]) := q1.trans (p.append_right _)
    have r1 : EachIs (RowK w) (l ++ [(keyH w k, v)]) (ks ++ [k]) := each_snoc ⟨hv, rfl⟩ r
    have nd1 : (ks ++ [k]).Nodup := List.nodup_append.mpr ⟨nd, List.nodup_cons.mpr ⟨List.not_mem_nil, List.nodup_nil⟩, fun x hx y hy z => hnk (by rw [← List.mem_singleton.mp hy, ← z]; exact hx)⟩
    have hb1 : es1.size < scanBound := by
      rw [← Array.length_toList, p1.length_eq, r1.length, List.length_append]
      exact room
    have hled : w.params.followText "set-order" = true ∨ t1.led = true := hl.imp id fun z => q4.trans z
    refine wpAny_bind (hgw _ ?_)
    split
    · refine wpAny_bind ?_
      rw [hashByValue_scannable 8 hsc]
      refine wpAny_pure (ks_lay ?_ ho hex hd p1 r1 nd1 hb1 ?_ ?_ ?_ fun h' sb z => wpAny_pure (hQ true h' sb z))
      · exact fun b s₁ Q' q => hgw b q
      · first | exact q2 | (split <;> first | exact q2 | exact SetTable.fits_plain_off q2)
      · first | exact q3 | (split <;> exact q3)
      · first | exact hled | (split <;> exact hled)
    · refine wpAny_bind (wpAny_pure ?_)
      simp only [↓reduceIte]
      exact ks_lay (fun b s₁ Q' q => hgw b q) ho hex hd p1 r1 nd1 hb1 q2 q3 hled fun h' sb z => wpAny_pure (hQ true h' sb z)
/-- the keys, each at its first place -/
def firstK (ks : List Key) : List Key := ks.foldl addK []
theorem firstK_snoc (ks : List Key) (k : Key) : firstK (ks ++ [k]) = addK (firstK ks) k := by
  unfold firstK
  rw [List.foldl_append]
  rfl
theorem firstK_take {ks : List Key} {i : Nat} {k : Key} (h : ks[i]? = some k) : firstK (ks.take (i + 1)) = addK (firstK (ks.take i)) k := by
  rw [List.take_succ, h, ← firstK_snoc]
  rfl
theorem addK_len (ks : List Key) (k : Key) : (addK ks k).length ≤ ks.length + 1 := by
  unfold addK
  split
  · omega
  · simp
theorem foldK_len : ∀ (ks acc : List Key), (ks.foldl addK acc).length ≤ acc.length + ks.length
  | [], _ => Nat.le_refl _
  | k :: ks, acc => by
    have h1 := foldK_len ks (addK acc k)
    have h2 := addK_len acc k
    simp only [List.foldl_cons, List.length_cons]
    omega
theorem firstK_len (ks : List Key) : (firstK ks).length ≤ ks.length := by
  have := foldK_len ks []
  unfold firstK
  simpa using this
/-- the loop that fills a set -/
theorem ks_loop {I : Addr} {fp wr : List Addr} {G : Array GenState → Array GenState → Prop} {n : Nat} {Pv : Nat → Value → Prop} {St : Nat → Shared → Prop} {R : Result → Shared → Prop} {B : Addr} {all : List Key}
    (W : WalksS P w A.in1 I fp wr G n Pv St) (hB : B ∉ fp) (hn : n = all.length) (hv : ∀ i v, Pv i v → ∃ k, all[i]? = some k ∧ keyIs k v = true) (hb : n + 1 < scanBound)
    (hR : ∀ s' s0, Moved (B :: wr) G s0 s' → SetKs w s'.heap B (firstK all) → s0 = s → R (.ok (.ret .none)) s') :
    ∀ (m i : Nat) (s1 : Shared), n - i = m → i ≤ n → St i s1 → SetKs w s1.heap B (firstK (all.take i)) → (∀ s', Moved (B :: wr) G s1 s' → Moved (B :: wr) G s s') → codeAny (model P w) A (.builtin "set.update.loop" ⟨[.ref B, .ref I], []⟩) R s1 := by
  have hBw : B ∉ wr := fun h => hB (W.sub _ h)
  have more : ∀ b ∈ wr, b ∈ B :: wr := fun b hb => List.mem_cons_of_mem _ hb
  intro m
  induction m with
  | zero =>
    intro i s1 hm hi hst hS mv
    have hin : i = n := by omega
    subst hin
    (refine codeAny_builtin F.entry_set_update_loop ?_; rw [Around.under_plainId F.plain_set_update_loop _])
    refine (show wpAny _ A.in1 (pyNext (.ref I) >>= _) _ _ s1 from wpAny_bind (W.done s1 _ _ hst fun s' hm => wpAny_pure (hR s' s (mv s' (hm.mono more)) ?_ rfl)))
    rw [show all.take i = all from List.take_of_length_le (by omega)] at hS
    exact hS.at fun o e => hm.heap B o hBw e
  | succ m ih =>
    intro i s1 hm hi hst hS mv
    have hlt : i < n := by omega
    (refine codeAny_builtin F.entry_set_update_loop ?_; rw [Around.under_plainId F.plain_set_update_loop _])
    refine (show wpAny _ A.in1 (pyNext (.ref I) >>= _) _ _ s1 from wpAny_bind (W.item i s1 _ _ hlt hst fun v s' hP hst' hm => ?_))
    obtain ⟨k, hk, hkv⟩ := hv i v hP
    have hS' : SetKs w s'.heap B (firstK (all.take i)) := hS.at fun o e => hm.heap B o hBw e
    refine (show wpAny _ A.in1 (holding [v] (setAdd B v) >>= _) _ _ s' from wpAny_bind (wpAny_holding ?_))
    unfold setAdd
    refine wpAny_holding (wpAny_bind ((mixKind P w).pyHash (k := k) hkv ?_))
    have room : (firstK (all.take i)).length + 1 < scanBound := by
      have := firstK_len (all.take i)
      rw [List.length_take] at this
      omega
    refine ks_add (s := { s' with toks := s'.toks + 1 }) hkv hS' room fun b h' sb hS2 => ?_
    rw [← firstK_take hk] at hS2
    refine wpAny_pure ⟨plainId_quiet F.plain_set_update_loop _, ih (i + 1) _ (by omega) hlt (W.frame _ s' _ _ hst' (Nat.le_succ _) fun c hc o e => ?_) hS2 fun s'' hm'' => mv s'' (Moved.trans W.gtrans ((hm.mono more).then_heap (Nat.le_succ _) fun c o hc e => ?_) hm'')⟩
    · exact (sb.2 c (fun z : c = B => hB (by rw [← z]; exact hc))).trans e
    · exact (sb.2 c (fun z : c = B => hc (by rw [z]; exact List.mem_cons_self))).trans e
theorem ks_none {h : Heap} {a : Addr} (ho : h.get? a = some { cls := .type "set", dict := none, data := .set #[] 0 (.fresh 0 0 (!w.params.followText "set-order")) }) : SetKs w h a [] := by
  refine ⟨_, #[], 0, _, [], ho, ⟨rfl, rfl, rfl⟩, rfl, List.Perm.nil, .nil, List.nodup_nil, by decide, rfl, List.Pairwise.nil, ?_⟩
  cases e : w.params.followText "set-order"
  · exact .inr rfl
  · exact .inl rfl
abbrev newSet (w : World) : Obj := { cls := .type "set", dict := none, data := .set #[] 0 (.fresh 0 0 (!w.params.followText "set-order")) }
set_option maxHeartbeats 8000000 in
/-- set(xs): ints and texts -/
theorem call_ks {l : Addr} {items : Array Value} {all : List Key} {Q : Value → Shared → Prop} (hh : A.handled = none) (hl : s.heap.IsList l items) (hit : EachIs (fun v k => keyIs k v = true) items.toList all) (hb : all.length + 1 < scanBound)
    (h : ∀ (h' : Heap) (tk : Nat), SetKs w h' s.heap.objs.size (firstK all) → (∀ b o, b < s.heap.objs.size → s.heap.get? b = some o → h'.get? b = some o) → Q (.ref s.heap.objs.size) { s with heap := h', toks := tk }) :
    wpAny (model P w) A (call (.type "set") [.ref l]) Q E s := by
  have hn : items.size = all.length := by rw [← Array.length_toList, hit.length]
  obtain ⟨c, tl, hmro⟩ := F.called_set.mro
  have hmade := F.called_set.made; have hsub := F.called_set.sub
  refine wpAny_call (codeAny_of_tree (show wpAny _ _ (callAny (.type "set") _) _ _ _ from wpAny_pure ⟨Code.quiet_builtin _ (by decide +kernel), codeAny_builtin F.entry_type_call ?_⟩))
  rw [Around.under_plain (weight_type_call_type "set" [.ref l] []) rfl]
  have h1 := F.called_set.notType; have h2 := F.called_set.canCreate; have hct := F.typeCall_set_1 (.ref l)
  repeat (any_goals (first | assumption | wp_step))
  refine codeAny_mono (code_set_led1 (.ref l) (E := E) (Q₁ := fun obj s₁ => obj = .ref s.heap.objs.size ∧ s₁ = { s with heap := s.heap.push (newSet w) }) ⟨rfl, rfl⟩) fun r s₁ hr => ?_
  match r, hr with
  | .error e, hr => exact hr
  | .ok .next, hr => exact hr.elim
  | .ok .brk, hr => exact hr.elim
  | .ok .cont, hr => exact hr.elim
  | .ok (.ret obj), ⟨e1, e2⟩ =>
    subst e1; subst e2
    have hS : (s.heap.push (newSet w)).get? s.heap.objs.size = some (newSet w) := Heap.get?_push_size _ rfl
    have hT : Shared.TypeIs { s with heap := s.heap.push (newSet w) } (.ref s.heap.objs.size) "set" := ⟨_, hS, rfl⟩
    have hli := F.called_set.init.lookup; have hbi := F.called_set.init.bind (.ref s.heap.objs.size)
    repeat (any_goals (first | assumption | wp_step))
    refine codeAny_mono (codeAny_call_builtin (R := wants (fun r s₂ => r = .none ∧ ∃ h' tk, s₂ = { s with heap := h', toks := tk } ∧ SetKs w h' s.heap.objs.size (firstK all) ∧ ∀ b o, b < s.heap.objs.size → s.heap.get? b = some o → h'.get? b = some o) E) F.called_set.init.plain F.entry_set_init (check_set_init_1 hT ?_)) fun r₂ s₂ hr₂ => ?_
    · obtain ⟨⟨ocls, odict, odata, oslots⟩, hol, hcl, nl, hdl⟩ := hl
      simp only at hcl hdl
      subst hcl; subst hdl
      have hol' : (s.heap.push (newSet w)).get? l = some { cls := .type "list", dict := odict, data := .seq items nl, slots := oslots } := Heap.get?_push_of_some _ hol
      have hsls := F.sub_list_set; have hslf := F.sub_list_frozenset; have hne : (Value.type "list" == Value.type "dict") = false := by decide
      have hl1 : (s.heap.push (newSet w)).IsList l items := ⟨_, hol', rfl, nl, rfl⟩
      unfold Builtin.«set.__init__» noKeywords Builtin.Frozenset.updateFrom
      (generalize hPI : pyIter = PI; wp_walk; subst hPI)
      refine wpAny_pyIter_list hl1 (wpAny_bind (wpAny_runValue ?_))
      have hlS : l < s.heap.objs.size := Heap.lt_size hol
      have hh3 : A.in1.in1.in1.handled = none := by simp [hh]
      have hz : (s.heap.push (newSet w)).objs.size = s.heap.objs.size + 1 := Heap.size_push ..
      have hneI : l ≠ (s.heap.push (newSet w)).objs.size := fun z => absurd hlS (by rw [z, Heap.size_push]; exact Nat.not_lt_of_le (Nat.le_succ _))
      have hSf : s.heap.objs.size ∉ [(s.heap.push (newSet w)).objs.size, l] := by
        rw [Heap.size_push]
        simp only [List.mem_cons, List.not_mem_nil, or_false, not_or]
        exact ⟨fun z => absurd z (Nat.ne_of_lt (Nat.lt_succ_self _)), fun z => absurd hlS (by rw [← z]; exact Nat.lt_irrefl _)⟩
      have hval : ∀ (i : Nat) (v : Value), items[i]? = some v → ∃ k, all[i]? = some k ∧ keyIs k v = true := fun i v hv => by
        rw [← Array.getElem?_toList] at hv
        exact each_get hit hv
      refine ks_loop (B := s.heap.objs.size) (all := all) ((Walks.list hh3 _ l hneI items).toS) hSf hn hval (by omega) (fun s' s0 hm hS' e0 => ?_) (items.size - 0) 0 _ (by omega) (Nat.zero_le _) ⟨⟨_, Heap.get?_push_size _ rfl, rfl, rfl⟩, (hl1.push _)⟩ (ks_none (Heap.get?_push_of_some _ hS)) (fun _ z => z)
      subst e0
      obtain ⟨h', g', d', tk', os'⟩ := s'
      have eg : g' = s.gens := hm.gens
      have ed : d' = s.drawn := hm.drawn
      have eo : os' = s.os := hm.os
      subst eg; subst ed; subst eo
      refine (show wpAny _ _ _ _ _ _ from wpAny_pure (show wpAny _ _ (ret Value.none) _ _ _ from wpAny_pure ⟨rfl, h', tk', rfl, hS', fun b o hb e => ?_⟩))
      exact hm.heap b o (by rw [Heap.size_push]; simp only [List.mem_cons, List.not_mem_nil, or_false, not_or]; exact ⟨Nat.ne_of_lt hb, Nat.ne_of_lt (Nat.lt_succ_of_lt hb)⟩) (Heap.get?_push_of_some _ (Heap.get?_push_of_some _ e))
    · match r₂, hr₂ with
      | .error e, hr₂ => exact hr₂
      | .ok .next, hr₂ => exact hr₂.elim
      | .ok .brk, hr₂ => exact hr₂.elim
      | .ok .cont, hr₂ => exact hr₂.elim
      | .ok (.ret r), ⟨e1, h', tk, e2, hS', hk'⟩ =>
        subst e1; subst e2
        repeat (any_goals (first | assumption | wp_step))
        exact h _ _ hS' hk'
end
end Dt
set_option maxRecDepth 100000
set_option maxHeartbeats 4000000
/-! DatA: in, tuple * int, a tuple of the module. -/
namespace Dt
open PySem PySem.Spec L2
@[simp] def flD : D → Bool
  | .non => true
  | .bl _ => true
  | .int _ => true
  | .str _ => true
  | _ => false
@[simp] def eqF : D → D → Bool
  | .non, .non => true
  | .bl a, .bl b => a == b
  | .bl a, .int b => (if a then 1 else 0) == b
  | .int a, .bl b => a == (if b then 1 else 0)
  | .int a, .int b => a == b
  | .str a, .str b => a == b
  | _, _ => false
def inF (x : D) (ds : List D) : Bool := ds.any fun y => eqF y x
section
variable {w : World} {K : PySem.W.Frag} {H : Hp}
theorem flD_V {d : D} {v : V} (r : RD K H d v) (f : flD d = true) : flatV v = true := by
  cases d <;> first | (cases r; rfl) | cases f
theorem eqF_V {d e : D} {v u : V} (r : RD K H d v) (s : RD K H e u) (f : flD d = true) (g : flD e = true) : eqV v u = eqF d e := by
  cases d <;> first | (simp at f; done) | skip
  all_goals (cases e <;> first | (simp at g; done) | skip)
  all_goals (cases r; cases s; rfl)
theorem flDs_V : ∀ {ds : List D} {vs : List V}, RDs K H ds vs → ds.all flD = true → vs.all flatV = true
  | [], _, r, _ => by cases r; rfl
  | d :: ds, _, r, h => by
    obtain ⟨v, vs, rfl, r1, r2⟩ := r
    rw [List.all_cons, Bool.and_eq_true] at h
    rw [List.all_cons, flD_V r1 h.1, flDs_V r2 h.2]
    rfl
theorem inF_V {x : D} {v : V} (rx : RD K H x v) (fx : flD x = true) : ∀ {ds : List D} {vs : List V}, RDs K H ds vs → ds.all flD = true → inV v vs = inF x ds
  | [], _, r, _ => by cases r; rfl
  | d :: ds, _, r, h => by
    obtain ⟨w, vs, rfl, r1, r2⟩ := r
    rw [List.all_cons, Bool.and_eq_true] at h
    have e := inF_V rx fx r2 h.2
    unfold inV inF at e ⊢
    rw [List.any_cons, List.any_cons, eqF_V r1 rx h.1 fx, e]
end
@[simp] def dInF (neg : Bool) (d : D) (ds : List D) (S : DH) (Q : DK) : Prop := flD d = true ∧ ds.all flD = true ∧ Q (.bl (if neg then !inF d ds else inF d ds)) S
section
variable {X : Cx}
/-- tuple * int -/
@[simp] def dMulT : R2D := fun d e S Q => match d, e with
  | .tup xs, .int n => xs ≠ [] ∧ 2 ≤ n ∧ n ≤ 1000 ∧ xs.length ≤ 1000 ∧ Q (.tup (List.replicate n.toNat xs).flatten) S
  | _, _ => False
end
/-- a promise that nobody asks -/
abbrev spNo : DSp := fun _ _ _ _ => False
theorem DFn.never {P : Program} {w : World} {K : PySem.W.Frag} {mg : Str → Option Value} {base : Heap} {k : Nat} {f : Addr} {fd : FuncData} {ps : List Str} (_ : Nat) : DFn P w K mg base k f fd ps spNo :=
  ⟨fun _ _ _ _ _ _ _ _ h => h.elim, fun _ _ _ _ h => h.elim, fun _ _ _ _ _ _ _ _ _ _ _ _ _ _ ⟨_, _, _, _, h⟩ => h.elim⟩
@[simp] def prevSp (sp : Nat → DSp) : Nat → DSp
  | 0 => spNo
  | n + 1 => sp n
end Dt
set_option maxRecDepth 100000
set_option maxHeartbeats 4000000
/-! DatB: names, plain texts. -/
namespace Dt
open PySem PySem.Spec L2
abbrev LET : Str := "abcdefghijklmnopqrstuvwxyz"
def hit (d : D) : Bool := match d with | .str s => !(Builtin.Str.occurrences LET s 0 LET.length 1).isEmpty | _ => false
def isNm (d : D) : Bool := match d with | .str x => decide (1 ≤ x.length) && decide (x.length ≤ 8) && (x.cps.toList.map signD).all hit | _ => false
def fnd (d : D) : Int := match d with | .str s => Txt.find LET s | _ => 0
/-- a text of few plain signs -/
def Pl (n : Nat) (x : Str) : Prop := x.length ≤ n ∧ ∀ c ∈ x.cps.toList, c < 128
theorem Pl.mono {n m : Nat} {x : Str} (h : Pl n x) (l : n ≤ m) : Pl m x := ⟨Nat.le_trans h.1 l, h.2⟩
theorem Pl.app {n m : Nat} {x y : Str} (h : Pl n x) (k : Pl m y) : Pl (n + m) (x ++ y) := by
  have e : (x ++ y).cps = x.cps ++ y.cps := rfl
  refine ⟨?_, fun c hc => ?_⟩
  · have h1 : x.cps.size ≤ n := h.1
    have h2 : y.cps.size ≤ m := k.1
    show (x ++ y).cps.size ≤ n + m
    rw [e, Array.size_append]
    omega
  · rw [e, Array.toList_append] at hc
    rcases List.mem_append.mp hc with z | z
    · exact h.2 c z
    · exact k.2 c z
theorem Pl.cut {n : Nat} {x : Str} (h : Pl n x) (lo hi : Option Int) : Pl n (cutS x lo hi) := by
  refine ⟨Nat.le_trans (cutS_length x lo hi) h.1, fun c hc => h.2 c ?_⟩
  have e : (cutS x lo hi).cps.toList = (x.cps.toList.drop (HT.sIx x.length 0 lo)).take (HT.sIx x.length x.length hi - HT.sIx x.length 0 lo) := rfl
  rw [e] at hc
  exact List.mem_of_mem_drop (List.mem_of_mem_take hc)
theorem fold_mem {c : Nat} {a : Array Nat} : ∀ (n : Nat) (b : Array Nat), c ∈ ((List.replicate n a).foldl (· ++ ·) b).toList → c ∈ b.toList ∨ c ∈ a.toList
  | 0, b, h => .inl h
  | n + 1, b, h => by
    rw [List.replicate_succ, List.foldl_cons] at h
    rcases fold_mem n _ h with z | z
    · rw [Array.toList_append] at z
      exact List.mem_append.mp z
    · exact .inr z
theorem fold_size {a : Array Nat} : ∀ (n : Nat) (b : Array Nat), ((List.replicate n a).foldl (· ++ ·) b).size = b.size + n * a.size
  | 0, b => by simp
  | n + 1, b => by
    rw [List.replicate_succ, List.foldl_cons, fold_size n, Array.size_append, Nat.succ_mul]
    omega
theorem Pl.mul {x : Str} (h : Pl 1 x) {n : Nat} (hn : n ≤ 9) : Pl 9 (Txt.mul x (n : Int)) := by
  unfold Txt.mul
  split
  · exact ⟨by decide, fun c hc => by cases hc⟩
  · split
    · exact h.mono (by decide)
    · refine ⟨?_, fun c hc => ?_⟩
      · show ((List.replicate ((n : Int)).toNat x.cps).foldl (· ++ ·) #[]).size ≤ 9
        rw [fold_size]
        have h1 : x.cps.size ≤ 1 := h.1
        have e : (n : Int).toNat = n := by omega
        rw [e]
        have := Nat.mul_le_mul hn h1
        simpa using this
      · rcases fold_mem _ _ hc with z | z
        · cases z
        · exact h.2 c z
theorem Pl.lit (s : String) (n : Nat) (h : (decide ((Str.ofString s).length ≤ n) && (Str.ofString s).cps.toList.all fun c => decide (c < 128)) = true) : Pl n (Str.ofString s) := by
  rw [Bool.and_eq_true] at h
  exact ⟨of_decide_eq_true h.1, fun c hc => of_decide_eq_true (List.all_eq_true.mp h.2 c hc)⟩
/-- all but p stands -/
def ExtB (p : Addr) (S S' : DH) : Prop := ∀ b o, b ≠ p → S b = some o → S' b = some o
theorem Pl.join : ∀ ys : List Str, (∀ y ∈ ys, Pl 1 y) → Pl ys.length (Txt.join (.ofString "") ys) := fun ys h => by
  exact (show Txt.join (.ofString "") ys = Str.join (.ofString "") ys from PySem.StrLaws.glued_eq_join ..) ▸ go ys h
where
  go : ∀ ys : List Str, (∀ y ∈ ys, Pl 1 y) → Pl ys.length (Str.join (.ofString "") ys)
  | [], _ => ⟨by decide, fun c hc => by cases hc⟩
  | [x], h => h x (List.mem_cons_self ..)
  | x :: z :: r, h => by
    have e : Pl 0 (Str.ofString "") := Pl.lit "" 0 (by decide +kernel)
    have k := ((h x (List.mem_cons_self ..)).app e).app (go (z :: r) fun y hy => h y (List.mem_cons_of_mem _ hy))
    exact k.mono (by simp; omega)
theorem sum_le1 : ∀ ys : List Str, (∀ y ∈ ys, y.length ≤ 1) → (ys.map (·.length)).sum ≤ ys.length
  | [], _ => Nat.le_refl _
  | x :: r, h => by
    have := sum_le1 r fun y hy => h y (List.mem_cons_of_mem _ hy)
    have := h x (List.mem_cons_self ..)
    simp
    omega
theorem rng_at {i n : Nat} {d : D} (h : (rngD 0 n)[i]? = some d) (hn : n < 2 ^ 100) : ∃ k : Nat, k < 2 ^ 100 ∧ d = .int k := by
  obtain ⟨h1, h2⟩ := List.getElem?_eq_some_iff.mp h
  simp [rngD] at h1 h2
  exact ⟨i, by omega, h2.symm⟩
end Dt
set_option maxRecDepth 100000
set_option maxHeartbeats 4000000
/-! DatC: data within bounds. -/
namespace Dt
open PySem PySem.Spec L2
structure Wt (w dp : Nat) (p : PyData) : Prop where
  sh : p.showable = true
  dp : p.depth ≤ dp
  lf : p.leavesShort 13 = true
  cl : p.canLay0 = true
  wt : p.weight ≤ w
theorem Wt.mono {w dp w' dp' : Nat} {p : PyData} (h : Wt w dp p) (a : w ≤ w') (b : dp ≤ dp') : Wt w' dp' p := ⟨h.sh, Nat.le_trans h.dp b, h.lf, h.cl, Nat.le_trans h.wt a⟩
def Nz (w dp : Nat) (S : DH) (d : D) : Prop := ∃ p, Pd S d p ∧ Wt w dp p
section
variable {S S' : DH} {d : D} {w dp w' dp' n : Nat}
theorem Nz.mono (h : Nz w dp S d) (a : w ≤ w') (b : dp ≤ dp') : Nz w' dp' S d := let ⟨p, h1, h2⟩ := h; ⟨p, h1, h2.mono a b⟩
theorem Nz.ext (h : Nz w dp S d) (e : Ext S S') : Nz w dp S' d := let ⟨p, h1, h2⟩ := h; ⟨p, h1.ext e p d, h2⟩
mutual
theorem Pd.extB {S S' : DH} {q : Addr} (hq : ∀ ds, S q ≠ some (.lst ds)) (e : ExtB q S S') : ∀ (p : PyData) (d : D), Pd S d p → Pd S' d p
  | .none, _, h => by cases h; exact .non
  | .bool b, _, h => by cases h; exact .bl b
  | .int i, _, h => by cases h; exact .int i
  | .str x, _, h => by cases h; exact .str x
  | .tuple ps, _, h => by cases h with | tup hs => exact .tup (PdA.extB hq e ps _ hs)
  | .list ps, _, h => by
    cases h with
    | rol hs => exact .rol (PdA.extB hq e ps _ hs)
    | lst ea hs => exact .lst (e _ _ (fun z => hq _ (by rw [← z]; exact ea)) ea) (PdA.extB hq e ps _ hs)
  | .dict _, _, h => by cases h
theorem PdA.extB {S S' : DH} {q : Addr} (hq : ∀ ds, S q ≠ some (.lst ds)) (e : ExtB q S S') : ∀ (ps : List PyData) (ds : List D), PdA S ds ps → PdA S' ds ps
  | [], _, h => by cases h; exact .nil
  | p :: ps, _, h => by cases h with | cons h1 h2 => exact .cons (Pd.extB hq e p _ h1) (PdA.extB hq e ps _ h2)
end
theorem FeedOb.nl {n : Nat} {o : Ob} (h : FeedOb n o) {q : Addr} {S : DH} (e : S q = some o) : ∀ ds, S q ≠ some (.lst ds) := fun ds z => by
  obtain ⟨_, _, _, rfl, _⟩ := h
  rw [e] at z
  cases z
theorem Nz.extB {q : Addr} (h : Nz w dp S d) (hq : ∀ ds, S q ≠ some (.lst ds)) (e : ExtB q S S') : Nz w dp S' d := let ⟨p, h1, h2⟩ := h; ⟨p, h1.extB hq e p d, h2⟩
theorem Nz.non : Nz w dp S .non := ⟨.none, .non, rfl, Nat.zero_le _, rfl, rfl, Nat.zero_le _⟩
theorem Nz.bl (b : Bool) : Nz w dp S (.bl b) := ⟨.bool b, .bl b, rfl, Nat.zero_le _, rfl, rfl, Nat.zero_le _⟩
theorem Nz.int (i : Int) (h1 : PyData.showable (.int i) = true) (h2 : PyData.leavesShort 13 (.int i) = true) (h3 : PyData.weight (.int i) ≤ w) : Nz w dp S (.int i) := ⟨.int i, .int i, h1, Nat.zero_le _, h2, rfl, h3⟩
theorem Nz.str {x : Str} (h : Pl n x) (hn : n ≤ w) : Nz w dp S (.str x) := by
  refine ⟨.str x, .str x, rfl, Nat.zero_le _, ?_, ?_, Nat.le_trans h.1 hn⟩
  · simp only [PyData.leavesShort, List.all_eq_true, decide_eq_true_eq]
    exact fun c hc => Nat.lt_trans (h.2 c hc) (by decide)
  · show PyData.strOk x = true
    unfold PyData.strOk
    rw [← Array.all_toList, List.all_eq_true]
    exact fun c hc => decide_eq_true (Nat.lt_trans (h.2 c hc) (by decide))
theorem Nz.lit (s : String) (h : (decide ((Str.ofString s).length ≤ w) && (Str.ofString s).cps.toList.all fun c => decide (c < 128)) = true) : Nz w dp S (.str s) := .str (Pl.lit s w h) (Nat.le_refl _)
/-- all of a list -/
structure WtA (w dp : Nat) (ps : List PyData) : Prop where
  sh : PyData.showableAll ps = true
  dp : PyData.depthAll ps ≤ dp
  lf : PyData.leavesShortAll 13 ps = true
  cl : PyData.canLayAll0 ps = true
  wt : PyData.weightAll ps ≤ ps.length * (w + 1)
theorem NzA : ∀ {ds : List D}, (∀ d ∈ ds, Nz w dp S d) → ∃ ps, PdA S ds ps ∧ WtA w dp ps ∧ ps.length = ds.length
  | [], _ => ⟨[], .nil, ⟨rfl, Nat.zero_le _, rfl, rfl, Nat.zero_le _⟩, rfl⟩
  | d :: ds, h => by
    obtain ⟨ps, h1, h2, h3⟩ := NzA (ds := ds) fun e he => h e (List.mem_cons_of_mem _ he)
    obtain ⟨p, h4, h5⟩ := h d (List.mem_cons_self ..)
    refine ⟨p :: ps, .cons h4 h1, ⟨?_, ?_, ?_, ?_, ?_⟩, by simp [h3]⟩
    · simp only [PyData.showableAll, h5.sh, h2.sh, Bool.and_self]
    · simp only [PyData.depthAll]
      have := h5.dp; have := h2.dp
      omega
    · simp only [PyData.leavesShortAll, h5.lf, h2.lf, Bool.and_self]
    · simp only [PyData.canLayAll0, h5.cl, h2.cl, Bool.and_self]
    · simp only [PyData.weightAll, List.length_cons, Nat.succ_mul]
      have := h5.wt; have := h2.wt
      omega
theorem WtA.tup {ps : List PyData} (h : WtA w dp ps) (hw : ps.length * (w + 1) ≤ w') : Wt w' (dp + 1) (.tuple ps) := ⟨h.sh, Nat.succ_le_succ h.dp, h.lf, h.cl, Nat.le_trans h.wt hw⟩
theorem WtA.lst {ps : List PyData} (h : WtA w dp ps) (hw : ps.length * (w + 1) ≤ w') : Wt w' (dp + 1) (.list ps) := ⟨h.sh, Nat.succ_le_succ h.dp, h.lf, h.cl, Nat.le_trans h.wt hw⟩
theorem Nz.tup {ds : List D} (h : ∀ d ∈ ds, Nz w dp S d) (hn : ds.length ≤ n) (hw : n * (w + 1) ≤ w') : Nz w' (dp + 1) S (.tup ds) := by
  obtain ⟨ps, h1, h2, h3⟩ := NzA h
  exact ⟨.tuple ps, .tup h1, h2.tup (by rw [h3]; exact Nat.le_trans (Nat.mul_le_mul_right _ hn) hw)⟩
theorem Nz.lst {ds : List D} {a : Addr} (e : S a = some (.lst ds)) (h : ∀ d ∈ ds, Nz w dp S d) (hn : ds.length ≤ n) (hw : n * (w + 1) ≤ w') : Nz w' (dp + 1) S (.ref a) := by
  obtain ⟨ps, h1, h2, h3⟩ := NzA h
  exact ⟨.list ps, .lst e h1, h2.lst (by rw [h3]; exact Nat.le_trans (Nat.mul_le_mul_right _ hn) hw)⟩
theorem wts_kids : ∀ {ps : List PyData} {ds : List D}, PdA S ds ps → PyData.showableAll ps = true → PyData.depthAll ps ≤ dp → PyData.leavesShortAll 13 ps = true → PyData.canLayAll0 ps = true → PyData.weightAll ps ≤ w → ∀ d ∈ ds, Nz w dp S d
  | [], _, h, _, _, _, _, _ => by cases h; exact fun _ z => nomatch z
  | p :: ps, _, h, h1, h2, h3, h4, h5 => by
    cases h with
    | cons ha hb =>
      simp only [PyData.showableAll, PyData.depthAll, PyData.leavesShortAll, PyData.canLayAll0, PyData.weightAll, Bool.and_eq_true] at h1 h2 h3 h4 h5
      intro d hd
      rcases List.mem_cons.mp hd with rfl | z
      · exact ⟨p, ha, h1.1, by omega, h3.1, h4.1, by omega⟩
      · exact wts_kids hb h1.2 (by omega) h3.2 h4.2 (by omega) d z
theorem Nz.kids {ds : List D} (h : Nz w dp S (.tup ds)) : ∀ d ∈ ds, Nz w dp S d := by
  obtain ⟨p, h1, h2⟩ := h
  cases h1 with
  | tup hs => exact wts_kids hs h2.sh (Nat.le_trans (Nat.le_succ _) h2.dp) h2.lf h2.cl h2.wt
theorem Nz.ty (h : Nz w dp S d) : ∃ n, tyName d S = some n := by
  obtain ⟨p, h1, _⟩ := h
  cases h1 with
  | lst e _ => exact ⟨"list", tyName_lst S e⟩
  | _ => exact ⟨_, rfl⟩
theorem Nz.len {x : Str} (h : Nz w dp S (.str x)) : x.length ≤ w := by
  obtain ⟨p, h1, h2⟩ := h
  cases h1
  exact h2.wt
theorem Nz.shaped (h : Nz w dp S d) (hd : dp ≤ 64) : ∃ p, Pd S d p ∧ SeqAt.shaped p = true := by
  obtain ⟨p, h1, h2⟩ := h
  exact ⟨p, h1, by unfold SeqAt.shaped; rw [h2.cl, decide_eq_true (Nat.le_trans h2.dp hd)]; rfl⟩
end
end Dt
set_option maxRecDepth 100000
set_option maxHeartbeats 4000000
/-! DatV: plain data (==, in, <, sorted by sorts of data); comprehensions whose list is a value. -/
namespace Dt
open PySem PySem.Spec L2 PySem.W PyProof.Rows

/-! ### plain data -/
mutual
def pl : D → Bool
  | .non => true
  | .int _ => true
  | .str x => PyData.strOk x
  | .tup ds => pls ds
  | .rol ds => pls ds
  | .bl _ => false
  | .ref _ => false
def pls : List D → Bool
  | [] => true
  | d :: ds => pl d && pls ds
end
mutual
def dep : D → Nat
  | .tup ds => deps ds + 1
  | .rol ds => deps ds + 1
  | _ => 0
def deps : List D → Nat
  | [] => 0
  | d :: ds => max (dep d) (deps ds)
end
mutual
theorem dep_P : ∀ d : D, (toP d).depth = dep d
  | .non | .bl _ | .int _ | .str _ | .ref _ => rfl
  | .tup ds => congrArg (· + 1) (deps_P ds)
  | .rol ds => congrArg (· + 1) (deps_P ds)
theorem deps_P : ∀ ds : List D, PyData.depthAll (toPs ds) = deps ds
  | [] => rfl
  | d :: ds => by
    show max (toP d).depth (PyData.depthAll (toPs ds)) = max (dep d) (deps ds)
    rw [dep_P d, deps_P ds]
end
mutual
theorem pl_imm : ∀ d : D, pl d = true → imm d = true
  | .non, _ | .int _, _ | .str _, _ => rfl
  | .tup ds, h => pls_imm ds h
  | .rol ds, h => pls_imm ds h
theorem pls_imm : ∀ ds : List D, pls ds = true → imms ds = true
  | [], _ => rfl
  | d :: ds, h => by
    have h' : (pl d && pls ds) = true := h
    rw [Bool.and_eq_true] at h'
    show (imm d && imms ds) = true
    rw [pl_imm d h'.1, pls_imm ds h'.2]
    rfl
end
mutual
theorem pl_lay : ∀ d : D, pl d = true → (toP d).canLay0 = true
  | .non, _ | .int _, _ => rfl
  | .str x, h => h
  | .tup ds, h => pls_lay ds h
  | .rol ds, h => pls_lay ds h
theorem pls_lay : ∀ ds : List D, pls ds = true → PyData.canLayAll0 (toPs ds) = true
  | [], _ => rfl
  | d :: ds, h => by
    have h' : (pl d && pls ds) = true := h
    rw [Bool.and_eq_true] at h'
    show ((toP d).canLay0 && PyData.canLayAll0 (toPs ds)) = true
    rw [pl_lay d h'.1, pls_lay ds h'.2]
    rfl
end
theorem beq_dec {α : Type} [BEq α] [LawfulBEq α] [DecidableEq α] (a b : α) : (a == b) = decide (a = b) := by
  by_cases h : a = b
  · rw [h]; simp
  · rw [decide_eq_false h]
    simp [h]
mutual
theorem eqv_P : ∀ d e : D, pl d = true → pl e = true → PyData.eqv (toP d) (toP e) = deq d e
  | .non, e, _, h => by cases e <;> first | rfl | (simp [pl] at h; done)
  | .int i, e, _, h => by cases e <;> first | rfl | (simp [pl] at h; done) | (simp [toP, PyData.eqv, deq]; done)
  | .str i, e, _, h => by cases e <;> first | rfl | (simp [pl] at h; done)
  | .tup ds, e, h0, h => by
    cases e <;> first | rfl | (simp [pl] at h; done) | skip
    exact eqvs_P ds _ h0 h
  | .rol ds, e, h0, h => by
    cases e <;> first | rfl | (simp [pl] at h; done) | skip
    exact eqvs_P ds _ h0 h
theorem eqvs_P : ∀ ds es : List D, pls ds = true → pls es = true → PyData.eqvAll (toPs ds) (toPs es) = deqs ds es
  | [], es, _, _ => by cases es <;> rfl
  | d :: ds, [], _, _ => rfl
  | d :: ds, e :: es, h, h' => by
    have k : (pl d && pls ds) = true := h
    have k' : (pl e && pls es) = true := h'
    rw [Bool.and_eq_true] at k k'
    show (PyData.eqv (toP d) (toP e) && PyData.eqvAll (toPs ds) (toPs es)) = (deq d e && deqs ds es)
    rw [eqv_P d e k.1 k'.1, eqvs_P ds es k.2 k'.2]
end
theorem deq_dec (d e : D) : deq d e = decide (d = e) := by
  by_cases h : d = e
  · rw [h, deq_self]; simp
  · cases q : deq d e with
    | false => simp [h]
    | true => exact absurd (of_deq _ _ q) h
/-- plain and not deep -/
def Sm (n : Nat) (d : D) : Prop := pl d = true ∧ dep d ≤ n
theorem Sm.mono {n m : Nat} {d : D} (h : Sm n d) (l : n ≤ m) : Sm m d := ⟨h.1, Nat.le_trans h.2 l⟩
theorem pls_iff : ∀ {ds : List D}, pls ds = true ↔ ∀ d ∈ ds, pl d = true
  | [] => by simp [pls]
  | d :: ds => by
    show (pl d && pls ds) = true ↔ _
    rw [Bool.and_eq_true, pls_iff (ds := ds)]
    simp
theorem deps_iff {n : Nat} : ∀ {ds : List D}, deps ds ≤ n ↔ ∀ d ∈ ds, dep d ≤ n
  | [] => by simp [deps]
  | d :: ds => by
    show max (dep d) (deps ds) ≤ n ↔ _
    rw [Nat.max_le, deps_iff (ds := ds)]
    simp
theorem sms_iff {n : Nat} {ds : List D} : (pls ds = true ∧ deps ds ≤ n) ↔ ∀ d ∈ ds, Sm n d := by
  rw [pls_iff, deps_iff]
  exact ⟨fun h d hd => ⟨h.1 d hd, h.2 d hd⟩, fun h => ⟨fun d hd => (h d hd).1, fun d hd => (h d hd).2⟩⟩
@[simp] theorem Sm_non {n : Nat} : Sm n .non := ⟨rfl, Nat.zero_le _⟩
@[simp] theorem Sm_int {n : Nat} {i : Int} : Sm n (.int i) := ⟨rfl, Nat.zero_le _⟩
@[simp] theorem Sm_str {n : Nat} {x : Str} : Sm n (.str x) ↔ PyData.strOk x = true := ⟨fun h => h.1, fun h => ⟨h, Nat.zero_le _⟩⟩
theorem Sm_tup {n : Nat} {ds : List D} : Sm (n + 1) (.tup ds) ↔ ∀ d ∈ ds, Sm n d := by
  rw [← sms_iff]
  exact ⟨fun h => ⟨h.1, Nat.le_of_succ_le_succ h.2⟩, fun h => ⟨h.1, Nat.succ_le_succ h.2⟩⟩
theorem Sm_rol {n : Nat} {ds : List D} : Sm (n + 1) (.rol ds) ↔ ∀ d ∈ ds, Sm n d := by
  rw [← sms_iff]
  exact ⟨fun h => ⟨h.1, Nat.le_of_succ_le_succ h.2⟩, fun h => ⟨h.1, Nat.succ_le_succ h.2⟩⟩
theorem Sm.kids {n : Nat} {ds : List D} (h : Sm n (.tup ds)) : ∀ d ∈ ds, Sm n d := fun d hd => ⟨pls_iff.mp h.1 d hd, deps_iff.mp (Nat.le_trans (Nat.le_succ _) h.2) d hd⟩
theorem Sm.pd {n : Nat} {d : D} (h : Sm n d) (S : DH) : Pd S d (toP d) := imm_pd S d (pl_imm d h.1)
theorem Sm.shaped {n : Nat} {d : D} (h : Sm n d) (hn : n ≤ 64) : SeqAt.shaped (toP d) = true := by
  unfold SeqAt.shaped
  rw [pl_lay d h.1, dep_P d, decide_eq_true (Nat.le_trans h.2 hn)]
  rfl
/-- the items of a list, or all of it -/
theorem seqD_pd {S : DH} {d : D} {ds : List D} (e : seqD S d = some ds) (h : ∀ x ∈ ds, Sm 60 x) : Pd S d (toP (.rol ds)) ∧ SeqAt.shaped (toP (.rol ds)) = true := by
  have hs : Sm 61 (.rol ds) := Sm_rol.mpr h
  refine ⟨?_, hs.shaped (by decide)⟩
  cases d with
  | rol xs => cases e; exact hs.pd S
  | ref a =>
    simp only [seqD_ref] at e
    split at e
    · rename_i xs ea
      cases e
      exact .lst ea (imms_pd S ds (pls_imm ds hs.1))
    · cases e
  | _ => simp at e
section
variable {S : DH} {Q : DK} {neg : Bool} {d e : D}
/-- == of plain data -/
theorem dEq_sm (hd : Sm 60 d) (he : Sm 60 e) (h : Q (.bl (if neg then !decide (d = e) else decide (d = e))) S) : dEq neg d e S Q := by
  have go : dEqG neg d e S Q := by
    refine ⟨_, _, hd.pd S, he.pd S, hd.shaped (by decide), he.shaped (by decide), ?_⟩
    rw [eqv_P d e hd.1 he.1, deq_dec]
    exact h
  unfold dEq
  split
  · simp only [D.int.injEq] at h
    rw [beq_dec]
    exact h
  · simp only [D.str.injEq] at h
    rw [beq_dec]
    exact h
  · simp [Sm, pl] at hd
  · simpa using h
  · simpa using h
  · simpa using h
  · simpa using h
  · exact go
/-- == of lists of plain data -/
theorem dEq_seq {xs ys : List D} (hd : seqD S d = some xs) (he : seqD S e = some ys) (h1 : ∀ x ∈ xs, Sm 60 x) (h2 : ∀ x ∈ ys, Sm 60 x) (h : Q (.bl (if neg then !decide (xs = ys) else decide (xs = ys))) S) : dEq neg d e S Q := by
  have go : dEqG neg d e S Q := by
    obtain ⟨p1, s1⟩ := seqD_pd hd h1
    obtain ⟨p2, s2⟩ := seqD_pd he h2
    have hx : pl (.rol xs) = true := (Sm_rol (n := 60) (ds := xs)).mpr h1 |>.1
    have hy : pl (.rol ys) = true := (Sm_rol (n := 60) (ds := ys)).mpr h2 |>.1
    refine ⟨_, _, p1, p2, s1, s2, ?_⟩
    rw [eqv_P _ _ hx hy, deq_dec]
    simp only [D.rol.injEq]
    exact h
  cases d with
  | rol _ => cases e <;> first | exact go | (simp at he)
  | ref _ => cases e <;> first | exact go | (simp at he)
  | _ => simp at hd
end

/-! ### sorts of data -/
inductive Ty where
  | int | str | tup (ts : List Ty) | hom (t : Ty) | hom1 (t : Ty) | lst (t : Ty)
mutual
def hasTy : Ty → D → Bool
  | .int, .int _ => true
  | .str, .str x => PyData.strOk x
  | .tup ts, .tup ds => hasTys ts ds
  | .hom t, .tup ds => ds.all (hasTy t)
  | .hom1 t, .tup ds => !ds.isEmpty && ds.all (hasTy t)
  | .lst t, .rol ds => ds.all (hasTy t)
  | _, _ => false
def hasTys : List Ty → List D → Bool
  | [], [] => true
  | t :: ts, d :: ds => hasTy t d && hasTys ts ds
  | _, _ => false
end
mutual
def tyDep : Ty → Nat
  | .tup ts => tysDep ts + 1
  | .hom t => tyDep t + 1
  | .hom1 t => tyDep t + 1
  | .lst t => tyDep t + 1
  | _ => 0
def tysDep : List Ty → Nat
  | [] => 0
  | t :: ts => max (tyDep t) (tysDep ts)
end
mutual
theorem hasTy_sm : ∀ (t : Ty) (d : D), hasTy t d = true → Sm (tyDep t) d
  | .int, d, h => by cases d <;> first | exact Sm_int | (simp [hasTy] at h; done)
  | .str, d, h => by cases d <;> first | exact Sm_str.mpr h | (simp [hasTy] at h; done)
  | .tup ts, d, h => by cases d <;> first | exact Sm_tup.mpr (hasTys_sm ts _ h) | (simp [hasTy] at h; done)
  | .hom t, d, h => by cases d <;> first | (simp [hasTy] at h; exact Sm_tup.mpr fun x hx => hasTy_sm t x (h x hx)) | (simp [hasTy] at h; done)
  | .hom1 t, d, h => by cases d <;> first | (simp [hasTy] at h; exact Sm_tup.mpr fun x hx => hasTy_sm t x (h.2 x hx)) | (simp [hasTy] at h; done)
  | .lst t, d, h => by cases d <;> first | (simp [hasTy] at h; exact Sm_rol.mpr fun x hx => hasTy_sm t x (h x hx)) | (simp [hasTy] at h; done)
theorem hasTys_sm : ∀ (ts : List Ty) (ds : List D), hasTys ts ds = true → ∀ d ∈ ds, Sm (tysDep ts) d
  | [], ds, h => by
    cases ds with
    | nil => exact fun _ z => nomatch z
    | cons _ _ => simp [hasTys] at h
  | t :: ts, ds, h => by
    cases ds with
    | nil => simp [hasTys] at h
    | cons d ds =>
      simp [hasTys] at h
      intro x hx
      rcases List.mem_cons.mp hx with rfl | hx
      · exact (hasTy_sm t x h.1).mono (Nat.le_max_left ..)
      · exact (hasTys_sm ts ds h.2 x hx).mono (Nat.le_max_right ..)
end
theorem alikeAll_hom {ds es : List D} (h : ∀ d ∈ ds, ∀ e ∈ es, alike (toP d) (toP e) = true) : alikeAll (toPs ds) (toPs es) = true := by
  induction ds generalizing es with
  | nil => rfl
  | cons d ds ih =>
    cases es with
    | nil => rfl
    | cons e es =>
      show (alike (toP d) (toP e) && alikeAll (toPs ds) (toPs es)) = true
      rw [h d (List.mem_cons_self ..) e (List.mem_cons_self ..), ih fun x hx y hy => h x (List.mem_cons_of_mem _ hx) y (List.mem_cons_of_mem _ hy)]
      rfl
mutual
theorem hasTy_alike : ∀ (t : Ty) (d e : D), hasTy t d = true → hasTy t e = true → alike (toP d) (toP e) = true
  | .int, d, e, h, h' => by cases d <;> first | (simp [hasTy] at h; done) | (cases e <;> first | rfl | (simp [hasTy] at h'; done))
  | .str, d, e, h, h' => by cases d <;> first | (simp [hasTy] at h; done) | (cases e <;> first | rfl | (simp [hasTy] at h'; done))
  | .tup ts, d, e, h, h' => by cases d <;> first | (simp [hasTy] at h; done) | (cases e <;> first | exact hasTys_alike ts _ _ h h' | (simp [hasTy] at h'; done))
  | .hom t, d, e, h, h' => by
    cases d <;> first | (simp [hasTy] at h; done) | (cases e <;> first | (simp [hasTy] at h h'; exact alikeAll_hom fun x hx y hy => hasTy_alike t x y (h x hx) (h' y hy)) | (simp [hasTy] at h'; done))
  | .hom1 t, d, e, h, h' => by
    cases d <;> first | (simp [hasTy] at h; done) | (cases e <;> first | (simp [hasTy] at h h'; exact alikeAll_hom fun x hx y hy => hasTy_alike t x y (h.2 x hx) (h'.2 y hy)) | (simp [hasTy] at h'; done))
  | .lst t, d, e, h, h' => by
    cases d <;> first | (simp [hasTy] at h; done) | (cases e <;> first | (simp [hasTy] at h h'; exact alikeAll_hom fun x hx y hy => hasTy_alike t x y (h x hx) (h' y hy)) | (simp [hasTy] at h'; done))
theorem hasTys_alike : ∀ (ts : List Ty) (ds es : List D), hasTys ts ds = true → hasTys ts es = true → alikeAll (toPs ds) (toPs es) = true
  | [], ds, es, h, h' => by cases ds <;> first | rfl | (simp [hasTys] at h; done)
  | t :: ts, ds, es, h, h' => by
    cases ds with
    | nil => rfl
    | cons d ds =>
      cases es with
      | nil => rfl
      | cons e es =>
        simp [hasTys] at h h'
        show (alike (toP d) (toP e) && alikeAll (toPs ds) (toPs es)) = true
        rw [hasTy_alike t d e h.1 h'.1, hasTys_alike ts ds es h.2 h'.2]
        rfl
end
/-- x < y -/
def ltD (x y : D) : Bool := dataLt (toP x) (toP y)
theorem ltD_irrefl (x : D) : ltD x x = false := PyProof.Rows.lex_irrefl _
theorem ltD_trans {x y z : D} (h : ltD x y = true) (h' : ltD y z = true) : ltD x z = true := PyProof.Rows.lex_trans _ _ _ h h'
theorem ltD_neg {x y z : D} (h : ltD x z = true) : ltD x y = true ∨ ltD y z = true := PyProof.Rows.lex_negTrans _ _ _ h
theorem ltD_asymm {x y : D} (h : ltD x y = true) : ltD y x = false := by
  cases e : ltD y x with
  | false => rfl
  | true =>
    have := ltD_trans h e
    rw [ltD_irrefl] at this
    cases this
theorem ltD_tri {t : Ty} {x y : D} (hx : hasTy t x = true) (hy : hasTy t y = true) (h : ltD x y = false) (h' : ltD y x = false) : x = y := by
  have e : keyToks (toP x) = keyToks (toP y) := PyProof.Rows.lex_total _ _ h h'
  have sx := hasTy_sm t x hx
  have sy := hasTy_sm t y hy
  have q := toks_eqv (toP x) (toP y) (hasTy_alike t x y hx hy)
  rw [eqv_P x y sx.1 sy.1] at q
  cases z : deq x y with
  | true => exact of_deq _ _ z
  | false =>
    have k := q.2 z [] [.inl 0]
    rw [← e, PyProof.Rows.lex_irrefl, List.append_nil] at k
    have : ∀ l : List (Int ⊕ List Nat), PyProof.Rows.lexLt PyProof.Rows.itemOrd l (l ++ [.inl 0]) = true := fun l => by
      induction l with
      | nil => rfl
      | cons a l ih => rw [List.cons_append, PyProof.Rows.lex_self]; exact ih
    rw [this] at k
    cases k
/-- what may be sorted -/
def sortTy : Ty → Bool
  | .int => true
  | .str => true
  | .tup (t :: ts) => decide (tyDep (.tup (t :: ts)) ≤ 50)
  | .hom1 t => decide (tyDep (.hom1 t) ≤ 50)
  | _ => false
theorem sortTy_dep {t : Ty} (h : sortTy t = true) : tyDep t ≤ 50 := by
  cases t with
  | tup ts => cases ts <;> simp [sortTy] at h; exact h
  | hom1 t => exact of_decide_eq_true h
  | int => exact Nat.zero_le _
  | str => exact Nat.zero_le _
  | hom t => cases h
  | lst t => cases h
theorem toPs_map (ds : List D) : toPs ds = ds.map toP := by
  induction ds with
  | nil => rfl
  | cons d ds ih => show toP d :: toPs ds = _; rw [ih]; rfl
theorem sortable_ty {t : Ty} {ds : List D} (h : sortTy t = true) (hd : ∀ d ∈ ds, hasTy t d = true) : Sortable (ds.map toP) := by
  have no : (∀ d, hasTy t d = true → toP d ≠ .none ∧ ∀ xs, toP d ≠ .tuple xs) → Sortable (ds.map toP) := fun k => .inr fun p hp => by
    obtain ⟨d, hd', rfl⟩ := List.mem_map.mp hp
    exact k d (hd d hd')
  have yes : (∀ d, hasTy t d = true → ∃ x r, toP d = .tuple (x :: r)) → Sortable (ds.map toP) := fun k => .inl fun p hp => by
    obtain ⟨d, hd', rfl⟩ := List.mem_map.mp hp
    exact k d (hd d hd')
  cases t with
  | int => exact no fun d z => by cases d <;> first | (simp [hasTy] at z; done) | exact ⟨(fun y => nomatch y), fun _ y => nomatch y⟩
  | str => exact no fun d z => by cases d <;> first | (simp [hasTy] at z; done) | exact ⟨(fun y => nomatch y), fun _ y => nomatch y⟩
  | hom t => cases h
  | lst t => cases h
  | hom1 t =>
    refine yes fun d z => ?_
    cases d <;> first | (simp [hasTy] at z; done) | skip
    rename_i xs
    cases xs with
    | nil => simp [hasTy] at z
    | cons x xs => exact ⟨toP x, toPs xs, rfl⟩
  | tup ts =>
    cases ts with
    | nil => cases h
    | cons t ts =>
      refine yes fun d z => ?_
      cases d <;> first | (simp [hasTy] at z; done) | skip
      rename_i xs
      cases xs with
      | nil => simp [hasTy, hasTys] at z
      | cons x xs => exact ⟨toP x, toPs xs, rfl⟩
/-- sorted as the language sorts -/
def srtD (ds : List D) : List D := ds.mergeSort fun a b => !ltD b a
theorem srtD_eq (ds : List D) : ds.mergeSort (dataLe false toP) = srtD ds := rfl
theorem srt_perm (ds : List D) : (srtD ds).Perm ds := List.mergeSort_perm ..
theorem srt_mem {ds : List D} {d : D} : d ∈ srtD ds ↔ d ∈ ds := (srt_perm ds).mem_iff
@[simp] theorem srt_len (ds : List D) : (srtD ds).length = ds.length := List.length_mergeSort _
theorem srt_sorted (ds : List D) : (srtD ds).Pairwise fun a b => ltD b a = false := by
  have := List.pairwise_mergeSort (le := fun a b : D => !ltD b a) (fun a b c h1 h2 => by
    cases e : ltD c a with
    | false => rfl
    | true =>
      rcases ltD_neg (y := b) e with z | z
      · rw [z] at h2; cases h2
      · rw [z] at h1; cases h1) (fun a b => by
    cases e : ltD b a with
    | false => rfl
    | true => rw [ltD_asymm e]; rfl) ds
  exact this.imp fun h => by simpa using h
/-- one sorted list of the same things -/
theorem sorted_one {t : Ty} : ∀ {as bs : List D}, (∀ d ∈ as, hasTy t d = true) → as.Pairwise (fun a b => ltD b a = false) → bs.Pairwise (fun a b => ltD b a = false) → as.Perm bs → as = bs
  | [], bs, _, _, _, p => p.symm.eq_nil.symm
  | a :: as, bs, ht, h1, h2, p => by
    cases bs with
    | nil => exact p.eq_nil
    | cons b bs =>
      have hb : hasTy t b = true := ht b (p.mem_iff.mpr (List.mem_cons_self ..))
      have ha : hasTy t a = true := ht a (List.mem_cons_self ..)
      obtain ⟨h1a, h1b⟩ := List.pairwise_cons.mp h1
      obtain ⟨h2a, h2b⟩ := List.pairwise_cons.mp h2
      have e : a = b := by
        rcases List.mem_cons.mp (p.mem_iff.mp (List.mem_cons_self (a := a) (l := as))) with z | z
        · exact z
        · rcases List.mem_cons.mp (p.mem_iff.mpr (List.mem_cons_self (a := b) (l := bs))) with y | y
          · exact y.symm
          · exact ltD_tri ha hb (h2a a z) (h1a b y)
      subst e
      rw [sorted_one (fun d hd => ht d (List.mem_cons_of_mem _ hd)) h1b h2b (List.perm_cons a |>.mp p)]
theorem srt_one {t : Ty} {as bs : List D} (ht : ∀ d ∈ as, hasTy t d = true) (p : as.Perm bs) : srtD as = srtD bs :=
  sorted_one (fun d hd => ht d (srt_mem.mp hd)) (srt_sorted as) (srt_sorted bs) ((srt_perm as).trans (p.trans (srt_perm bs).symm))
/-! ### sorted -/
def cSrt (ds : List D) (k : List D → Prop) : Prop := (∃ t, sortTy t = true ∧ ∀ d ∈ ds, hasTy t d = true) ∧ k (srtD ds)
def cSorted : RCD := fun ds S Q => match ds with
  | [d] => opt (seqD S d) fun xs => cSrt xs fun ys => newO S (.lst ys) fun p S' => Q (.ref p) S'
  | _ => False
@[simp] def cSortedF : RCD := fun ds S Q => match ds with
  | [d] => opt (seqD S d) fun xs => cSrt xs fun ys => Q (.rol ys) S
  | _ => False
section
variable {X : Cx}
theorem each_rel {K : PySem.W.Frag} {H : Hp} : ∀ {xs : List V} {us : List Value} {ds : List D}, Vals xs us → RDs K H ds xs → EachIs (fun u d => ∃ x, RelV x u ∧ RD K H d x) us ds
  | _, _, [], r, rd => by cases rd; cases r; exact .nil
  | _, _, d :: ds, r, rd => by
    obtain ⟨v, vs, rfl, h1, h2⟩ := rd
    cases r with
    | cons a b => exact .cons ⟨v, a, h1⟩ (each_rel b h2)
theorem rel_each {K : PySem.W.Frag} {H : Hp} : ∀ {us : List Value} {ds : List D}, EachIs (fun u d => ∃ x, RelV x u ∧ RD K H d x) us ds → ∃ xs, Vals xs us ∧ RDs K H ds xs
  | _, _, .nil => ⟨[], .nil, .nil⟩
  | _, _, .cons ⟨x, a, b⟩ t => by
    obtain ⟨xs, h1, h2⟩ := rel_each t
    exact ⟨x :: xs, .cons a h1, RDs.cons b h2⟩
theorem each_and {α β : Type} {R : α → β → Prop} {p : β → Prop} : ∀ {us : List α} {ds : List β}, EachIs R us ds → (∀ d ∈ ds, p d) → EachIs (fun u d => R u d ∧ p d) us ds
  | _, _, .nil, _ => .nil
  | _, _, .cons a t, h => .cons ⟨a, h _ (List.mem_cons_self ..)⟩ (each_and t fun d hd => h d (List.mem_cons_of_mem _ hd))
theorem cd_sorted (hu : X.A.units + 64 < cLine) : CallD X (.builtin "sorted") cSorted := by
  refine ⟨fun ds S Q Q' k h => ?_, fun pins s σ H vs us Q I rv ⟨ds, S, rep, rd, h⟩ => ?_⟩
  · match ds, h with
    | [d], h => exact opt_mono (fun _ h => ⟨h.1, fun p hp => k _ _ (h.2 p hp)⟩) h
  · match ds, h with
    | [d], h =>
      obtain ⟨ds, e, ⟨t, ht, hd⟩, h⟩ := opt_ex h
      obtain ⟨v, rfl, r⟩ := rds1 rd
      obtain ⟨a, xs, rfl, sq, rd⟩ := seqD_rd rep r e
      rw [Vals.ref1 rv]
      obtain ⟨its, rv, hl, hz⟩ := I.list sq.l
      have e := each_rel rv rd
      have sm : ∀ d ∈ ds, Sm 50 d := fun d z => (hasTy_sm t d (hd d z)).mono (sortTy_dep ht)
      have er : EachIs (fun u d => ∃ as, Reads s.heap u (toP d) as) its ds := by
        refine EachIs.mono (fun u d z => ?_) (each_and e sm)
        obtain ⟨⟨x, a1, a2⟩, a3⟩ := z
        exact Dp.reads I (toP d) x u ((a3.pd S).dp rep _ _ _ a2) a1
      have hlen : ds.length ≤ sizeLine := by rw [rd.length]; exact hz
      refine sorted_data hl.isList e er (AllAlike.of' hd) (sortable_ty ht hd) hlen (fun b hb => by have := (sm b hb).2; rw [dep_P]; omega) fun out o1 o2 => ?_
      obtain ⟨ys, r1, r2⟩ := rel_each o2
      obtain ⟨ep, he'⟩ := sortedAll_at s.heap its out.toArray
      have hn : H (s.heap.objs.size + 1) = none := I.hok.fresh (Nat.le_succ _)
      have hyl : ys.length ≤ sizeLine := by rw [← r2.length]; exact Nat.le_trans (Nat.le_of_eq (srt_len ds)) hlen
      have le : LeH H (upd H (s.heap.objs.size + 1) (.lst ys)) := LeH.new hn
      refine ⟨.ref _, upd H (s.heap.objs.size + 1) (.lst ys), I.laid (t' := s.toks) (fun _ _ => sortedAll_old) (Nat.le_succ _) ⟨hyl, out, ep, r1, he'⟩, rfl, ?_⟩
      exact h (s.heap.objs.size + 1) (rep.free hn) _ _ le (rep.new hn ⟨ys, upd_same, r2.le le⟩) rfl
where
  AllAlike.of' {t : Ty} {ds : List D} (hd : ∀ d ∈ ds, hasTy t d = true) : AllAlike (ds.map toP) := fun p hp q hq => by
    obtain ⟨d, h1, rfl⟩ := List.mem_map.mp hp
    obtain ⟨e, h2, rfl⟩ := List.mem_map.mp hq
    exact hasTy_alike t d e (hd d h1) (hd e h2)
end
/-! ### < of data -/
def rOrd (b : Bool) : R2D := fun d e S Q => match d, e with
  | .int i, .int j => Q (.bl (if b then decide (j < i) else decide (i < j))) S
  | d, e => (∃ t, tyDep t ≤ 50 ∧ hasTy t d = true ∧ hasTy t e = true) ∧ Q (.bl (if b then ltD e d else ltD d e)) S
@[simp] theorem rOrd_int {b : Bool} {i j : Int} {S : DH} {Q : DK} : rOrd b (.int i) (.int j) S Q = Q (.bl (if b then decide (j < i) else decide (i < j))) S := rfl
section
variable {X : Cx}
end
/-! ### in: plain data in lists -/
/-- b: d is among ds -/
def InR (d : D) (ds : List D) (b : Bool) : Prop := (flD d = true ∧ ds.all flD = true ∧ b = inF d ds) ∨ (Sm 60 d ∧ (∀ e ∈ ds, Sm 60 e) ∧ b = decide (d ∈ ds))
def dInQ (neg : Bool) (d : D) (ds : List D) (S : DH) (Q : DK) : Prop := ∃ b, InR d ds b ∧ Q (.bl (if neg then !b else b)) S
theorem dInQ_sm {neg : Bool} {d : D} {ds : List D} {S : DH} {Q : DK} (hd : Sm 60 d) (hs : ∀ e ∈ ds, Sm 60 e) (h : Q (.bl (if neg then !decide (d ∈ ds) else decide (d ∈ ds))) S) : dInQ neg d ds S Q := ⟨_, .inr ⟨hd, hs, rfl⟩, h⟩
theorem eqF_pl : ∀ {d e : D}, flD d = true → flD e = true → pl d = true → pl e = true → eqF e d = decide (d = e) := fun {d e} f g h k => by
  cases d <;> first | (simp at f; done) | (simp [pl] at h; done) | skip
  all_goals (cases e <;> first | (simp at g; done) | (simp [pl] at k; done) | rfl | skip)
  all_goals
    rw [eqF, beq_dec]
    simp [eq_comm]
theorem inF_pl {d : D} {ds : List D} (f : flD d = true) (g : ds.all flD = true) (h : pl d = true) (k : ∀ e ∈ ds, pl e = true) : inF d ds = decide (d ∈ ds) := by
  rw [Bool.eq_iff_iff]
  unfold inF
  rw [List.any_eq_true, decide_eq_true_eq]
  constructor
  · rintro ⟨e, he, q⟩
    rw [eqF_pl f (List.all_eq_true.mp g e he) h (k e he), decide_eq_true_eq] at q
    rw [q]
    exact he
  · intro hd
    exact ⟨d, hd, by rw [eqF_pl f f h h]; simp⟩
@[simp] theorem dInQ_fl {neg : Bool} {d : D} {ds : List D} {S : DH} {Q : DK} (f : flD d = true) (g : ds.all flD = true) : dInQ neg d ds S Q = Q (.bl (if neg then !inF d ds else inF d ds)) S := by
  refine propext ⟨fun ⟨b, r, q⟩ => ?_, fun q => ⟨_, .inl ⟨f, g, rfl⟩, q⟩⟩
  rcases r with ⟨_, _, rfl⟩ | ⟨h, k, rfl⟩
  · exact q
  · rw [inF_pl f g h.1 fun e he => (k e he).1]
    exact q
theorem dInQ_mono {neg : Bool} {d : D} {ds : List D} {S : DH} {Q Q' : DK} (k : ∀ d S', Q d S' → Q' d S') (h : dInQ neg d ds S Q) : dInQ neg d ds S Q' := let ⟨b, r, q⟩ := h; ⟨b, r, k _ _ q⟩
theorem inP_dec {d : D} {ds : List D} (hd : pl d = true) (hs : ∀ e ∈ ds, pl e = true) : inP (toP d) (toPs ds) = decide (d ∈ ds) := by
  induction ds with
  | nil => rfl
  | cons e ds ih =>
    show (PyData.eqv (toP e) (toP d) || inP (toP d) (toPs ds)) = _
    rw [eqv_P e d (hs e (List.mem_cons_self ..)) hd, ih fun x hx => hs x (List.mem_cons_of_mem _ hx), deq_dec]
    simp [eq_comm]
end Dt
set_option maxRecDepth 100000
set_option maxHeartbeats 4000000
/-! DatT: sorted(set(e)). -/
namespace Dt
open PySem PySem.Spec PySem.W L2 PyProof.Rows
def setHO (w : World) (p : Addr) (ks : List Key) : HO := .ext fun h => SetKs w h p ks
theorem SetKs.there {w : World} {h : Heap} {a : Addr} {ks : List Key} (R : SetKs w h a ks) : ∃ o, h.get? a = some o := by
  obtain ⟨o, _, _, _, _, ho, _⟩ := R
  exact ⟨o, ho⟩
theorem setHO_ok {P : Program} {w : World} {H : Hp} {h : Heap} {a : Addr} {ks : List Key} (R : SetKs w h a ks) : ObjOk P w H h a (setHO w a ks) :=
  ⟨R, R.there, fun h1 h2 z k => z.at k⟩
theorem setHO_at {P : Program} {w : World} {H : Hp} {h : Heap} {a : Addr} {ks : List Key} (hok : HOk P w H h) (e : H a = some (setHO w a ks)) : SetKs w h a ks := by
  have x : ObjOk P w H h a (.ext fun h => SetKs w h a ks) := hok a _ e
  exact x.1
theorem each_keyV (P : Program) (w : World) : ∀ {all : List Key} {us : List Value}, Vals (all.map kV) us → EachIs (fun v k => keyIs k v = true) us all
  | [], _, r => by cases r; exact .nil
  | k :: all, _, r => by
    cases r with
    | cons a b => exact .cons (kV_is (P := P) (w := w) a) (each_keyV P w b)
section
variable {X : Cx}
def rSetKs (K : PySem.W.Frag) (w : World) : List V → Hp → VK → Prop := fun vs H Q => ∃ (a : Addr) (all : List Key), vs = [.ref a] ∧ SqL K H a (all.map kV) ∧ all.length + 1 < scanBound ∧ ∀ p, H p = none → Q (.ref p) (upd H p (setHO w p (firstK all)))
theorem cr_setKs (hc : X.calm = true) : CallR X (.type "set") (rSetKs X.K X.w) := by
  intro pins s σ H vs us Q I r ⟨a, all, e, sq, hb, q⟩
  subst e
  obtain ⟨its, rv, hl, hz⟩ := I.list sq
  rw [Vals.ref1 r]
  refine call_ks (I.ok.hd hc) hl.isList (by simpa using each_keyV X.prog X.w rv) hb fun h' tk S k => ?_
  exact ⟨.ref _, upd H s.heap.objs.size (setHO X.w s.heap.objs.size (firstK all)), I.laid (t' := tk) (fun b u e => k b u (Heap.lt_size e) e) (Nat.le_refl _) (setHO_ok S), rfl, q _ (I.hok.fresh (Nat.le_refl _))⟩
/-- a key as data -/
def keyP : Key → PyData
  | .inl i => .int i
  | .inr x => .str x
def rSortKs (w : World) : List V → Hp → VK → Prop := fun vs H Q => ∃ (p : Addr) (ks : List Key), vs = [.ref p] ∧ H p = some (setHO w p ks) ∧ AllAlike (ks.map keyP) ∧ ∀ bs : List Key, bs.Perm ks → ∀ q, H q = none → Q (.ref q) (upd H q (.lst ((bs.mergeSort (dataLe false keyP)).map kV)))
theorem keyP_reads {h : Heap} {k : Key} {v : Value} (e : keyIs k v = true) : Reads h v (keyP k) [] := by
  rcases keyIs_shape e with ⟨i, t, rfl, rfl⟩ | ⟨x, t, rfl, rfl⟩
  · exact .int _ _
  · exact .str _ _
theorem keyP_depth (k : Key) : (keyP k).depth = 0 := by cases k <;> rfl
theorem keyP_sort (ks : List Key) : Sortable (ks.map keyP) := Sortable.others fun k => by
  cases k
  · exact ⟨(fun z => nomatch z), (fun _ z => nomatch z)⟩
  · exact ⟨(fun z => nomatch z), (fun _ z => nomatch z)⟩
theorem alike_perm {bs ks : List Key} (p : bs.Perm ks) (h : AllAlike (ks.map keyP)) : AllAlike (bs.map keyP) := fun d hd d' hd' =>
  h d ((p.map keyP).mem_iff.mp hd) d' ((p.map keyP).mem_iff.mp hd')
theorem each_perm {α β : Type} {R : α → β → Prop} {l l' : List α} (p : l'.Perm l) : ∀ {ks : List β}, EachIs R l ks → ∃ ks', ks'.Perm ks ∧ EachIs R l' ks' := by
  induction p with
  | nil => exact fun h => ⟨_, List.Perm.refl _, h⟩
  | cons x p ih =>
    intro ks h
    cases h with
    | cons a t =>
      obtain ⟨ks', p', h'⟩ := ih t
      exact ⟨_ :: ks', p'.cons _, .cons a h'⟩
  | swap x y l =>
    intro ks h
    cases h with
    | cons a t =>
      cases t with
      | cons b t => exact ⟨_, List.Perm.swap .., .cons b (.cons a t)⟩
  | trans p1 p2 ih1 ih2 =>
    intro ks h
    obtain ⟨ks1, q1, h1⟩ := ih2 h
    obtain ⟨ks2, q2, h2⟩ := ih1 h1
    exact ⟨ks2, q2.trans q1, h2⟩
theorem each_map2 {α β γ : Type} {R : α → γ → Prop} (f : β → α) : ∀ {l : List β} {ks : List γ}, EachIs (fun e k => R (f e) k) l ks → EachIs R (l.map f) ks
  | _, _, .nil => .nil
  | _, _, .cons a t => .cons a (each_map2 f t)
theorem vals_keys : ∀ {us : List Value} {ks : List Key}, EachIs (fun v k => keyIs k v = true) us ks → Vals (ks.map kV) us
  | _, _, .nil => .nil
  | _, _, .cons (b := k) a t => .cons (by rcases keyIs_shape a with ⟨i, t, rfl, rfl⟩ | ⟨x, t, rfl, rfl⟩ <;> exact ⟨_, rfl⟩) (vals_keys t)
theorem cr_sortKs (hc : X.calm = true) (hu : X.A.units + 64 < cLine) : CallR X (.builtin "sorted") (rSortKs X.w) := by
  intro pins s σ H vs us Q I r ⟨p, ks, e, hp, hal, q⟩
  subst e
  rw [Vals.ref1 r]
  obtain ⟨o, es, ep, t, l, ho, hex, hd, pe, re, nd, hb, hf, hr, hl⟩ := setHO_at I.hok hp
  refine Calls.call_function_entry kind_sorted plain_sorted entry_sorted (args_sorted1 _) ?_
  unfold Builtin.«sorted»
  refine wpAny_bind (m := checkCount "sorted" 1 1 _) (wpAny_pure (wpAny_bind (collect_set (A := X.A.in1) (I.ok.hd hc) ⟨o, ho, hex.1, hd⟩ hf hb hr hl fun s1 out k1 hz g1 o1 pm => ?_)))
  obtain ⟨bs, pb, eb⟩ := each_perm (pm.trans (pe.map (·.2))) (each_map2 (R := fun v k => keyIs k v = true) (fun e : Int × Value => e.2) (re.mono fun _ _ z => z.1))
  have hlen : out.length ≤ sizeLine := by
    rw [pm.length_eq, List.length_map, Array.length_toList]
    exact fits_of_scanBound hb
  refine wpAny_bind (wpAny_newList ?_ hlen)
  have hoL : (s1.heap.push (seqObj "list" out.toArray 0)).get? s1.heap.objs.size = some (seqObj "list" out.toArray 0) := Heap.get?_push_size _ rfl
  refine wpAny_bind (wpAny_holding (list_sort_data (R := fun v k => keyIs k v = true) (enc := keyP) (bs := bs) hoL eb (eb.mono fun v k z => ⟨[], keyP_reads z, List.not_mem_nil⟩) (alike_perm pb hal) (keyP_sort bs) (by rw [← eb.length]; exact hlen)
    (fun b _ => by rw [keyP_depth]; show X.A.units + 1 + 1 + 0 < cLine; omega) fun out2 n2 e2 => ?_))
  obtain ⟨c, he⟩ := sortedHeap_at (vs := out) (out := out2.toArray) hoL
  have hn : H s1.heap.objs.size = none := I.hok.fresh hz
  have hl2 : ((bs.mergeSort (dataLe false keyP)).map kV).length ≤ sizeLine := by
    rw [List.length_map, List.length_mergeSort, ← eb.length]
    exact hlen
  have kp : ∀ b u, s.heap.get? b = some u → (sortedHeap (s1.heap.push (seqObj "list" out.toArray 0)) s1.heap.objs.size out out2.toArray).get? b = some u := fun b u e => by
    have z := k1 b u e
    have lt := Heap.lt_size z
    rw [sortedHeap_old (Nat.ne_of_lt lt) (by rw [Heap.size_push]; exact Nat.lt_succ_of_lt lt)]
    exact Heap.get?_push_of_some _ z
  refine wpAny_pure ⟨_, rfl, .ref s1.heap.objs.size, _, ?_, rfl, q bs pb s1.heap.objs.size hn⟩
  obtain ⟨hp1, ge1, dr1, tk1, os1⟩ := s1
  cases g1
  cases o1
  have J : Inv X pins σ (upd H hp1.objs.size (.lst ((bs.mergeSort (dataLe false keyP)).map kV))) { s with heap := sortedHeap (hp1.push (seqObj "list" out.toArray 0)) hp1.objs.size out out2.toArray, drawn := dr1, toks := tk1 } :=
    I.call (ch := []) (Un.laid kp hz hn) (I.hok.laid kp hz ⟨hl2, out2, c, vals_keys e2, he⟩) I.bare (fun _ z => nomatch z)
  exact J
def keyD : Key → D
  | .inl i => .int i
  | .inr x => .str x
theorem keyD_rd {K : PySem.W.Frag} {H : Hp} {k : Key} {v : V} : RD K H (keyD k) v ↔ v = kV k := by
  cases k <;> exact Iff.rfl
theorem rds_keys {K : PySem.W.Frag} {H : Hp} : ∀ {all : List Key} {xs : List V}, RDs K H (all.map keyD) xs → xs = all.map kV
  | [], _, r => by cases r; rfl
  | k :: all, _, r => by
    obtain ⟨v, r', rfl, h1, h2⟩ := r
    rw [keyD_rd.mp h1, rds_keys h2]
    rfl
theorem keys_rds {K : PySem.W.Frag} {H : Hp} : ∀ all : List Key, RDs K H (all.map keyD) (all.map kV)
  | [] => .nil
  | k :: all => RDs.cons (keyD_rd.mpr rfl) (keys_rds all)
theorem fold_key {k : Key} : ∀ (all acc : List Key), k ∈ all.foldl addK acc → k ∈ acc ∨ k ∈ all
  | [], acc, h => .inl h
  | j :: all, acc, h => by
    rcases fold_key all (addK acc j) h with z | z
    · unfold addK at z
      split at z
      · exact .inl z
      · rcases List.mem_append.mp z with z | z
        · exact .inl z
        · exact .inr (by rw [List.mem_singleton.mp z]; exact List.mem_cons_self)
    · exact .inr (List.mem_cons_of_mem _ z)
theorem alike_first {all : List Key} (h : AllAlike (all.map keyP)) : AllAlike ((firstK all).map keyP) := fun d hd d' hd' => by
  have up : ∀ x, x ∈ (firstK all).map keyP → x ∈ all.map keyP := fun x hx => by
    obtain ⟨k, hk, rfl⟩ := List.mem_map.mp hx
    rcases fold_key all [] hk with z | z
    · cases z
    · exact List.mem_map.mpr ⟨k, z, rfl⟩
  exact h d (up d hd) d' (up d' hd')
/-- sorted(set(e)) -/
def dSortSet (t : DTE) : DTE := fun E τ S Q => t E τ S fun d S1 => ∃ all : List Key, (d = .rol (all.map keyD) ∨ ∃ a, d = .ref a ∧ S1 a = some (.lst (all.map keyD))) ∧ all.length + 1 < scanBound ∧ AllAlike (all.map keyP) ∧
  ∀ bs : List Key, bs.Perm (firstK all) → newO S1 (.lst ((bs.mergeSort (dataLe false keyP)).map keyD)) fun p S' => Q (.ref p) S'
variable {x y : Str} {e : Expr} {p p' pos pos' : Pos} {t : DTE}
end
end Dt
set_option maxRecDepth 100000
set_option maxHeartbeats 4000000
/-! DatW: in; comprehensions whose list is a value; dicts' methods. -/
namespace Dt
open PySem PySem.Spec L2 PySem.W PyProof.Rows

/-! ### in -/
@[simp] def dIn (neg : Bool) : R2D := fun d e S Q => match e with
  | .tup ds => dInF neg d ds S Q
  | .rol ds => dInQ neg d ds S Q
  | .ref a => (match S a with
    | some (.lst ds) => dInQ neg d ds S Q
    | some (.dK kvs) => opt (dkey d) fun k => Q (.bl (if neg then !(lk kvs k).isSome else (lk kvs k).isSome)) S
    | some (.dN kvs) => okT d = true ∧ Q (.bl (if neg then !(lk kvs d).isSome else (lk kvs d).isSome)) S
    | _ => False)
  | _ => False
theorem dIn_mono (neg : Bool) : Mono2 (dIn neg) := fun x y S Q Q' k h => by
  cases y with
  | tup ds => exact ⟨h.1, h.2.1, k _ _ h.2.2⟩
  | rol ds => exact dInQ_mono k h
  | ref a =>
    revert h
    show (match S a with | some (.lst ds) => _ | some (.dK kvs) => _ | some (.dN kvs) => _ | _ => False) → (match S a with | some (.lst ds) => _ | some (.dK kvs) => _ | some (.dN kvs) => _ | _ => False)
    split
    · exact fun h => dInQ_mono k h
    · exact fun h => opt_mono (fun _ z => k _ _ z) h
    · exact fun h => ⟨h.1, k _ _ h.2⟩
    · exact fun h => h
  | _ => exact h.elim
section
variable {X : Cx}
theorem od_in_neg (neg : Bool) (op : CmpOp) (he : op = if neg then .NotIn else .In) (hu : X.A.units + 120 < cLine) : OpR X (compareOp op) (upO X.w X.K (dIn neg)) := by
  rintro pins s σ H x y v u Q I rx ry ⟨d, e, S, rep, rd, re, h⟩
  have go : rIn X.K neg x y H Q → wpAny (model X.prog X.w) X.A (compareOp op v u) (EP X pins σ Q) X.xe s := fun z => by
    subst he
    cases neg
    · exact op_in_seq pins s σ H x y v u Q I rx ry z
    · exact op_notIn_seq pins s σ H x y v u Q I rx ry z
  have lst : ∀ {ds : List D}, seqD S e = some ds → dInQ neg d ds S (fun z S' => ∀ v H', LeH H H' → Rep X.w X.K S' H' → RD X.K H' z v → Q v H') → wpAny (model X.prog X.w) X.A (compareOp op v u) (EP X pins σ Q) X.xe s := fun {ds} es ⟨b, r, q⟩ => by
    rcases r with ⟨f, g, rfl⟩ | ⟨hd, hs, rfl⟩
    · obtain ⟨p, xs, rfl, sq, rs⟩ := seqD_rd rep re es
      exact go ⟨p, xs, rfl, .inl sq.l, flD_V rd f, flDs_V rs g, by rw [inF_V rd f rs g]; exact q _ H (LeH.refl H) rep rfl⟩
    · obtain ⟨p2, s2⟩ := seqD_pd es hs
      rw [← inP_dec hd.1 fun e he => (hs e he).1] at q
      subst he
      cases neg
      · exact (od_inL (X := X) (by omega)).run pins s σ H x y v u Q I rx ry ⟨d, e, S, rep, rd, re, _, _, hd.pd S, p2, hd.shaped (by decide), s2, q⟩
      · exact (od_ninL (X := X) (by omega)).run pins s σ H x y v u Q I rx ry ⟨d, e, S, rep, rd, re, _, _, hd.pd S, p2, hd.shaped (by decide), s2, q⟩
  cases e with
  | tup ds =>
    obtain ⟨p, xs, rfl, sq, rs⟩ : ∃ p xs, y = V.ref p ∧ SqT X.K H p xs ∧ RDs X.K H ds xs := re
    exact go ⟨p, xs, rfl, .inr sq, flD_V rd h.1, flDs_V rs h.2.1, by rw [inF_V rd h.1 rs h.2.1]; exact h.2.2 _ H (LeH.refl H) rep rfl⟩
  | rol ds => exact lst rfl h
  | ref a =>
    revert h
    show (match S a with | some (.lst ds) => _ | some (.dK kvs) => _ | some (.dN kvs) => _ | _ => False) → _
    split
    · rename_i ds ea
      exact lst (by simp [ea])
    · rename_i kvs ea
      intro h
      cases re
      obtain ⟨ws, e0, rk⟩ : ∃ ws, H a = some (.dK ws) ∧ RKs X.K H kvs ws := rep a _ ea
      obtain ⟨k, ek, h⟩ := opt_ex h
      have ey := dkey_rd ek rd
      subst ey
      cases ry
      have g : DGet H a (kV k) (valV ws k) := DGet.k e0
      subst he
      cases neg
      · exact d_in (by omega) I g rx fun s3 I3 => ⟨.bl _, H, I3, rfl, by rw [rk.isSome k]; exact h _ H (LeH.refl H) rep rfl⟩
      · exact d_notIn (by omega) I g rx fun s3 I3 => ⟨.bl _, H, I3, rfl, by rw [rk.isSome k]; exact h _ H (LeH.refl H) rep rfl⟩
    · rename_i kvs ea
      rintro ⟨hk, h⟩
      cases re
      cases ry
      obtain ⟨xs, dd, rx', hsys, hl, nd, mu⟩ := dn_open I (rep a _ ea)
      obtain ⟨nk, b, ek, _, rfl, rfl, his⟩ := okT_key I hk rd rx
      rw [← rx'.isSome ek] at h
      subst he
      cases neg
      · exact in_keyed (knd := nestedKind X.prog X.w) (show X.A.units + 1 + 8 < cLine by omega) his hsys ⟨xs, dd, rfl⟩ ⟨.bl _, H, I.tok _, rfl, by rw [valueAt_pairsH, Option.isSome_map]; exact h _ H (LeH.refl H) rep rfl⟩
      · exact notIn_keyed (knd := nestedKind X.prog X.w) (show X.A.units + 1 + 8 < cLine by omega) his hsys ⟨xs, dd, rfl⟩ ⟨.bl _, H, I.tok _, rfl, by rw [valueAt_pairsH, Option.isSome_map]; exact h _ H (LeH.refl H) rep rfl⟩
    · exact fun h => h.elim
  | _ => exact h.elim
theorem od_in (hu : X.A.units + 120 < cLine) : OpD X (compareOp .In) (dIn false) := ⟨dIn_mono false, od_in_neg false .In rfl hu⟩
theorem od_nin (hu : X.A.units + 120 < cLine) : OpD X (compareOp .NotIn) (dIn true) := ⟨dIn_mono true, od_in_neg true .NotIn rfl hu⟩
end
/-! ### comprehensions whose list is a value -/
theorem upo_comm {S : DH} {p q : Addr} {o u : Ob} (h : p ≠ q) : upo (upo S p o) q u = upo (upo S q u) p o := by
  funext b
  unfold upo
  split
  · rename_i e
    split
    · rename_i e'
      exact absurd (e'.symm.trans e) h
    · rfl
  · rfl
theorem lcF_inv {g : DTG} {tt : DTT} {te : DTE} {E : DW} {τ : DSt} {G : DH → Prop} {ds : List D} {S : DH} {Q : DK} (I : Nat → List D → DH → Prop) (h0 : I 0 [] S)
    (hG : ∀ i acc S1 p, i ≤ ds.length → I i acc S1 → S1 p = none → G (upo S1 p (.lst acc)))
    (hs : ∀ i d acc S1 p (N : DH → Prop), ds[i]? = some d → I i acc S1 → S1 p = none → acc.length < 16777216 → (∀ acc' S2, S2 p = none → I (i + 1) acc' S2 → acc'.length ≤ acc.length + 1 → N (upo S2 p (.lst acc'))) →
      g d τ (upo S1 p (.lst acc)) fun τ1 S2 => tt E τ1 S2 fun b S3 => if b = true then te E τ1 S3 fun y S4 => (match S4 p with | some (.lst acc) => acc.length < 16777216 ∧ N (upo S4 p (.lst (acc ++ [y]))) | _ => False) else N S3)
    (hl : ds.length < sizeLine) (hd : ∀ acc S1, I ds.length acc S1 → Q (.rol acc) S1) : newO S (.lst []) fun p S1 => dLcL g tt te E τ G p (fzK Q (.ref p)) ds S1 := by
  intro p hp
  have go : ∀ (m i : Nat) (acc : List D) (S1 : DH), i + m = ds.length → acc.length ≤ i → S1 p = none → I i acc S1 → dLcL g tt te E τ G p (fzK Q (.ref p)) (ds.drop i) (upo S1 p (.lst acc)) := by
    intro m
    induction m with
    | zero =>
      intro i acc S1 e _ hp1 hi
      have e' : i = ds.length := by omega
      subst e'
      rw [List.drop_length]
      exact ⟨hG _ _ _ _ (Nat.le_refl _) hi hp1, fzK_new hp1 (hd _ _ hi)⟩
    | succ m ih =>
      intro i acc S1 e ha hp1 hi
      have hlt : i < ds.length := by omega
      have ed : ds[i]? = some ds[i] := List.getElem?_eq_getElem hlt
      rw [drop_at ed]
      refine ⟨hG _ _ _ _ (by omega) hi hp1, ?_⟩
      have := hs i _ acc S1 p (dLcL g tt te E τ G p (fzK Q (.ref p)) (ds.drop (i + 1))) ed hi hp1 (by rw [line_lt] at hl; omega) fun acc' S2 h2 hi2 hle => ih (i + 1) acc' S2 (by omega) (by omega) h2 hi2
      simp only [line_lt] at this ⊢
      exact this
  have := go ds.length 0 [] S (by omega) (Nat.le_refl _) hp h0
  rwa [List.drop_zero] at this
/-- [f d for d in ds if c d], where nothing changes -/
theorem lcF_of {g : DTG} {tt : DTT} {te : DTE} {E : DW} {τ : DSt} {G : DH → Prop} {ds : List D} {S : DH} {Q : DK} (c : D → Bool) (f : D → D)
    (hG : ∀ p acc, S p = none → G (upo S p (.lst acc)))
    (hs : ∀ d ∈ ds, ∀ acc p (N : DH → Prop), S p = none → acc.length < 16777216 → (c d = true → N (upo S p (.lst (acc ++ [f d])))) → (c d = false → N (upo S p (.lst acc))) →
      g d τ (upo S p (.lst acc)) fun τ1 S2 => tt E τ1 S2 fun b S3 => if b = true then te E τ1 S3 fun y S4 => (match S4 p with | some (.lst acc) => acc.length < 16777216 ∧ N (upo S4 p (.lst (acc ++ [y]))) | _ => False) else N S3)
    (hl : ds.length < sizeLine) (hq : Q (.rol ((ds.filter c).map f)) S) : newO S (.lst []) fun p S1 => dLcL g tt te E τ G p (fzK Q (.ref p)) ds S1 := by
  refine lcF_inv (fun i acc S1 => S1 = S ∧ acc = ((ds.take i).filter c).map f) ⟨rfl, rfl⟩ (fun i acc S1 p _ ⟨e, _⟩ hp => by subst e; exact hG p acc hp) (fun i d acc S1 p N ed ⟨e1, e2⟩ hp ha hN => ?_) hl fun acc S1 ⟨e1, e2⟩ => ?_
  · subst e1
    refine hs d (List.mem_of_getElem? ed) acc p N hp ha (fun hc => hN _ _ hp ⟨rfl, ?_⟩ (by simp)) fun hc => hN _ _ hp ⟨rfl, ?_⟩ (by simp)
    · rw [List.take_succ, ed, e2]
      simp [hc]
    · rw [List.take_succ, ed, e2]
      simp [hc]
  · subst e1 e2
    rw [List.take_length]
    exact hq
/-- [f d for d in ds], where nothing changes -/
theorem lcF_map {g : DTG} {te : DTE} {E : DW} {τ : DSt} {G : DH → Prop} {ds : List D} {S : DH} {Q : DK} (f : D → D)
    (hG : ∀ p acc, S p = none → G (upo S p (.lst acc)))
    (hs : ∀ d ∈ ds, ∀ acc p (N : DH → Prop), S p = none → acc.length < 16777216 → N (upo S p (.lst (acc ++ [f d]))) →
      g d τ (upo S p (.lst acc)) fun τ1 S2 => te E τ1 S2 fun y S4 => (match S4 p with | some (.lst acc) => acc.length < 16777216 ∧ N (upo S4 p (.lst (acc ++ [y]))) | _ => False))
    (hl : ds.length < sizeLine) (hq : Q (.rol (ds.map f)) S) : newO S (.lst []) fun p S1 => dLcL g dYes te E τ G p (fzK Q (.ref p)) ds S1 := by
  have hf : ds.filter (fun _ => true) = ds := List.filter_eq_self.mpr fun _ _ => rfl
  refine lcF_of (fun _ => true) f hG (fun d hd acc p N hp ha h1 _ => ?_) hl (by rw [hf]; exact hq)
  simpa only [dYes, if_true] using hs d hd acc p N hp ha (h1 rfl)
/-! ### sorted(set(e)) -/
/-- sorted, each once -/
def ssD (ds : List D) : List D := srtD ds.eraseDups
theorem ss_mem {ds : List D} {d : D} : d ∈ ssD ds ↔ d ∈ ds := by unfold ssD; rw [srt_mem, List.mem_eraseDups]
theorem nodup_eraseDups {α : Type} [BEq α] [LawfulBEq α] : ∀ (n : Nat) (l : List α), l.length ≤ n → l.eraseDups.Nodup
  | _, [], _ => by simp
  | 0, _ :: _, h => by simp at h
  | n + 1, a :: l, h => by
    rw [List.eraseDups_cons]
    refine List.nodup_cons.mpr ⟨fun z => ?_, nodup_eraseDups n _ (Nat.le_trans (List.length_filter_le ..) (by simpa using h))⟩
    rw [List.mem_eraseDups] at z
    simpa using (List.mem_filter.mp z).2
theorem ss_nodup (ds : List D) : (ssD ds).Nodup := (srt_perm _).nodup_iff.mpr (nodup_eraseDups _ _ (Nat.le_refl _))
theorem ss_len (ds : List D) : (ssD ds).length ≤ ds.length := by
  unfold ssD
  rw [srt_len]
  have go : ∀ (n : Nat) (l : List D), l.length ≤ n → l.eraseDups.length ≤ l.length := fun n => by
    induction n with
    | zero => intro l h; cases l <;> simp at h ⊢
    | succ n ih =>
      intro l h
      cases l with
      | nil => simp
      | cons a l =>
        rw [List.eraseDups_cons]
        have := ih (l.filter fun b => !b == a) (Nat.le_trans (List.length_filter_le ..) (by simpa using h))
        have := List.length_filter_le (fun b => !b == a) l
        simp
        omega
  exact go _ _ (Nat.le_refl _)
theorem perm_of_mem {α : Type} [DecidableEq α] {as bs : List α} (ha : as.Nodup) (hb : bs.Nodup) (h : ∀ x, x ∈ as ↔ x ∈ bs) : as.Perm bs := by
  rw [List.perm_iff_count]
  intro x
  rw [ha.count, hb.count]
  simp [h x]
/-- a list that rises, with just these things -/
theorem ss_is {t : Ty} {as bs : List D} (ht : ∀ d ∈ as, hasTy t d = true) (nd : bs.Nodup) (hs : bs.Pairwise fun a b => ltD b a = false) (h : ∀ x, x ∈ as ↔ x ∈ bs) : ssD as = bs :=
  sorted_one (t := t) (fun d hd => ht d (ss_mem.mp hd)) (srt_sorted _) hs (perm_of_mem (ss_nodup as) nd fun x => by rw [ss_mem, h])
theorem fold_mem2 {k : Key} : ∀ (all acc : List Key), k ∈ acc ∨ k ∈ all → k ∈ all.foldl addK acc
  | [], acc, h => h.elim id fun z => nomatch z
  | j :: all, acc, h => by
    refine fold_mem2 all (addK acc j) ?_
    rcases h with h | h
    · left
      unfold addK
      split
      · exact h
      · exact List.mem_append_left _ h
    · rcases List.mem_cons.mp h with rfl | h
      · left
        unfold addK
        split
        · rename_i z
          exact any_key.mp z
        · exact List.mem_append_right _ (List.mem_singleton.mpr rfl)
      · exact .inr h
theorem first_mem {k : Key} {all : List Key} : k ∈ firstK all ↔ k ∈ all := ⟨fun h => (fold_key all [] h).elim (fun z => nomatch z) id, fun h => fold_mem2 all [] (.inr h)⟩
theorem addK_nodup {ks : List Key} {k : Key} (h : ks.Nodup) : (addK ks k).Nodup := by
  unfold addK
  split
  · exact h
  · rename_i z
    exact List.nodup_append.mpr ⟨h, List.nodup_cons.mpr ⟨List.not_mem_nil, .nil⟩, fun a ha b hb e => z (any_key.mpr (by rw [← List.mem_singleton.mp hb, ← e]; exact ha))⟩
theorem first_nodup (all : List Key) : (firstK all).Nodup := by
  have go : ∀ (all acc : List Key), acc.Nodup → (all.foldl addK acc).Nodup := fun all => by
    induction all with
    | nil => exact fun _ h => h
    | cons k all ih => exact fun acc h => ih _ (addK_nodup h)
  exact go all [] .nil
theorem keyD_inj {a b : Key} (h : keyD a = keyD b) : a = b := by
  cases a <;> cases b <;> simp [keyD] at h <;> rw [h]
theorem keyP_D (k : Key) : keyP k = toP (keyD k) := by cases k <;> rfl
theorem nodup_mapD {ks : List Key} (h : ks.Nodup) : (ks.map keyD).Nodup := by
  rw [List.nodup_iff_pairwise_ne, List.pairwise_map]
  exact (List.nodup_iff_pairwise_ne.mp h).imp fun h e => h (keyD_inj e)
theorem keys_of {t : Ty} (ht : t = .int ∨ t = .str) : ∀ {xs : List D}, (∀ d ∈ xs, hasTy t d = true) → ∃ all : List Key, xs = all.map keyD
  | [], _ => ⟨[], rfl⟩
  | d :: xs, h => by
    obtain ⟨all, e⟩ := keys_of ht (xs := xs) fun x hx => h x (List.mem_cons_of_mem _ hx)
    have hd := h d (List.mem_cons_self ..)
    rcases ht with rfl | rfl
    · cases d <;> first | (simp [hasTy] at hd; done) | exact ⟨_ :: all, by rw [e]; exact List.map_cons (f := keyD) (a := Sum.inl _) |>.symm⟩
    · cases d <;> first | (simp [hasTy] at hd; done) | exact ⟨_ :: all, by rw [e]; exact List.map_cons (f := keyD) (a := Sum.inr _) |>.symm⟩
def scTy (b : Bool) : Ty := if b then .int else .str
@[simp] def dSortSetM (t : DTE) : DTE := fun E τ S Q => t E τ S fun d S1 => opt (seqD S1 d) fun xs => (∃ b, ∀ d ∈ xs, hasTy (scTy b) d = true) ∧ xs.length + 1 < scanBound ∧ newO S1 (.lst (ssD xs)) fun p S' => Q (.ref p) S'
@[simp] def dSortSetF (t : DTE) : DTE := fun E τ S Q => t E τ S fun d S1 => opt (seqD S1 d) fun xs => (∃ b, ∀ d ∈ xs, hasTy (scTy b) d = true) ∧ xs.length + 1 < scanBound ∧ Q (.rol (ssD xs)) S1
theorem key_sorted {t : Ty} {bs : List Key} : ((bs.mergeSort (dataLe false keyP)).map keyD).Pairwise fun a b => ltD b a = false := by
  rw [List.pairwise_map]
  have e : (dataLe false keyP) = fun a b : Key => !ltD (keyD b) (keyD a) := by
    funext a b
    show (!dataLt (keyP b) (keyP a)) = _
    rw [keyP_D, keyP_D]
    rfl
  rw [e]
  have := List.pairwise_mergeSort (le := fun a b : Key => !ltD (keyD b) (keyD a)) (fun a b c h1 h2 => by
    cases e : ltD (keyD c) (keyD a) with
    | false => rfl
    | true =>
      rcases ltD_neg (y := keyD b) e with z | z
      · rw [z] at h2; cases h2
      · rw [z] at h1; cases h1) (fun a b => by
    cases e : ltD (keyD b) (keyD a) with
    | false => rfl
    | true => rw [ltD_asymm e]; rfl) bs
  exact this.imp fun h => by simpa using h
section
variable {X : Cx} {x y : Str} {e : Expr} {p p' pos pos' : Pos} {t : DTE}
end
end Dt
set_option maxRecDepth 100000
set_option maxHeartbeats 4000000
/-! DatX: y = [..] whose list is a value; ends of defs. -/
namespace Dt
open PySem PySem.Spec L2 PySem.W PyProof.Rows
theorem hu64 {A : Around} (h : A.units + 120 < cLine) : A.units + 64 < cLine := by omega
/-- what a def's body ends in -/
abbrev dEnd (Q : DK) (E : DXK) : DEnds := { nx := fun _ S' => Rt Q .non S', rt := Rt Q, xe := fun C fs _ S' => ∃ S'', Sub S'' S' ∧ E C fs S'' }
section
variable {X : Cx} {tg iter elt : Expr} {ifs : List Expr} {scope : Scope} {own : List (Str × Nat)} {pos spos py : Pos} {ti : DTI} {g : DTG} {tt : DTT} {te : DTE}
end
end Dt
set_option maxRecDepth 100000
set_option maxHeartbeats 4000000
/-! DatY: texts, cuts, names. -/
namespace Dt
open PySem PySem.Spec L2
section
variable {α : Type} {x y z : α} {xs : List α}
@[simp] theorem atI_0 : atI (x :: xs) 0 = some x := atI_nat (j := 0) rfl
@[simp] theorem atI_1 : atI (x :: y :: xs) 1 = some y := atI_nat (j := 1) rfl
@[simp] theorem atI_2 : atI (x :: y :: z :: xs) 2 = some z := atI_nat (j := 2) rfl
end
/-- a name -/
def Nm (y : Str) : Prop := 1 ≤ y.length ∧ y.length ≤ 8 ∧ ∀ c ∈ y.cps.toList, 97 ≤ c ∧ c ≤ 122
theorem Nm.pl {y : Str} (h : Nm y) : Pl 8 y := ⟨h.2.1, fun c hc => Nat.lt_of_le_of_lt (h.2.2 c hc).2 (by decide)⟩
@[simp] theorem cutD_drop (ds : List D) (k : Nat) : cutD ds (some (k : Int)) none = ds.drop k := by
  unfold cutD
  rw [HT.sIx_nat, HT.sIx_none]
  rcases Nat.le_total k ds.length with h | h
  · rw [Nat.min_eq_left h]
    exact List.take_of_length_le (by simp)
  · rw [Nat.min_eq_right h, List.drop_eq_nil_of_le (Nat.le_refl _), List.drop_eq_nil_of_le h]
    simp
@[simp] theorem cutD_take (ds : List D) (k : Nat) : cutD ds none (some (k : Int)) = ds.take k := by
  unfold cutD
  rw [HT.sIx_nat, HT.sIx_none, List.drop_zero, Nat.sub_zero]
  rcases Nat.le_total k ds.length with h | h
  · rw [Nat.min_eq_left h]
  · rw [Nat.min_eq_right h, List.take_of_length_le (Nat.le_refl _), List.take_of_length_le h]
theorem cutS_take (x : Str) (k : Nat) : (cutS x none (some (k : Int))).cps.toList = x.cps.toList.take k := by
  have e : x.length = x.cps.toList.length := by simp [Str.length]
  show (x.cps.toList.drop (HT.sIx x.length 0 none)).take (HT.sIx x.length x.length (some (k : Int)) - HT.sIx x.length 0 none) = _
  rw [HT.sIx_nat, HT.sIx_none, List.drop_zero, Nat.sub_zero, e]
  rcases Nat.le_total k x.cps.toList.length with h | h
  · rw [Nat.min_eq_left h]
  · rw [Nat.min_eq_right h, List.take_of_length_le (Nat.le_refl _), List.take_of_length_le h]
theorem cutS_mid (x : Str) (a b : Nat) (ha : a ≤ b) (hb : b ≤ x.cps.toList.length) : (cutS x (some (a : Int)) (some (b : Int))).cps.toList = (x.cps.toList.drop a).take (b - a) := by
  have e : x.length = x.cps.toList.length := by simp [Str.length]
  show (x.cps.toList.drop (HT.sIx x.length 0 (some (a : Int)))).take (HT.sIx x.length x.length (some (b : Int)) - HT.sIx x.length 0 (some (a : Int))) = _
  rw [HT.sIx_nat, HT.sIx_nat, e, Nat.min_eq_left (Nat.le_trans ha hb), Nat.min_eq_left hb]
theorem str_len (x : Str) : x.length = x.cps.toList.length := by simp [Str.length]
theorem app_tl (x y : Str) : (x ++ y).cps.toList = x.cps.toList ++ y.cps.toList := by
  show (x.cps ++ y.cps).toList = _
  rw [Array.toList_append]
/-- one sign each, joined -/
theorem join_one : ∀ ys : List Str, (∀ y ∈ ys, ∃ c, y = ⟨#[c]⟩ ∧ 97 ≤ c ∧ c ≤ 122) → (Txt.join (.ofString "") ys).cps.toList.length = ys.length ∧ ∀ c ∈ (Txt.join (.ofString "") ys).cps.toList, 97 ≤ c ∧ c ≤ 122 := fun ys h => by
  rw [show Txt.join (.ofString "") ys = Str.join (.ofString "") ys from PySem.StrLaws.glued_eq_join ..]
  exact go ys h
where
  go : ∀ ys : List Str, (∀ y ∈ ys, ∃ c, y = ⟨#[c]⟩ ∧ 97 ≤ c ∧ c ≤ 122) → (Str.join (.ofString "") ys).cps.toList.length = ys.length ∧ ∀ c ∈ (Str.join (.ofString "") ys).cps.toList, 97 ≤ c ∧ c ≤ 122
  | [], _ => ⟨rfl, fun c hc => by cases hc⟩
  | [x], h => by
    obtain ⟨c, rfl, h1, h2⟩ := h x (List.mem_cons_self ..)
    exact ⟨rfl, fun d hd => by rw [List.mem_singleton.mp hd]; exact ⟨h1, h2⟩⟩
  | x :: z :: r, h => by
    obtain ⟨k1, k2⟩ := go (z :: r) fun y hy => h y (List.mem_cons_of_mem _ hy)
    obtain ⟨c, rfl, h1, h2⟩ := h x (List.mem_cons_self ..)
    have e : (Str.join (.ofString "") (⟨#[c]⟩ :: z :: r)).cps.toList = c :: (Str.join (.ofString "") (z :: r)).cps.toList := by
      show ((⟨#[c]⟩ : Str) ++ (Str.ofString "") ++ Str.join (.ofString "") (z :: r)).cps.toList = _
      rw [app_tl, app_tl]
      rfl
    rw [e]
    exact ⟨by simpa using k1, fun d hd => by
      rcases List.mem_cons.mp hd with rfl | hd
      · exact ⟨h1, h2⟩
      · exact k2 d hd⟩
theorem letter_at (j : Nat) (h : j < 26) : (Str.ofString "abcdefghijklmnopqrstuvwxyz").cps.toList[j]? = some (97 + j) := by
  have : ∀ j : Fin 26, (Str.ofString "abcdefghijklmnopqrstuvwxyz").cps.toList[j.val]? = some (97 + j.val) := by decide +kernel
  exact this ⟨j, h⟩
theorem signs_apart (st : Nat) (h : st < 26) : ((List.range 8).map fun k => 97 + (st + 5 * k) % 26).Nodup := by
  have : ∀ st : Fin 26, ((List.range 8).map fun k => 97 + (st.val + 5 * k) % 26).Nodup := by decide +kernel
  exact this ⟨st, h⟩
theorem nodup_of_map {α β : Type} (f : α → β) {l : List α} (h : (l.map f).Nodup) : l.Nodup := List.Pairwise.of_map f (fun _ _ h e => h (congrArg f e)) h
@[simp] theorem cutD_drop1 (ds : List D) (k : Nat) : cutD ds (some ((k : Int) + 1)) none = ds.drop (k + 1) := cutD_drop ds (k + 1)
@[simp] theorem cutD_take1 (ds : List D) (k : Nat) : cutD ds none (some ((k : Int) + 1)) = ds.take (k + 1) := cutD_take ds (k + 1)
theorem dSeq_gen {a b : DTS} {A : DEnds} {τ : DSt} {S : DH} (h : ∀ R, R = b → dSeq a R A τ S) : dSeq a b A τ S := h b rfl
theorem dSeqIf_gen {c : DTT} {a b r : DTS} {A : DEnds} {τ : DSt} {S : DH} (h : ∀ R1 R2 R, R1 = a → R2 = b → R = r → dSeq (dIf c R1 R2) R A τ S) : dSeq (dIf c a b) r A τ S := h a b r rfl rfl rfl
theorem dFor_gen {ti : DTI} {g : DTG} {tb : DTS} {A : DEnds} {τ : DSt} {S : DH} (h : ∀ B, B = tb → dFor ti g B A τ S) : dFor ti g tb A τ S := h tb rfl
theorem dSeqFor_gen {ti : DTI} {g : DTG} {tb r : DTS} {A : DEnds} {τ : DSt} {S : DH} (h : ∀ B R, B = tb → R = r → dSeq (dFor ti g B) R A τ S) : dSeq (dFor ti g tb) r A τ S := h tb r rfl rfl
end Dt
set_option maxRecDepth 100000
set_option maxHeartbeats 4000000
/-! DatI: instances: o.f, o.f = e, C(..). -/
namespace Dt
open PySem PySem.Spec L2
/-- o.f -/
def dFldK (C : Addr) (f : Str) (Q : DK) : DK := fun d S1 => match d with
  | .ref a => (match S1 a with | some (.ins C' fs) => C' = C ∧ opt (fs.lookup f) fun v => Q v S1 | _ => False)
  | _ => False
@[simp] theorem dFldK_ref {C a : Addr} {f : Str} {Q : DK} {S : DH} : dFldK C f Q (.ref a) S = (match S a with | some (.ins C' fs) => C' = C ∧ opt (fs.lookup f) fun v => Q v S | _ => False) := rfl
@[simp] def dFld (C : Addr) (f : Str) (ta : DTE) : DTE := fun E τ S Q => ta E τ S (dFldK C f Q)
section
variable {X : Cx} {k : Nat} {f C : Addr} {fd : FuncData} {ps : List Str} {sp : DSp} {x m : Str} {p pos apos pos' : Pos} {e o value : Expr} {es : List Expr} {ta tv : DTE} {t : DTA}
/-- o.f = e -/
def putFD (f : Str) (v : D) : List (Str × D) → List (Str × D)
  | [] => [(f, v)]
  | (g, x) :: r => if g = f then (g, v) :: r else (g, x) :: putFD f v r
theorem RKs.len {κ : Type} {K : PySem.W.Frag} {H : Hp} : ∀ {fs : List (κ × D)} {ws : List (κ × V)}, RKs K H fs ws → fs.length = ws.length
  | [], _, h => by cases h; rfl
  | _ :: _, _, h => by
    obtain ⟨y, s, rfl, h1, h2⟩ := h
    rw [List.length_cons, List.length_cons, RKs.len h2]
def dPutFK (C : Addr) (f : Str) (y : D) (N : DH → Prop) : D → DH → Prop := fun d S2 => match d with
  | .ref a => (match S2 a with | some (.ins C' fs) => C' = C ∧ fs.length < 1000 ∧ N (upo S2 a (.ins C (putFD f y fs))) | _ => False)
  | _ => False
@[simp] theorem dPutFK_ref {C a : Addr} {f : Str} {y : D} {N : DH → Prop} {S : DH} : dPutFK C f y N (.ref a) S = (match S a with | some (.ins C' fs) => C' = C ∧ fs.length < 1000 ∧ N (upo S a (.ins C (putFD f y fs))) | _ => False) := rfl
@[simp] def dPutF (C : Addr) (f : Str) (ta tv : DTE) : DTS := fun A τ S => tv A.xe τ S fun y S1 => ta A.xe τ S1 (dPutFK C f y (A.nx τ))
/-- C(..) -/
@[simp] def dMake (C : Addr) (sp : DSp) (t : DTA) : DTE := fun E τ S Q => t E τ S fun ds S1 => ∀ x, S1 x = none → sp (.ref x :: ds) (upo S1 x (.ins C [])) (fun d S' => d = .non ∧ Q (.ref x) S') fun C fs S' => E C fs τ S'
theorem guards_make {A : Around} {args : Args} (h : A.guards = some []) : (A.under (.builtin "type.__call__" args)).guards = some [] := by
  have e : (A.under (.builtin "type.__call__" args)).guards = pushGuards (Code.builtin "type.__call__" args).guards A.guards := rfl
  rw [e, h]
  rfl
end
end Dt
set_option maxRecDepth 100000
set_option maxHeartbeats 4000000
/-! DatJ: a dict's keys as a row: sorted(d), list(d); the methods of dicts. -/
namespace Dt
open PySem PySem.Spec L2 PySem.W PyProof.Rows
@[simp] def keysO (o : Ob) : Option (List D) := match o with
  | .dK kvs => some (kvs.map fun kv => keyD kv.1)
  | .dN kvs => some (kvs.map (·.1))
  | _ => none
@[simp] def keysD (S : DH) (d : D) : Option (List D) := match d with | .ref a => (S a).bind keysO | _ => none
section
variable {X : Cx} {pins : List (Addr × Obj)} {σ : L2.St} {H : Hp} {s : Shared} {a : Addr}
theorem pairs_vals {P : Program} {w : World} : ∀ {es : List DictEntry} {vs : List (Key × Value)}, Pairs (mixKind P w) es vs → Vals (vs.map fun p => kV p.1) (es.map (·.key))
  | _, _, .nil => .nil
  | _, _, .cons h1 h2 t => by
    rw [List.map_cons, List.map_cons]
    refine .cons ?_ (pairs_vals t)
    rcases keyIs_shape h1 with ⟨i, t, ek, ev⟩ | ⟨z, t, ek, ev⟩
    · rw [ek, ev]; exact ⟨t, rfl⟩
    · rw [ek, ev]; exact ⟨t, rfl⟩
theorem keys_raw (I : Inv X pins σ H s) {ob : Ob} {ks : List D} (r : ROb X.w X.K H a ob) (e : keysO ob = some ks) :
    ∃ es ep xs, s.heap.DictRaw a es ep ∧ (a == sysModules) = false ∧ es.size ≤ sizeLine ∧ Vals xs (es.toList.map (·.key)) ∧ RDs X.K H ks xs := by
  cases ob with
  | dK kvs =>
    cases e
    obtain ⟨ws, e0, rk⟩ : ∃ ws, H a = some (.dK ws) ∧ RKs X.K H kvs ws := r
    obtain ⟨z, lo, vs, kv, o, es, ep, h1, h2, h3, h4, h5, h6⟩ := dk_of I.hok e0
    have hl : kvs.length = ws.length := rk.length
    have hl2 : ws.length = vs.length := Paired.length kv
    have hl3 : es.toList.length = vs.length := h5.length
    have e1 : (kvs.map fun q => keyD q.1) = (vs.map fun p => p.1).map keyD := by
      have go : ∀ {kvs : List (Key × D)} {ws : List (Key × V)} {vs : List (Key × Value)}, RKs X.K H kvs ws → KV ws vs → (kvs.map fun q => keyD q.1) = (vs.map fun p => p.1).map keyD := by
        intro kvs
        induction kvs with
        | nil => intro ws vs r k; cases r; cases k; rfl
        | cons q kvs ih =>
          intro ws vs r k
          obtain ⟨v, s', rfl, _, r2⟩ := r
          cases k with
          | cons a b => rw [List.map_cons, List.map_cons, List.map_cons, ih r2 b, ← a.1]
      exact go rk kv
    refine ⟨es, ep, _, ⟨o, h1, h2, h3⟩, lo, by simp at hl3; omega, pairs_vals h5, ?_⟩
    rw [e1]
    have e2 : (vs.map fun p => kV p.1) = (vs.map fun p => p.1).map kV := by rw [List.map_map]; rfl
    rw [e2]
    exact keys_rds _
  | dN kvs =>
    cases e
    obtain ⟨xs, ⟨o, es, ep, h1, h2, h3, h4, h5, h6⟩, rx, hs, hz, _⟩ := dn_open I r
    have go : ∀ {kvs : List (D × D)} {xs : List (NestedKey × Addr × Value)}, RX X.K H kvs xs → ∃ ys, Vals ys (xs.map fun x => Value.ref x.2.1) ∧ RDs X.K H (kvs.map (·.1)) ys := by
      intro kvs
      induction kvs with
      | nil => intro xs r; cases r; exact ⟨[], .nil, .nil⟩
      | cons q kvs ih =>
        intro xs r
        obtain ⟨nk, b, u, s', rfl, ⟨_, _, r1, _⟩, r2⟩ := r
        obtain ⟨ys, g1, g2⟩ := ih r2
        exact ⟨.ref b :: ys, .cons rfl g1, RDs.cons r1 g2⟩
    obtain ⟨ys, g1, g2⟩ := go rx
    have hl : es.size = xs.length := by
      have := congrArg List.length h4
      simpa using this
    refine ⟨es, ep, ys, ⟨o, h1, h2, h3⟩, hs, by rw [hl, ← rx.length]; exact hz, ?_, g2⟩
    rw [h4, List.map_map]
    exact g1
  | lst ds => cases e
  | ins C fs => cases e
  | exc _ _ => cases e
  | xd _ => cases e
  | ex0 _ => cases e
  | ex1 _ _ => cases e
  | xm _ => cases e
  | fK _ => cases e
  | fN _ => cases e
theorem items_keys {es : Array DictEntry} {acc : Array Value} (h : ItemsOf (fun i v => ∃ hi : i < es.size, v = es[i].key) acc es.size) : acc.toList = es.toList.map (·.key) := by
  obtain ⟨h1, h2⟩ := h
  refine List.ext_getElem? fun i => ?_
  rw [List.getElem?_map, Array.getElem?_toList, Array.getElem?_toList]
  cases e : acc[i]? with
  | none =>
    have : es.size ≤ i := by
      have := Array.getElem?_eq_none_iff.mp e
      omega
    rw [Array.getElem?_eq_none_iff.mpr this]
    rfl
  | some v =>
    obtain ⟨hi, ev⟩ := h2 i v e
    rw [Array.getElem?_eq_getElem hi, ev]
    rfl
end
/-! ### sorted of a sequence, of a dict -/
@[simp] def cSortA : RCD := fun ds S Q => match ds with
  | [d] => (opt (seqD S d) fun xs => cSrt xs fun ys => newO S (.lst ys) fun p S' => Q (.ref p) S') ∨ (opt (keysD S d) fun xs => cSrt xs fun ys => newO S (.lst ys) fun p S' => Q (.ref p) S')
  | _ => False
@[simp] def cSortAF : RCD := fun ds S Q => match ds with
  | [d] => (opt (seqD S d) fun xs => cSrt xs fun ys => Q (.rol ys) S) ∨ (opt (keysD S d) fun xs => cSrt xs fun ys => Q (.rol ys) S)
  | _ => False
theorem keysD_ex {S : DH} {d : D} {ks : List D} (h : keysD S d = some ks) : ∃ a ob, d = .ref a ∧ S a = some ob ∧ keysO ob = some ks := by
  cases d <;> first | (cases h; done) | skip
  rename_i a
  show ∃ a' ob, _
  have h' : (S a).bind keysO = some ks := h
  cases e : S a with
  | none => rw [e] at h'; cases h'
  | some ob => rw [e] at h'; exact ⟨a, ob, rfl, e, h'⟩
section
variable {X : Cx}
theorem cd_sortA (hc : X.calm = true) (hu : X.A.units + 64 < cLine) : CallD X (.builtin "sorted") cSortA := by
  refine ⟨fun ds S Q Q' k h => ?_, fun pins s σ H vs us Q I rv ⟨ds, S, rep, rd, h⟩ => ?_⟩
  · match ds, h with
    | [d], h => exact h.imp (opt_mono (fun _ h => ⟨h.1, fun p hp => k _ _ (h.2 p hp)⟩)) (opt_mono (fun _ h => ⟨h.1, fun p hp => k _ _ (h.2 p hp)⟩))
  · match ds, h with
    | [d], .inl h => exact (cd_sorted hu).run pins s σ H vs us Q I rv ⟨[d], S, rep, rd, h⟩
    | [d], .inr h =>
      obtain ⟨ks, e, ⟨t, ht, hd⟩, hQ⟩ := opt_ex h
      obtain ⟨a, ob, rfl, ea, ek⟩ := keysD_ex e
      obtain ⟨v, rfl, r⟩ := rds1 rd
      cases r
      rw [Vals.ref1 rv]
      obtain ⟨es, ep, xs, dr, lo, hz, vx, rx⟩ := keys_raw I (rep a ob ea) ek
      refine Calls.call_function_entry kind_sorted plain_sorted entry_sorted (args_sorted1 _) ?_
      unfold Builtin.«sorted»
      refine wpAny_bind (m := checkCount "sorted" 1 1 _) (wpAny_pure ?_)
      refine wpAny_bind (kdu_collect (A := X.A.in1) (KdlSrc.rawDict lo) (I.ok.hd hc) dr hz fun h' tk acc hk hacc => ?_)
      have eacc := items_keys hacc
      have I1 : Inv X pins σ H { s with heap := h', toks := tk } := I.kept hk
      have hal : acc.toList.length = ks.length := by rw [eacc, ← vx.length, rx.length]
      have hks : ks.length ≤ sizeLine := by rw [← hal, Array.length_toList, hacc.1]; exact hz
      rw [← eacc] at vx
      have ee := each_rel vx rx
      have sm : ∀ d ∈ ks, Sm 50 d := fun d z => (hasTy_sm t d (hd d z)).mono (sortTy_dep ht)
      refine wpAny_bind (wpAny_newList ?_ (by rw [hal]; exact hks))
      have hoL : (h'.push (seqObj "list" acc.toList.toArray 0)).get? h'.objs.size = some (seqObj "list" acc.toList.toArray 0) := Heap.get?_push_size _ rfl
      have er : EachIs (fun u d => ∃ as, Reads (sortingHeap (h'.push (seqObj "list" acc.toList.toArray 0)) h'.objs.size acc.toList) u (toP d) as) acc.toList ks := by
        refine EachIs.mono (fun u d z => ?_) (each_and ee sm)
        obtain ⟨⟨x, a1, a2⟩, a3⟩ := z
        obtain ⟨as, ra⟩ := Dp.reads I1 (toP d) x u ((a3.pd S).dp rep _ _ _ a2) a1
        exact ⟨as, Reads.keeps (fun b o q => sortingHeap_old (Nat.ne_of_lt (Heap.lt_size q)) (Heap.get?_push_of_some _ q)) ra⟩
      show wpAny _ _ _ _ _ { s with heap := h'.push (seqObj "list" acc.toList.toArray 0), toks := tk }
      have Srt := SortsAt.data (prog := X.prog) (w := X.w) (A := X.A.in1.in1) (s := { s with heap := sortingHeap (h'.push (seqObj "list" acc.toList.toArray 0)) h'.objs.size acc.toList, toks := tk }) (each_map (R := fun v d => ∃ as, Reads (sortingHeap (h'.push (seqObj "list" acc.toList.toArray 0)) h'.objs.size acc.toList) v d as) toP er) (cd_sorted.AllAlike.of' hd) (sortable_ty ht hd) (bound_map (A := X.A.in1.in1) fun b hb => by
        have h2 := (sm b hb).2
        show X.A.units + 2 + _ < _
        rw [dep_P]; omega)
      refine wpAny_bind (wpAny_holding (wpAny_call_entry slot_list_sort ⟨_, hoL, rfl⟩ entry_list_sort
        (list_sort_vals (s := { s with heap := h'.push (seqObj "list" acc.toList.toArray 0), toks := tk }) hoL Srt (by rw [hal]; exact hks) ⟨_, rfl, ?_⟩) (args_list_sort _)))
      have out := sortVals_data (R := fun u d => ∃ x, RelV x u ∧ RD X.K H d x) false ee er (cd_sorted.AllAlike.of' hd)
      rw [srtD_eq] at out
      obtain ⟨ys, r1, r2⟩ := rel_each out
      obtain ⟨e', he'⟩ := sortedHeap_at (vs := acc.toList) (out := (sortVals (dataKind (sortingHeap (h'.push (seqObj "list" acc.toList.toArray 0)) h'.objs.size acc.toList) (ks.map toP)) false acc.toList acc.toList).toArray) hoL
      have hn : H h'.objs.size = none := I1.hok.fresh (Nat.le_refl _)
      have hyl : ys.length ≤ sizeLine := by rw [← r2.length]; exact Nat.le_trans (Nat.le_of_eq (srt_len ks)) hks
      have le : LeH H (upd H h'.objs.size (.lst ys)) := LeH.new hn
      refine wpAny_pure ⟨_, rfl, .ref h'.objs.size, upd H h'.objs.size (.lst ys), I1.laid (t' := tk) (fun b u q => ?_) (Nat.le_refl _) ⟨hyl, _, e', r1, he'⟩, rfl, ?_⟩
      · have hb : b < h'.objs.size := Heap.lt_size q
        show (sortedHeap _ _ _ _).get? b = _
        rw [sortedHeap_old (Nat.ne_of_lt hb) (by rw [size_push']; exact Nat.lt_succ_of_lt hb)]
        exact Heap.get?_push_of_some _ q
      · exact hQ h'.objs.size (rep.free hn) _ _ le (rep.new hn ⟨ys, upd_same, r2.le le⟩) rfl
theorem cd_sortAF (hc : X.calm = true) (hu : X.A.units + 64 < cLine) : CallD X (.builtin "sorted") cSortAF := (cd_fz (cd_sortA hc hu)).sub (fun ds S Q Q' k h => by
    unfold cSortAF at h ⊢
    split at h
    · exact h.imp (opt_mono (fun _ h => ⟨h.1, k _ _ h.2⟩)) (opt_mono (fun _ h => ⟨h.1, k _ _ h.2⟩))
    · exact h) fun ds S Q h => by
    unfold cSortAF at h
    unfold cFz cSortA
    split at h
    · exact h.imp (opt_mono (fun _ h => ⟨h.1, fun p hp => fzK_new hp h.2⟩)) (opt_mono (fun _ h => ⟨h.1, fun p hp => fzK_new hp h.2⟩))
    · exact h
/-! ### list of a sequence, of a dict -/
@[simp] def cListA : RCD := fun ds S Q => match ds with
  | [d] => cList [d] S Q ∨ (opt (keysD S d) fun ys => newO S (.lst ys) fun p S' => Q (.ref p) S')
  | _ => False
@[simp] def cListAF : RCD := fun ds S Q => match ds with
  | [d] => cListF [d] S Q ∨ (opt (keysD S d) fun ys => Q (.rol ys) S)
  | _ => False
theorem cd_listA (hc : X.calm = true) : CallD X (.type "list") cListA := by
  refine ⟨fun ds S Q Q' k h => ?_, fun pins s σ H vs us Q I rv ⟨ds, S, rep, rd, h⟩ => ?_⟩
  · match ds, h with
    | [d], h => exact h.imp ((cd_list (X := X)).mono _ _ _ _ k) (opt_mono (fun _ h => fun p hp => k _ _ (h p hp)))
  · match ds, h with
    | [d], .inl h => exact cd_list.run pins s σ H vs us Q I rv ⟨[d], S, rep, rd, h⟩
    | [d], .inr h =>
      obtain ⟨ks, e, hQ⟩ := opt_ex h
      obtain ⟨a, ob, rfl, ea, ek⟩ := keysD_ex e
      obtain ⟨v, rfl, r⟩ := rds1 rd
      cases r
      rw [Vals.ref1 rv]
      obtain ⟨es, ep, xs, dr, lo, hz, vx, rx⟩ := keys_raw I (rep a ob ea) ek
      refine kdl_call (KdlSrc.rawDict lo) (I.ok.hd hc) dr hz fun h' tk acc c' hk hD hacc => ?_
      have eacc := items_keys hacc
      have hn : H s.heap.objs.size = none := I.hok.fresh (Nat.le_refl _)
      have le : LeH H (upd H s.heap.objs.size (.lst xs)) := LeH.new hn
      rw [← eacc] at vx
      have hyl : xs.length ≤ sizeLine := by rw [vx.length, Array.length_toList, hacc.1]; exact hz
      exact ⟨.ref s.heap.objs.size, upd H s.heap.objs.size (.lst xs), I.laid (t' := tk) hk (Nat.le_refl _) ⟨hyl, acc.toList, c', vx, by rw [Array.toArray_toList]; exact hD⟩, rfl,
        hQ s.heap.objs.size (rep.free hn) _ _ le (rep.new hn ⟨xs, upd_same, rx.le le⟩) rfl⟩
theorem cd_listAF (hc : X.calm = true) : CallD X (.type "list") cListAF := (cd_fz (cd_listA hc)).sub (fun ds S Q Q' k h => by
    unfold cListAF at h ⊢
    split at h
    · exact h.imp ((cd_listF (X := X)).mono _ _ _ _ k) (opt_mono (fun _ h => k _ _ h))
    · exact h) fun ds S Q h => by
    unfold cListAF at h
    unfold cFz cListA
    split at h
    · rename_i d
      refine h.imp (fun z => ?_) (opt_mono (fun _ h => fun p hp => fzK_new hp h))
      unfold cListF at z
      unfold cList
      split at z
      · rename_i e; cases e; exact fun p hp => fzK_new hp z
      · rename_i d' _ e
        cases e
        obtain ⟨xs, e, q⟩ := opt_ex z
        clear z
        cases d with
        | rol ys => cases e; exact fun p hp => fzK_new hp q
        | ref a =>
          revert e
          show (match S a with | some (.lst xs) => some xs | _ => none) = some xs → (match S a with | some (.lst xs) => _ | _ => False)
          split
          · intro e; cases e; exact fun p hp => fzK_new hp q
          · intro e; cases e
        | _ => cases e
      · exact z.elim
    · exact h
end
/-! ### get, pop, setdefault of dicts -/
@[simp] def lkO (ob : Ob) (k : D) : Option (Option D) := match ob with
  | .dK kvs => (dkey k).map fun kk => lk kvs kk
  | .dN kvs => if okT k = true then some (lk kvs k) else none
  | _ => none
@[simp] def drO (ob : Ob) (k : D) : Option Ob := match ob with
  | .dK kvs => (dkey k).map fun kk => .dK (dr kvs kk)
  | .dN kvs => if okT k = true then some (.dN (dr kvs k)) else none
  | _ => none
@[simp] def mDGet : RMD := fun d ds S Q => match d with
  | .ref a => opt (S a) fun ob => match ds with
    | [k] => opt (lkO ob k) fun o => Q (o.getD .non) S
    | [k, x] => opt (lkO ob k) fun o => Q (o.getD x) S
    | _ => False
  | _ => False
@[simp] def mDPop : RMD := fun d ds S Q => match d with
  | .ref a => opt (S a) fun ob => match ds with
    | [k] => opt (lkO ob k) fun o => opt o fun x => opt (drO ob k) fun ob' => Q x (upo S a ob')
    | [k, x] => opt (lkO ob k) fun o => (match o with | some y => opt (drO ob k) fun ob' => Q y (upo S a ob') | none => Q x S)
    | _ => False
  | _ => False
@[simp] def mDSet : RMD := fun d ds S Q => match d with
  | .ref a => opt (S a) fun ob => match ds with
    | [k, x] => opt (lkO ob k) fun o => (match o with | some y => Q y S | none => opt (putO ob k x) fun ob' => Q x (upo S a ob'))
    | _ => False
  | _ => False
section
variable {X : Cx} {pins : List (Addr × Obj)} {σ : L2.St} {H : Hp} {s : Shared} {a : Addr}
end
/-! ### a, b = a tuple or a list -/
@[simp] def dGTupA (n : Nat) (t : DTGs) : DTG := fun d τ S Q => match d with
  | .tup ds => ds.length = n ∧ t ds τ S Q
  | d => opt (seqD S d) fun ds => ds.length = n ∧ t ds τ S Q
section
variable {X : Cx} {pos : Pos} {ts : DTGs}
theorem dg_tupA {es : List Expr} {k : Nat} {n : Nat} (hc : X.calm = true) (h : DGs X es ts) (hn : (assignEach es X.env).length = n := by rfl) (hst : (assignEach es X.env).findIdx? (·.1) = none := by rfl) : DG X (.Tuple es k pos) (dGTupA n ts) := by
  have two : PG X (.Tuple es k pos) fun v σ H Q => gTup X.K n (upGs X ts) v σ H Q ∨ gLst X.K n (upGs X ts) v σ H Q :=
    ⟨fun pins s σ H v u Q I r q => q.elim ((pg_tup hc h.run hn hst).run pins s σ H v u Q I r) ((pg_lst hc h.run hn hst).run pins s σ H v u Q I r)⟩
  refine ⟨fun d τ S Q Q' k q => ?_, pG_imp two fun v σ H Q ⟨d, τ, S, r, rd, q⟩ => ?_⟩
  · have o : ∀ d : D, (opt (seqD S d) fun ds => ds.length = n ∧ ts ds τ S Q) → (opt (seqD S d) fun ds => ds.length = n ∧ ts ds τ S Q') := fun d q => opt_mono (fun _ q => ⟨q.1, h.mono _ _ _ _ _ k q.2⟩) q
    cases d with
    | tup ds => exact ⟨q.1, h.mono _ _ _ _ _ k q.2⟩
    | non => exact o .non q
    | bl b => exact o (.bl b) q
    | int b => exact o (.int b) q
    | str b => exact o (.str b) q
    | rol b => exact o (.rol b) q
    | ref b => exact o (.ref b) q
  · have lst : ∀ {d : D}, RD X.K H d v → (opt (seqD S d) fun ds => ds.length = n ∧ ts ds τ S fun τ' S' => ∀ σ' H', LeH H H' → Rel X.w X.K τ' S' σ' H' → Q σ' H') → gLst X.K n (upGs X ts) v σ H Q := fun rd q => by
      obtain ⟨ds, e, q⟩ := opt_ex q
      obtain ⟨a, xs, rfl, sq, rs⟩ := seqD_rd r.rep rd e
      exact ⟨a, xs, rfl, sq.l, by rw [← rs.length]; exact q.1, ds, τ, S, r, rs, q.2⟩
    cases d with
    | tup ds =>
      obtain ⟨p, xs, rfl, sq, rds⟩ : ∃ p xs, v = V.ref p ∧ SqT X.K H p xs ∧ RDs X.K H ds xs := rd
      exact .inl ⟨p, xs, rfl, sq, by rw [← rds.length]; exact q.1, ds, τ, S, r, rds, q.2⟩
    | non => exact .inr (lst rd q)
    | bl _ => exact .inr (lst rd q)
    | int _ => exact .inr (lst rd q)
    | str _ => exact .inr (lst rd q)
    | rol _ => exact .inr (lst rd q)
    | ref _ => exact .inr (lst rd q)
end
end Dt
set_option maxRecDepth 100000
set_option maxHeartbeats 4000000
/-! DatK: set(t) of a tuple, sorted(set(t)). -/
namespace Dt
open PySem PySem.Spec L2 PySem.W PyProof.Rows
section
variable {P : Program} {w : World} {A : Around} {E : Value → Shared → Prop} {s : Shared} {a : Addr} {ks : List Key}
set_option maxHeartbeats 8000000 in
/-- set(xs): ints and texts -/
theorem call_ksT {l : Addr} {items : Array Value} {all : List Key} {Q : Value → Shared → Prop} (hh : A.handled = none) (hl : s.heap.IsTuple l items) (hit : EachIs (fun v k => keyIs k v = true) items.toList all) (hb : all.length + 1 < scanBound)
    (h : ∀ (h' : Heap) (tk : Nat), SetKs w h' s.heap.objs.size (firstK all) → (∀ b o, b < s.heap.objs.size → s.heap.get? b = some o → h'.get? b = some o) → Q (.ref s.heap.objs.size) { s with heap := h', toks := tk }) :
    wpAny (model P w) A (call (.type "set") [.ref l]) Q E s := by
  have hn : items.size = all.length := by rw [← Array.length_toList, hit.length]
  obtain ⟨c, tl, hmro⟩ := F.called_set.mro
  have hmade := F.called_set.made; have hsub := F.called_set.sub
  refine wpAny_call (codeAny_of_tree (show wpAny _ _ (callAny (.type "set") _) _ _ _ from wpAny_pure ⟨Code.quiet_builtin _ (by decide +kernel), codeAny_builtin F.entry_type_call ?_⟩))
  rw [Around.under_plain (weight_type_call_type "set" [.ref l] []) rfl]
  have h1 := F.called_set.notType; have h2 := F.called_set.canCreate; have hct := F.typeCall_set_1 (.ref l)
  repeat (any_goals (first | assumption | wp_step))
  refine codeAny_mono (code_set_led1 (.ref l) (E := E) (Q₁ := fun obj s₁ => obj = .ref s.heap.objs.size ∧ s₁ = { s with heap := s.heap.push (newSet w) }) ⟨rfl, rfl⟩) fun r s₁ hr => ?_
  match r, hr with
  | .error e, hr => exact hr
  | .ok .next, hr => exact hr.elim
  | .ok .brk, hr => exact hr.elim
  | .ok .cont, hr => exact hr.elim
  | .ok (.ret obj), ⟨e1, e2⟩ =>
    subst e1; subst e2
    have hS : (s.heap.push (newSet w)).get? s.heap.objs.size = some (newSet w) := Heap.get?_push_size _ rfl
    have hT : Shared.TypeIs { s with heap := s.heap.push (newSet w) } (.ref s.heap.objs.size) "set" := ⟨_, hS, rfl⟩
    have hli := F.called_set.init.lookup; have hbi := F.called_set.init.bind (.ref s.heap.objs.size)
    repeat (any_goals (first | assumption | wp_step))
    refine codeAny_mono (codeAny_call_builtin (R := wants (fun r s₂ => r = .none ∧ ∃ h' tk, s₂ = { s with heap := h', toks := tk } ∧ SetKs w h' s.heap.objs.size (firstK all) ∧ ∀ b o, b < s.heap.objs.size → s.heap.get? b = some o → h'.get? b = some o) E) F.called_set.init.plain F.entry_set_init (check_set_init_1 hT ?_)) fun r₂ s₂ hr₂ => ?_
    · obtain ⟨⟨ocls, odict, odata, oslots⟩, hol, hcl, nl, hdl⟩ := hl
      simp only at hcl hdl
      subst hcl; subst hdl
      have hol' : (s.heap.push (newSet w)).get? l = some { cls := .type "tuple", dict := odict, data := .seq items nl, slots := oslots } := Heap.get?_push_of_some _ hol
      have hsls := F.sub_tuple_set; have hslf := F.sub_tuple_frozenset; have hne : (Value.type "tuple" == Value.type "dict") = false := by decide
      have hl1 : (s.heap.push (newSet w)).IsTuple l items := ⟨_, hol', rfl, nl, rfl⟩
      unfold Builtin.«set.__init__» noKeywords Builtin.Frozenset.updateFrom
      (generalize hPI : pyIter = PI; wp_walk; subst hPI)
      refine wpAny_pyIter_tuple hl1 (wpAny_bind (wpAny_runValue ?_))
      have hlS : l < s.heap.objs.size := Heap.lt_size hol
      have hh3 : A.in1.in1.in1.handled = none := by simp [hh]
      have hz : (s.heap.push (newSet w)).objs.size = s.heap.objs.size + 1 := Heap.size_push ..
      have hneI : l ≠ (s.heap.push (newSet w)).objs.size := fun z => absurd hlS (by rw [z, Heap.size_push]; exact Nat.not_lt_of_le (Nat.le_succ _))
      have hSf : s.heap.objs.size ∉ [(s.heap.push (newSet w)).objs.size, l] := by
        rw [Heap.size_push]
        simp only [List.mem_cons, List.not_mem_nil, or_false, not_or]
        exact ⟨fun z => absurd z (Nat.ne_of_lt (Nat.lt_succ_self _)), fun z => absurd hlS (by rw [← z]; exact Nat.lt_irrefl _)⟩
      have hval : ∀ (i : Nat) (v : Value), items[i]? = some v → ∃ k, all[i]? = some k ∧ keyIs k v = true := fun i v hv => by
        rw [← Array.getElem?_toList] at hv
        exact each_get hit hv
      refine ks_loop (B := s.heap.objs.size) (all := all) ((Walks.tuple hh3 _ l hneI items).toS) hSf hn hval (by omega) (fun s' s0 hm hS' e0 => ?_) (items.size - 0) 0 _ (by omega) (Nat.zero_le _) ⟨⟨_, Heap.get?_push_size _ rfl, rfl, rfl⟩, (hl1.push _)⟩ (ks_none (Heap.get?_push_of_some _ hS)) (fun _ z => z)
      subst e0
      obtain ⟨h', g', d', tk', os'⟩ := s'
      have eg : g' = s.gens := hm.gens
      have ed : d' = s.drawn := hm.drawn
      have eo : os' = s.os := hm.os
      subst eg; subst ed; subst eo
      refine (show wpAny _ _ _ _ _ _ from wpAny_pure (show wpAny _ _ (ret Value.none) _ _ _ from wpAny_pure ⟨rfl, h', tk', rfl, hS', fun b o hb e => ?_⟩))
      exact hm.heap b o (by rw [Heap.size_push]; simp only [List.mem_cons, List.not_mem_nil, or_false, not_or]; exact ⟨Nat.ne_of_lt hb, Nat.ne_of_lt (Nat.lt_succ_of_lt hb)⟩) (Heap.get?_push_of_some _ (Heap.get?_push_of_some _ e))
    · match r₂, hr₂ with
      | .error e, hr₂ => exact hr₂
      | .ok .next, hr₂ => exact hr₂.elim
      | .ok .brk, hr₂ => exact hr₂.elim
      | .ok .cont, hr₂ => exact hr₂.elim
      | .ok (.ret r), ⟨e1, h', tk, e2, hS', hk'⟩ =>
        subst e1; subst e2
        repeat (any_goals (first | assumption | wp_step))
        exact h _ _ hS' hk'
end
end Dt

namespace Dt
open PySem PySem.Spec L2 PySem.W PyProof.Rows
/-- the row of a tuple or a list -/
def rowD (S : DH) (d : D) : Option (List D) := match d with | .tup xs => some xs | d => seqD S d
@[simp] theorem rowD_tup (S : DH) (xs : List D) : rowD S (.tup xs) = some xs := rfl
@[simp] theorem rowD_rol (S : DH) (xs : List D) : rowD S (.rol xs) = some xs := rfl
@[simp] theorem rowD_ref (S : DH) (a : Addr) : rowD S (.ref a) = (match S a with | some (.lst xs) => some xs | _ => none) := rfl
section
variable {X : Cx}
def rSetKsA (K : PySem.W.Frag) (w : World) : List V → Hp → VK → Prop := fun vs H Q => ∃ (a : Addr) (all : List Key), vs = [.ref a] ∧ (SqL K H a (all.map kV) ∨ SqT K H a (all.map kV)) ∧ all.length + 1 < scanBound ∧ ∀ p, H p = none → Q (.ref p) (upd H p (setHO w p (firstK all)))
theorem cr_setKsA (hc : X.calm = true) : CallR X (.type "set") (rSetKsA X.K X.w) := by
  intro pins s σ H vs us Q I r ⟨a, all, e, sq, hb, q⟩
  subst e
  rcases sq with sq | sq
  · exact cr_setKs hc pins s σ H _ us Q I r ⟨a, all, rfl, sq, hb, q⟩
  · obtain ⟨its, rv, hl, hz⟩ := I.tuple sq
    rw [Vals.ref1 r]
    refine call_ksT (I.ok.hd hc) (show s.heap.IsTuple a its.toArray from hl) (by simpa using each_keyV X.prog X.w rv) hb fun h' tk S k => ?_
    exact ⟨.ref _, upd H s.heap.objs.size (setHO X.w s.heap.objs.size (firstK all)), I.laid (t' := tk) (fun b u e => k b u (Heap.lt_size e) e) (Nat.le_refl _) (setHO_ok S), rfl, q _ (I.hok.fresh (Nat.le_refl _))⟩
variable {x y : Str} {e : Expr} {p p' pos pos' : Pos} {t : DTE}
@[simp] def dSortSetA (t : DTE) : DTE := fun E τ S Q => t E τ S fun d S1 => opt (rowD S1 d) fun xs => (∃ b, ∀ d ∈ xs, hasTy (scTy b) d = true) ∧ xs.length + 1 < scanBound ∧ newO S1 (.lst (ssD xs)) fun p S' => Q (.ref p) S'
@[simp] def dSortSetAF (t : DTE) : DTE := fun E τ S Q => t E τ S fun d S1 => opt (rowD S1 d) fun xs => (∃ b, ∀ d ∈ xs, hasTy (scTy b) d = true) ∧ xs.length + 1 < scanBound ∧ Q (.rol (ssD xs)) S1
theorem de_sortSetA (hc : X.calm = true) (hu : X.A.units + 64 < cLine) (hgs : Gl X "sorted") (hms : X.mg "sorted" = none) (hgt : Gl X "set") (hmt : X.mg "set" = none) (hbs : bootBuiltins "sorted" = some (.builtin "sorted")) (hbt : bootBuiltins "set" = some (.type "set")) (he : DE X e t)
    (h1 : starEach [e] X.env = (false, eval e X.env) :: starEach [] X.env := by rfl) (h2 : starEach [Expr.Call (.Name "set" p') [e] [] pos'] X.env = (false, eval (Expr.Call (.Name "set" p') [e] [] pos') X.env) :: starEach [] X.env := by rfl) :
    DE X (.Call (.Name "sorted" p) [.Call (.Name "set" p') [e] [] pos'] [] pos) (dSortSetA t) := by
  refine ⟨fun E E' τ S Q Q' hE k q => he.mono _ _ _ _ _ _ hE (fun d S1 q => opt_mono (fun _ q => ⟨q.1, q.2.1, fun p hp => k _ _ (q.2.2 p hp)⟩) q) q, pE_imp (pe_callB (cr_sortKs hc hu) hgs hms hbs (pa_cons (pe_callTy (cr_setKsA hc) hgt hmt hbt (pa_cons he.run pa_nil h1) (by decide) (by decide) h1 rfl) pa_nil h2) (by decide) (by decide) h2 rfl) fun σ H Q ⟨E, τ, S, w, rl, q⟩ => ?_⟩
  refine he.to w rl q fun d S1 v H1 le w1 r1 rd q => ?_
  obtain ⟨xs, ex, ⟨b, hb⟩, hl, q⟩ := opt_ex q
  have ht : scTy b = .int ∨ scTy b = .str := by cases b; exact .inr rfl; exact .inl rfl
  obtain ⟨all, rfl⟩ := keys_of ht hb
  have hal : AllAlike (all.map keyP) := fun p hp q hq => by
    obtain ⟨j, hj, rfl⟩ := List.mem_map.mp hp
    obtain ⟨k, hk, rfl⟩ := List.mem_map.mp hq
    rw [keyP_D, keyP_D]
    exact hasTy_alike _ _ _ (hb _ (List.mem_map_of_mem hj)) (hb _ (List.mem_map_of_mem hk))
  obtain ⟨a, rfl, sq⟩ : ∃ a, v = .ref a ∧ (SqL X.K H1 a (all.map kV) ∨ SqT X.K H1 a (all.map kV)) := by
    cases d with
    | tup ds =>
      cases ex
      obtain ⟨a, ys, rfl, sq, rs⟩ : ∃ a ys, v = V.ref a ∧ SqT X.K H1 a ys ∧ RDs X.K H1 (all.map keyD) ys := rd
      exact ⟨a, rfl, .inr (rds_keys rs ▸ sq)⟩
    | rol ds =>
      cases ex
      obtain ⟨a, ys, rfl, sq, rs⟩ : ∃ a ys, v = V.ref a ∧ SqR X.K H1 a ys ∧ RDs X.K H1 (all.map keyD) ys := rd
      exact ⟨a, rfl, .inl (rds_keys rs ▸ sq.l)⟩
    | ref a =>
      simp only [rowD_ref] at ex
      split at ex
      · rename_i ys ea
        cases ex
        obtain ⟨zs, e0, rs⟩ : ∃ zs, H1 a = some (.lst zs) ∧ RDs X.K H1 (all.map keyD) zs := r1.rep a _ ea
        exact ⟨a, rd, .inl (rds_keys rs ▸ .of e0)⟩
      · cases ex
    | non => cases ex
    | bl _ => cases ex
    | int _ => cases ex
    | str _ => cases ex
  refine ⟨a, all, rfl, sq, by simpa using hl, fun p hp => ⟨p, firstK all, rfl, upd_same, alike_first hal, fun bs pb q' hq => ?_⟩⟩
  have rg := r1.rep.garb (u := setHO X.w p (firstK all)) hp
  have e : (bs.mergeSort (dataLe false keyP)).map keyD = ssD (all.map keyD) := by
    refine (ss_is (t := scTy b) hb (nodup_mapD ((List.mergeSort_perm ..).nodup_iff.mpr (pb.nodup_iff.mpr (first_nodup all)))) (key_sorted (t := .int)) fun x => ?_).symm
    rw [List.mem_map, List.mem_map]
    constructor
    · rintro ⟨k, hk, rfl⟩
      exact ⟨k, (List.mergeSort_perm ..).mem_iff.mpr (pb.mem_iff.mpr (first_mem.mpr hk)), rfl⟩
    · rintro ⟨k, hk, rfl⟩
      exact ⟨k, first_mem.mp (pb.mem_iff.mp ((List.mergeSort_perm ..).mem_iff.mp hk)), rfl⟩
  exact q q' (rg.free hq) _ _ (le.trans ((LeH.new hp).trans (LeH.new hq))) (rg.new hq ⟨_, upd_same, by rw [← e]; exact keys_rds _⟩) rfl
theorem de_sortSetAF (hc : X.calm = true) (hu : X.A.units + 64 < cLine) (hgs : Gl X "sorted") (hms : X.mg "sorted" = none) (hgt : Gl X "set") (hmt : X.mg "set" = none) (hbs : bootBuiltins "sorted" = some (.builtin "sorted")) (hbt : bootBuiltins "set" = some (.type "set")) (he : DE X e t)
    (h1 : starEach [e] X.env = (false, eval e X.env) :: starEach [] X.env := by rfl) (h2 : starEach [Expr.Call (.Name "set" p') [e] [] pos'] X.env = (false, eval (Expr.Call (.Name "set" p') [e] [] pos') X.env) :: starEach [] X.env := by rfl) :
    DE X (.Call (.Name "sorted" p) [.Call (.Name "set" p') [e] [] pos'] [] pos) (dSortSetAF t) :=
  (de_fz (de_sortSetA hc hu hgs hms hgt hmt hbs hbt he h1 h2)).sub (fun E E' τ S Q Q' hE k q => he.mono _ _ _ _ _ _ hE (fun d S1 q => opt_mono (fun _ q => ⟨q.1, q.2.1, k _ _ q.2.2⟩) q) q) fun E τ S Q q => he.mono _ _ _ _ _ _ (fun _ _ _ _ z => z) (fun d S1 q => opt_mono (fun _ q => ⟨q.1, q.2.1, fun p hp => fzK_new hp q.2.2⟩) q) q
end
end Dt
set_option maxRecDepth 100000
set_option maxHeartbeats 4000000
/-! DatZ: what repr takes; patterns as trees. -/
namespace Dt
open PySem PySem.Spec L2
/-! ### repr -/
mutual
/-- may be shown -/
def rp : D → Bool
  | .non => true
  | .bl _ => true
  | .int i => decide (i.natAbs.log2 < 1920) && decide ((PyData.shown (.int i)).length ≤ 13)
  | .str x => PyData.strOk x
  | .tup ds => rps ds
  | .rol ds => rps ds
  | .ref _ => false
def rps : List D → Bool
  | [] => true
  | d :: ds => rp d && rps ds
end
mutual
def wgt : D → Nat
  | .str x => x.length
  | .int i => i.natAbs.log2 + 1
  | .tup ds => wgts ds
  | .rol ds => wgts ds
  | _ => 0
def wgts : List D → Nat
  | [] => 0
  | d :: ds => wgt d + 1 + wgts ds
end
mutual
theorem rp_show : ∀ d : D, rp d = true → imm d = true ∧ (toP d).showable = true ∧ (toP d).leavesShort 13 = true ∧ (toP d).weight ≤ wgt d
  | .non, _ => ⟨rfl, rfl, rfl, Nat.le_refl _⟩
  | .bl _, _ => ⟨rfl, rfl, rfl, Nat.le_refl _⟩
  | .int i, h => by
    simp only [rp, Bool.and_eq_true, decide_eq_true_eq] at h
    refine ⟨rfl, by simpa [toP, PyData.showable] using h.1, by simpa [toP, PyData.leavesShort] using h.2, ?_⟩
    show (if (i == 0) = true then 0 else i.natAbs.log2 + 1) ≤ _
    split
    · exact Nat.zero_le _
    · exact Nat.le_refl _
  | .str x, h => by
    refine ⟨rfl, rfl, ?_, Nat.le_refl _⟩
    show (x.cps.toList.all fun c => decide (c < 16 ^ 8)) = true
    have h' : x.cps.all (· < 0x110000) = true := h
    rw [← Array.all_toList, List.all_eq_true] at h'
    rw [List.all_eq_true]
    exact fun c hc => decide_eq_true (Nat.lt_trans (of_decide_eq_true (h' c hc)) (by decide))
  | .tup ds, h => rps_show ds h
  | .rol ds, h => rps_show ds h
theorem rps_show : ∀ ds : List D, rps ds = true → imms ds = true ∧ PyData.showableAll (toPs ds) = true ∧ PyData.leavesShortAll 13 (toPs ds) = true ∧ PyData.weightAll (toPs ds) ≤ wgts ds
  | [], _ => ⟨rfl, rfl, rfl, Nat.le_refl _⟩
  | d :: ds, h => by
    have h' : (rp d && rps ds) = true := h
    rw [Bool.and_eq_true] at h'
    obtain ⟨a1, a2, a3, a4⟩ := rp_show d h'.1
    obtain ⟨b1, b2, b3, b4⟩ := rps_show ds h'.2
    refine ⟨?_, ?_, ?_, ?_⟩
    · show (imm d && imms ds) = true
      rw [a1, b1]; rfl
    · show ((toP d).showable && PyData.showableAll (toPs ds)) = true
      rw [a2, b2]; rfl
    · show ((toP d).leavesShort 13 && PyData.leavesShortAll 13 (toPs ds)) = true
      rw [a3, b3]; rfl
    · show (toP d).weight + 1 + PyData.weightAll (toPs ds) ≤ wgt d + 1 + wgts ds
      omega
end
structure Rp (d : D) : Prop where
  rp : rp d = true
  w : wgt d ≤ 2 ^ 20
  d : dep d ≤ 100
mutual
theorem Vw.pd {S : DH} {F : List Addr} : ∀ {d e : D}, Vw S F d e → imm e = true → Pd S d (toP e)
  | _, _, .same d, h => imm_pd S d h
  | _, _, .lst h1 _ h3, h => .lst h1 (Vws.pd h3 h)
  | _, _, .tup hs, h => .tup (Vws.pd hs h)
  | _, _, .rol hs, h => .rol (Vws.pd hs h)
theorem Vws.pd {S : DH} {F : List Addr} : ∀ {ds es : List D}, Vws S F ds es → imms es = true → PdA S ds (toPs es)
  | _, _, .nil, _ => .nil
  | _, _, .cons (e := e) (es := es) h1 h2, h => by
    have h' : (imm e && imms es) = true := h
    rw [Bool.and_eq_true] at h'
    exact .cons (Vw.pd h1 h'.1) (Vws.pd h2 h'.2)
end
/-! ### patterns -/
inductive Pt where
  | stay | step (on : Bool) (w : Str) | mark (at_ : Bool) (m : Str) | seq (then_ : Bool) (ps : List Pt) | many (p : Pt)
mutual
def ptD : Pt → D
  | .stay => .tup [.str "stay"]
  | .step b w => .tup [.str "step", .str (if b then "on" else "back"), .str w]
  | .mark b m => .tup [.str (if b then "at" else "off"), .str m]
  | .seq b ps => .tup [.str (if b then "then" else "either"), .tup (ptDs ps)]
  | .many p => .tup [.str "many", ptD p]
def ptDs : List Pt → List D
  | [] => []
  | p :: ps => ptD p :: ptDs ps
end
theorem ptDs_map (ps : List Pt) : ptDs ps = ps.map ptD := by
  induction ps with
  | nil => rfl
  | cons p ps ih => show ptD p :: ptDs ps = _; rw [ih]; rfl
namespace Pt
def kids : Pt → List Pt
  | .seq _ ps => ps
  | .many p => [p]
  | _ => []
def isLeaf : Pt → Bool
  | .seq _ _ => false
  | .many _ => false
  | _ => true
mutual
/-- a pattern and all within it, the outer ones ahead -/
def all : Pt → List Pt
  | .seq b ps => .seq b ps :: alls ps
  | .many p => .many p :: all p
  | .stay => [.stay]
  | .step b w => [.step b w]
  | .mark b m => [.mark b m]
def alls : List Pt → List Pt
  | [] => []
  | p :: ps => all p ++ alls ps
end
mutual
/-- the same, the inner ones ahead -/
def post : Pt → List Pt
  | .seq b ps => posts ps ++ [.seq b ps]
  | .many p => post p ++ [.many p]
  | .stay => [.stay]
  | .step b w => [.step b w]
  | .mark b m => [.mark b m]
def posts : List Pt → List Pt
  | [] => []
  | p :: ps => post p ++ posts ps
end
mutual
/-- how many within one another -/
def deep : Pt → Nat
  | .seq _ ps => deeps ps + 1
  | .many p => deep p + 1
  | _ => 1
def deeps : List Pt → Nat
  | [] => 0
  | p :: ps => max (deep p) (deeps ps)
end
theorem deep_seq (b : Bool) (ps : List Pt) : deep (.seq b ps) = deeps ps + 1 := rfl
theorem deep_many (p : Pt) : deep (.many p) = deep p + 1 := rfl
theorem deeps_nil : deeps [] = 0 := rfl
theorem deeps_cons (p : Pt) (ps : List Pt) : deeps (p :: ps) = max (deep p) (deeps ps) := rfl
theorem all_seq (b : Bool) (ps : List Pt) : all (.seq b ps) = .seq b ps :: alls ps := rfl
theorem all_many (p : Pt) : all (.many p) = .many p :: all p := rfl
theorem alls_nil : alls [] = [] := rfl
theorem alls_cons (p : Pt) (ps : List Pt) : alls (p :: ps) = all p ++ alls ps := rfl
theorem alls_flat (ps : List Pt) : alls ps = ps.flatMap all := by
  induction ps with
  | nil => rfl
  | cons p ps ih => show all p ++ alls ps = _; rw [ih]; rfl
theorem all_kids (p : Pt) : all p = p :: p.kids.flatMap all := by
  cases p <;> simp [all, kids, alls_flat]
mutual
theorem post_all : ∀ p : Pt, (post p).Perm (all p)
  | .seq b ps => by
    show (posts ps ++ [Pt.seq b ps]).Perm (Pt.seq b ps :: alls ps)
    exact (List.perm_append_singleton _ _).trans ((posts_alls ps).cons _)
  | .many p => by
    show (post p ++ [Pt.many p]).Perm (Pt.many p :: all p)
    exact (List.perm_append_singleton _ _).trans ((post_all p).cons _)
  | .stay => List.Perm.refl _
  | .step _ _ => List.Perm.refl _
  | .mark _ _ => List.Perm.refl _
theorem posts_alls : ∀ ps : List Pt, (posts ps).Perm (alls ps)
  | [] => List.Perm.refl _
  | p :: ps => (post_all p).append (posts_alls ps)
end
theorem self_all (p : Pt) : p ∈ all p := by rw [all_kids]; exact List.mem_cons_self
theorem all_pos (p : Pt) : 1 ≤ (all p).length := List.length_pos_of_mem (self_all p)
/-- names are names -/
def okP (P : Str → Prop) : Pt → Prop := fun p => ∀ q ∈ all p, match q with | .step _ w => w = "*" ∨ P w | .mark _ m => P m | _ => True
end Pt
theorem nm_ok {x : Str} (h : Nm x) : PyData.strOk x = true := by
  unfold PyData.strOk
  rw [← Array.all_toList, List.all_eq_true]
  exact fun c hc => decide_eq_true (Nat.lt_of_le_of_lt (h.2.2 c hc).2 (by decide))
theorem ok_lit (s : String) (h : PyData.strOk (Str.ofString s) = true := by decide +kernel) : PyData.strOk (Str.ofString s) = true := h
theorem okP_kids {P : Str → Prop} {p q : Pt} (h : p.okP P) (hq : q ∈ p.kids) : q.okP P := fun r hr => h r (by
  rw [Pt.all_kids]
  exact List.mem_cons_of_mem _ (List.mem_flatMap.mpr ⟨q, hq, hr⟩))
mutual
theorem pt_sm : ∀ (p : Pt), p.okP Nm → Sm (2 * p.deep) (ptD p)
  | .stay, _ => by
    refine Sm_tup.mpr fun d hd => ?_
    rw [List.mem_singleton.mp hd]
    exact Sm_str.mpr (ok_lit "stay")
  | .step b w, h => by
    refine Sm_tup.mpr fun d hd => ?_
    have hw := h _ (Pt.self_all _)
    simp only [List.mem_cons, List.not_mem_nil, or_false] at hd
    rcases hd with rfl | rfl | rfl
    · exact Sm_str.mpr (ok_lit "step")
    · cases b
      · exact Sm_str.mpr (ok_lit "back")
      · exact Sm_str.mpr (ok_lit "on")
    · rcases hw with rfl | hw
      · exact Sm_str.mpr (ok_lit "*")
      · exact Sm_str.mpr (nm_ok hw)
  | .mark b m, h => by
    refine Sm_tup.mpr fun d hd => ?_
    have hw := h _ (Pt.self_all _)
    simp only [List.mem_cons, List.not_mem_nil, or_false] at hd
    rcases hd with rfl | rfl
    · cases b
      · exact Sm_str.mpr (ok_lit "off")
      · exact Sm_str.mpr (ok_lit "at")
    · exact Sm_str.mpr (nm_ok hw)
  | .seq b ps, h => by
    show Sm (2 * (Pt.deeps ps + 1)) _
    rw [show 2 * (Pt.deeps ps + 1) = (2 * Pt.deeps ps + 1) + 1 by omega]
    have hs := pts_sm ps fun q hq => okP_kids h hq
    refine Sm_tup.mpr fun d hd => ?_
    simp only [List.mem_cons, List.not_mem_nil, or_false] at hd
    rcases hd with rfl | rfl
    · cases b
      · exact Sm_str.mpr (ok_lit "either")
      · exact Sm_str.mpr (ok_lit "then")
    · exact Sm_tup.mpr hs
  | .many p, h => by
    show Sm (2 * (Pt.deep p + 1)) _
    rw [show 2 * (Pt.deep p + 1) = (2 * Pt.deep p + 1) + 1 by omega]
    have hs := pt_sm p (okP_kids h (List.mem_singleton.mpr rfl))
    refine Sm_tup.mpr fun d hd => ?_
    simp only [List.mem_cons, List.not_mem_nil, or_false] at hd
    rcases hd with rfl | rfl
    · exact Sm_str.mpr (ok_lit "many")
    · exact hs.mono (by omega)
theorem pts_sm : ∀ (ps : List Pt), (∀ p ∈ ps, p.okP Nm) → ∀ d ∈ ptDs ps, Sm (2 * Pt.deeps ps) d
  | [], _, _, hd => nomatch hd
  | p :: ps, h, d, hd => by
    have e : Pt.deeps (p :: ps) = max p.deep (Pt.deeps ps) := rfl
    rcases List.mem_cons.mp hd with rfl | hd
    · exact (pt_sm p (h p (List.mem_cons_self ..))).mono (by rw [e]; omega)
    · exact (pts_sm ps (fun q hq => h q (List.mem_cons_of_mem _ hq)) d hd).mono (by rw [e]; omega)
end
mutual
theorem pt_rp : ∀ (p : Pt), p.okP Nm → rp (ptD p) = true ∧ wgt (ptD p) ≤ 31 * p.all.length - 1
  | .stay, _ => ⟨by decide +kernel, by decide +kernel⟩
  | .step b w, h => by
    have hw := h _ (Pt.self_all _)
    have h1 : PyData.strOk w = true ∧ w.length ≤ 8 := by
      rcases hw with rfl | hw
      · exact ⟨ok_lit "*", by decide +kernel⟩
      · exact ⟨nm_ok hw, hw.2.1⟩
    refine ⟨?_, ?_⟩
    · cases b <;> simp only [ptD, rp, rps, h1.1, Bool.and_true, if_true, Bool.false_eq_true, if_false] <;> decide +kernel
    · have e : ∀ x y : Str, wgt (.tup [.str x, .str y, .str w]) = x.length + 1 + (y.length + 1 + (w.length + 1 + 0)) := fun _ _ => rfl
      show wgt (.tup [_, _, _]) ≤ 31 * 1 - 1
      rw [e]
      have l1 : (Str.ofString "step").length = 4 := by decide +kernel
      have l2 : (if b = true then (Str.ofString "on") else (Str.ofString "back")).length ≤ 4 := by cases b <;> decide +kernel
      have := h1.2
      omega
  | .mark b m, h => by
    have hw : Nm m := h _ (Pt.self_all _)
    refine ⟨?_, ?_⟩
    · cases b <;> simp only [ptD, rp, rps, nm_ok hw, Bool.and_true, if_true, Bool.false_eq_true, if_false] <;> decide +kernel
    · have e : ∀ x : Str, wgt (.tup [.str x, .str m]) = x.length + 1 + (m.length + 1 + 0) := fun _ => rfl
      show wgt (.tup [_, _]) ≤ 31 * 1 - 1
      rw [e]
      have l2 : (if b = true then (Str.ofString "at") else (Str.ofString "off")).length ≤ 4 := by cases b <;> decide +kernel
      have := hw.2.1
      omega
  | .seq b ps, h => by
    obtain ⟨h1, h2⟩ := pts_rp ps fun q hq => okP_kids h hq
    refine ⟨?_, ?_⟩
    · cases b <;> simp only [ptD, rp, rps, h1, Bool.and_true, if_true, Bool.false_eq_true, if_false] <;> decide +kernel
    · have e : ∀ x : Str, wgt (.tup [.str x, .tup (ptDs ps)]) = x.length + 1 + (wgts (ptDs ps) + 1 + 0) := fun _ => rfl
      show wgt (.tup [_, _]) ≤ 31 * ((Pt.alls ps).length + 1) - 1
      rw [e]
      have l2 : (if b = true then (Str.ofString "then") else (Str.ofString "either")).length ≤ 6 := by cases b <;> decide +kernel
      omega
  | .many p, h => by
    obtain ⟨h1, h2⟩ := pt_rp p (okP_kids h (List.mem_singleton.mpr rfl))
    refine ⟨?_, ?_⟩
    · simp only [ptD, rp, rps, h1, Bool.and_true]
      decide +kernel
    · have e : ∀ x : Str, wgt (.tup [.str x, ptD p]) = x.length + 1 + (wgt (ptD p) + 1 + 0) := fun _ => rfl
      show wgt (.tup [_, _]) ≤ 31 * ((Pt.all p).length + 1) - 1
      rw [e]
      have l2 : (Str.ofString "many").length = 4 := by decide +kernel
      omega
theorem pts_rp : ∀ (ps : List Pt), (∀ p ∈ ps, p.okP Nm) → rps (ptDs ps) = true ∧ wgts (ptDs ps) ≤ 31 * (Pt.alls ps).length
  | [], _ => ⟨rfl, Nat.le_refl _⟩
  | p :: ps, h => by
    obtain ⟨a1, a2⟩ := pt_rp p (h p (List.mem_cons_self ..))
    obtain ⟨b1, b2⟩ := pts_rp ps fun q hq => h q (List.mem_cons_of_mem _ hq)
    refine ⟨?_, ?_⟩
    · show (rp (ptD p) && rps (ptDs ps)) = true
      rw [a1, b1]; rfl
    · show wgt (ptD p) + 1 + wgts (ptDs ps) ≤ 31 * (Pt.all p ++ Pt.alls ps).length
      have := p.all_pos
      rw [List.length_append]
      omega
end
end Dt
set_option maxRecDepth 100000
set_option maxHeartbeats 4000000
/-! Sh: what many laws have: draws, names, leaves, patterns. -/
namespace Sh
open PySem PySem.Spec L2 Dt
def sp_l_names : DSp := fun ds S Q _ => ∃ (p : Addr) (m n : Nat) (o : Ob), ds = [.ref p, .int (m : Nat)] ∧ m ≤ 8 ∧ S p = some o ∧ FeedOb n o ∧ n < 2 ^ 90 ∧
  ∀ (ys : List Str) (o' : Ob), ys.length = m → (∀ y ∈ ys, Nm y) → ys.Nodup → FeedOb (n + 12) o' → Q (.rol (ys.map D.str)) (upo S p o')
theorem sp_l_names_mono : SpMono sp_l_names := fun ds S Q Q' E E' k _ ⟨p, m, n, o, h1, h2, h3, h4, h5, h⟩ => ⟨p, m, n, o, h1, h2, h3, h4, h5, fun ys o' a b c d => k _ _ (h ys o' a b c d)⟩
/-- words and marks by draws -/
structure Nms (ws ms : List Str) : Prop where
  w1 : 1 ≤ ws.length
  w8 : ws.length ≤ 8
  m1 : 1 ≤ ms.length
  m8 : ms.length ≤ 8
  w : ∀ w ∈ ws, Nm w
  m : ∀ m ∈ ms, Nm m
abbrev nmsD (e0 : D) (ws ms : List Str) : D := .rol [e0, .rol (ws.map D.str), .rol (ms.map D.str)]
def IsLf (ws ms : List Str) (d : D) : Prop := d = .tup [.str "stay"] ∨ (∃ a m : Str, (a = "at" ∨ a = "off") ∧ m ∈ ms ∧ d = .tup [.str a, .str m]) ∨ ∃ s w : Str, (s = "on" ∨ s = "back") ∧ (w = "*" ∨ w ∈ ws) ∧ d = .tup [.str "step", .str s, .str w]
def sp_l_leaf : DSp := fun ds S Q _ => ∃ (p : Addr) (e0 : D) (ws ms : List Str) (n : Nat) (o : Ob), ds = [.ref p, nmsD e0 ws ms] ∧ Nms ws ms ∧ S p = some o ∧ FeedOb n o ∧ n < 2 ^ 90 ∧
  ∀ (d : D) (o' : Ob), IsLf ws ms d → FeedOb (n + 3) o' → Q d (upo S p o')
theorem sp_l_leaf_mono : SpMono sp_l_leaf := fun ds S Q Q' E E' k _ ⟨p, e0, ws, ms, n, o, h1, h2, h3, h4, h5, h⟩ => ⟨p, e0, ws, ms, n, o, h1, h2, h3, h4, h5, fun d o' a b => k _ _ (h d o' a b)⟩
/-- patterns of so much within one another -/
def IsPat (ws ms : List Str) : Nat → D → Prop
  | 0, d => IsLf ws ms d
  | n + 1, d => IsLf ws ms d ∨ (∃ e, d = .tup [.str "many", e] ∧ IsPat ws ms n e) ∨ ∃ (h : Str) (es : List D), d = .tup [.str h, .tup es] ∧ (h = "then" ∨ h = "either") ∧ es.length ≤ 3 ∧ ∀ e ∈ es, IsPat ws ms n e
theorem IsLf.pat {ws ms : List Str} {d : D} (h : IsLf ws ms d) : ∀ n, IsPat ws ms n d
  | 0 => h
  | _ + 1 => .inl h
def costP : Nat → Nat
  | 0 => 4
  | n + 1 => 5 + 3 * costP n
def sp_l_pattern (k : Nat) : DSp := fun ds S Q _ => ∃ (p : Addr) (e0 : D) (j : Nat) (ws ms : List Str) (n : Nat) (o : Ob), ds = [.ref p, nmsD e0 ws ms, .int (j : Nat)] ∧ Nms ws ms ∧ j ≤ k ∧ S p = some o ∧ FeedOb n o ∧ n + costP k < 2 ^ 90 ∧
  ∀ (d : D) (o' : Ob), IsPat ws ms k d → FeedOb (n + costP k) o' → Q d (upo S p o')
theorem sp_l_pattern_mono (k : Nat) : SpMono (sp_l_pattern k) := fun ds S Q Q' E E' kk _ ⟨p, e0, j, ws, ms, n, o, h1, h0, h2, h3, h4, h5, h⟩ => ⟨p, e0, j, ws, ms, n, o, h1, h0, h2, h3, h4, h5, fun d o' a b => kk _ _ (h d o' a b)⟩
def t_l_cell_at : DTS := (dSeq (dIf (dTest (dOp rLt (dVar 1) (dCB cLen (dCons (dVar 0) dNil))))
      (dRet (dOp dIxS (dVar 0) (dVar 1)))
      dNx)
    (dSeq (dAsg (dC (.int 0)) (dGN 2))
    (dSeq (dIf (dTest (dOp rGt (dCB cLen (dCons (dVar 0) dNil)) (dC (.int 0))))
      (dAsg (dOp dIxS (dVar 0) (dOp rMod (dVar 1) (dCB cLen (dCons (dVar 0) dNil)))) (dGN 2))
      dNx)
    (dRet (dOp dAddF (dOp dAddF (dOp dMul (dOp rMod (dVar 2) (dC (.int 1000003))) (dC (.int 48271))) (dOp dMul (dC (.int 7919)) (dVar 1))) (dC (.int 1)))))))
abbrev N_l_cell_at : List Str := ["_law_script", "_law_k", "_law_seed"]
def t_l_feed : DTS := (dRet (dDisp [("left", (dCB cMax2 (dCons (dC (.int 0)) (dCons (dOp rSub (dVar 0) (dOp rPow (dC (.int 10)) (dC (.int 18)))) dNil)))), ("seed", (dOp rMod (dVar 0) (dC (.int 1000003)))), ("drawn", (dC (.int 0)))]))
abbrev N_l_feed : List Str := ["_law_cell"]
def t_l_next : DTS := (dSeq (dPut (dVar 0) (dC (.str "drawn")) (dOp dAddF (dOp dIxS (dVar 0) (dC (.str "drawn"))) (dC (.int 1))))
    (dSeq (dIf (dTest (dOp rGt (dOp dIxS (dVar 0) (dC (.str "left"))) (dC (.int 0))))
      (dSeq (dAsg (dOp rMod (dOp dIxS (dVar 0) (dC (.str "left"))) (dVar 1)) (dGN 2))
    (dSeq (dPut (dVar 0) (dC (.str "left")) (dOp rFdiv (dOp dIxS (dVar 0) (dC (.str "left"))) (dVar 1)))
    (dRet (dVar 2))))
      dNx)
    (dSeq (dAsg (dOp rMod (dOp dMul (dOp dAddF (dOp dIxS (dVar 0) (dC (.str "seed"))) (dC (.int 1))) (dOp dAddF (dOp dMul (dOp dIxS (dVar 0) (dC (.str "drawn"))) (dOp dIxS (dVar 0) (dC (.str "drawn")))) (dC (.int 48271)))) (dC (.int 65537))) (dGN 3))
    (dSeq (dAsg (dOp rMod (dOp dAddF (dOp dMul (dVar 3) (dVar 3)) (dOp dMul (dC (.int 30269)) (dOp dIxS (dVar 0) (dC (.str "drawn"))))) (dC (.int 65521))) (dGN 4))
    (dRet (dOp rMod (dOp rMod (dOp dAddF (dOp dMul (dVar 4) (dVar 4)) (dOp dMul (dC (.int 40503)) (dVar 3))) (dC (.int 65519))) (dVar 1)))))))
abbrev N_l_next : List Str := ["_law_feed_here", "_law_many", "_law_found", "_law_one", "_law_two"]
def t_l_names : DTS := (dSeq (dAsg (dC (.str "abcdefghijklmnopqrstuvwxyz")) (dGN 2))
    (dSeq (dAsg (dBM "str" mJoin (dC (.str "")) (dCons (dFz (dLc (dRng1 (dCons (dC (.int 8)) dNil)) (dGN 9) dYes (dOp dIxS (dVar 2) (dCall sp_l_next (dCons (dVar 0) (dCons (dC (.int 26)) dNil)))) [9])) dNil)) (dGN 3))
    (dSeq (dAsg (dCall sp_l_next (dCons (dVar 0) (dCons (dC (.int 3)) dNil))) (dGN 4))
    (dSeq (dAsg (dCall sp_l_next (dCons (dVar 0) (dCons (dC (.int 8)) dNil))) (dGN 5))
    (dSeq (dIf (dTest (dOp (dEq false) (dVar 4) (dC (.int 0))))
      (dAsg (dLc (dRng1 (dCons (dC (.int 8)) dNil)) (dGN 9) dYes (dSlF (dVar 3) dNoP (dSoP (dOp dAddF (dVar 9) (dC (.int 1))))) [9]) (dGN 6))
      (dIf (dTest (dOp (dEq false) (dVar 4) (dC (.int 1))))
      (dAsg (dLst (dCons (dC (.str "on")) (dCons (dC (.str "back")) (dCons (dC (.str "at")) (dCons (dC (.str "off")) (dCons (dC (.str "stay")) (dCons (dC (.str "many")) (dCons (dC (.str "then")) (dCons (dC (.str "either")) dNil))))))))) (dGN 6))
      (dSeq (dAsg (dCall sp_l_next (dCons (dVar 0) (dCons (dOp dAddF (dVar 5) (dC (.int 1))) dNil))) (dGN 7))
    (dSeq (dAsg (dCall sp_l_next (dCons (dVar 0) (dCons (dC (.int 26)) dNil))) (dGN 8))
    (dSeq (dAsg (dLst dNil) (dGN 6))
    (dFor (dRng1 (dCons (dC (.int 8)) dNil)) (dGN 9)
      (dSeq (dAsg (dOp dIxS (dVar 2) (dOp rMod (dOp dAddF (dVar 8) (dOp dMul (dC (.int 5)) (dVar 9))) (dC (.int 26)))) (dGN 10))
    (dDrop (dBM "list" mAppend (dVar 6) (dCons (dOp dAddF (dOp dAddF (dSlF (dVar 3) dNoP (dSoP (dVar 7))) (dVar 10)) (dSlF (dVar 3) (dSoP (dOp dAddF (dVar 7) (dC (.int 1)))) (dSoP (dOp dAddF (dVar 5) (dC (.int 1)))))) dNil))))))))))
    (dRet (dSlF (dOp dAddF (dSlF (dVar 6) (dSoP (dVar 5)) dNoP) (dSlF (dVar 6) dNoP (dSoP (dVar 5)))) dNoP (dSoP (dVar 1)))))))))
abbrev N_l_names : List Str := ["_law_feed_here", "_law_many", "_law_letters", "_law_word", "_law_way", "_law_turn", "_law_names_here", "_law_place", "_law_start", "_law_k", "_law_sign"]
def t_l_leaf : DTS := (dSeq (dAsg (dCall sp_l_next (dCons (dVar 0) (dCons (dC (.int 8)) dNil))) (dGN 2))
    (dSeq (dIf (dTest (dOp (dEq false) (dVar 2) (dC (.int 0))))
      (dRet (dTup (dCons (dC (.str "stay")) dNil)))
      dNx)
    (dSeq (dIf (dTest (dOp rLt (dVar 2) (dC (.int 3))))
      (dRet (dTup (dCons (dOp dIxS (dLstF (dCons (dC (.str "at")) (dCons (dC (.str "off")) dNil))) (dOp rSub (dVar 2) (dC (.int 1)))) (dCons (dOp dIxS (dOp dIxS (dVar 1) (dC (.int 2))) (dCall sp_l_next (dCons (dVar 0) (dCons (dCB cLen (dCons (dOp dIxS (dVar 1) (dC (.int 2))) dNil)) dNil)))) dNil))))
      dNx)
    (dSeq (dAsg (dOp dIxS (dOp dAddF (dLstF (dCons (dC (.str "*")) dNil)) (dOp dIxS (dVar 1) (dC (.int 1)))) (dCall sp_l_next (dCons (dVar 0) (dCons (dOp dAddF (dC (.int 1)) (dCB cLen (dCons (dOp dIxS (dVar 1) (dC (.int 1))) dNil))) dNil)))) (dGN 3))
    (dRet (dTup (dCons (dC (.str "step")) (dCons (dOp dIxS (dLstF (dCons (dC (.str "on")) (dCons (dC (.str "on")) (dCons (dC (.str "back")) dNil)))) (dCall sp_l_next (dCons (dVar 0) (dCons (dC (.int 3)) dNil)))) (dCons (dVar 3) dNil)))))))))
abbrev N_l_leaf : List Str := ["_law_feed_here", "_law_names_here", "_law_way", "_law_word"]
def t_l_pattern (spR : DSp) : DTS := (dSeq (dAsg (dCall sp_l_next (dCons (dVar 0) (dCons (dC (.int 8)) dNil))) (dGN 3))
    (dSeq (dIf (dOr (dTest (dOp (dEq false) (dVar 2) (dC (.int 0)))) (dTest (dOp rLt (dVar 3) (dC (.int 2)))))
      (dRet (dCall sp_l_leaf (dCons (dVar 0) (dCons (dVar 1) dNil))))
      dNx)
    (dSeq (dIf (dTest (dOp rLt (dVar 3) (dC (.int 4))))
      (dRet (dTup (dCons (dC (.str "many")) (dCons (dCall spR (dCons (dVar 0) (dCons (dVar 1) (dCons (dOp rSub (dVar 2) (dC (.int 1))) dNil)))) dNil))))
      dNx)
    (dSeq (dAsg (dOp dIxS (dLstF (dCons (dC (.int 2)) (dCons (dC (.int 1)) (dCons (dC (.int 3)) (dCons (dC (.int 0)) (dCons (dC (.int 2)) (dCons (dC (.int 2)) dNil))))))) (dCall sp_l_next (dCons (dVar 0) (dCons (dC (.int 6)) dNil)))) (dGN 4))
    (dSeq (dAsg (dCB cTuple (dCons (dFz (dLc (dRng1 (dCons (dVar 4) dNil)) (dGN 6) dYes (dCall spR (dCons (dVar 0) (dCons (dVar 1) (dCons (dOp rSub (dVar 2) (dC (.int 1))) dNil)))) [6])) dNil)) (dGN 5))
    (dRet (dTup (dCons (dOp dIxS (dLstF (dCons (dC (.str "then")) (dCons (dC (.str "either")) dNil))) (dOp rMod (dVar 3) (dC (.int 2)))) (dCons (dVar 5) dNil)))))))))
abbrev N_l_pattern : List Str := ["_law_feed_here", "_law_names_here", "_law_deep", "_law_way", "_law_many", "_law_parts", "_law_k"]
theorem r_l_feed (ds S Q E) (h : sp_l_feed ds S Q E) : t_l_feed (dEnd Q E) (dstart N_l_feed ds) S := by
  obtain ⟨c, rfl, h⟩ := h
  have c1 : CPow 10 18 := by unfold CPow; decide
  simp [t_l_feed, dstart, c1, mergeD, pt, lk, upo_upo]
  intro p hp
  simp [upo_upo]
  refine .same (h p _ hp ⟨_, _, _, rfl, ?_, Int.emod_nonneg _ (by decide), Int.emod_lt_of_pos _ (by decide), by decide, by decide⟩)
  split <;> omega
theorem r_l_leaf (ds S Q E) (h : sp_l_leaf ds S Q E) : t_l_leaf (dEnd Q E) (dstart N_l_leaf ds) S := by
  obtain ⟨p, e0, ws, ms, n, o, rfl, nm, hp, fo, hn, h⟩ := h
  unfold t_l_leaf
  refine dSeq_gen fun R hR => ?_
  simp [dstart]
  refine ⟨p, 8, n, o, rfl, by decide, by decide, hp, fo, by omega, fun v o1 v0 v1 fo1 => ?_⟩
  subst hR
  by_cases c0 : v = 0
  · simp [c0]
    exact .same (h _ o1 (.inl rfl) (fo1.more (by omega)))
  by_cases c1 : v < 3
  · simp [c0, c1]
    refine opt_at (by omega) (by simp; omega) fun y hy => ?_
    refine ⟨p, ms.length, n + 1, o1, rfl, by have := nm.m1; omega, by have := nm.m8; omega, by simp, fo1, by omega, fun u o2 u0 u1 fo2 => ?_⟩
    simp
    refine opt_at u0 (by simpa using u1) fun z hz => ?_
    obtain ⟨m, hm, rfl⟩ := List.mem_map.mp hz
    refine .same (h _ o2 (.inr (.inl ?_)) (fo2.more (by omega)))
    simp at hy
    rcases hy with rfl | rfl
    · exact ⟨"at", m, .inl rfl, hm, rfl⟩
    · exact ⟨"off", m, .inr rfl, hm, rfl⟩
  · simp [c0, c1, catD]
    refine ⟨by have := nm.w8; omega, p, 1 + ws.length, n + 1, o1, rfl, by omega, by have := nm.w8; omega, by simp, fo1, by omega, fun u o2 u0 u1 fo2 => ?_⟩
    simp
    refine opt_at u0 (by simp; omega) fun z hz => ?_
    refine ⟨p, 3, n + 2, o2, rfl, by decide, by decide, by simp, fo2, by omega, fun u' o3 u0' u1' fo3 => ?_⟩
    simp
    refine opt_at u0' (by simpa using u1') fun y hy => ?_
    refine .same (h _ o3 (.inr (.inr ?_)) (fo3.more (by omega)))
    obtain ⟨w, hw, rfl⟩ : ∃ w : Str, (w = "*" ∨ w ∈ ws) ∧ z = .str w := by
      rcases List.mem_cons.mp hz with rfl | hz
      · exact ⟨"*", .inl rfl, rfl⟩
      · obtain ⟨w, hw, rfl⟩ := List.mem_map.mp hz
        exact ⟨w, .inr hw, rfl⟩
    simp at hy
    rcases hy with rfl | rfl
    · exact ⟨"on", w, .inl rfl, hw, rfl⟩
    · exact ⟨"back", w, .inr rfl, hw, rfl⟩
theorem r_l_pattern (k : Nat) (ds S Q E) (h : sp_l_pattern k ds S Q E) : t_l_pattern (prevSp sp_l_pattern k) (dEnd Q E) (dstart N_l_pattern ds) S := by
  obtain ⟨p, e0, j, ws, ms, n, o, rfl, nm, hj, hp, fo, hn, h⟩ := h
  have c4 : 4 ≤ costP k := by cases k <;> simp [costP]; omega
  unfold t_l_pattern
  refine dSeq_gen fun R hR => ?_
  simp [dstart]
  refine ⟨p, 8, n, o, rfl, by decide, by decide, hp, fo, by omega, fun v o1 v0 v1 fo1 => ?_⟩
  subst hR
  refine dSeq_gen fun R hR => ?_
  have leaf : sp_l_leaf [.ref p, nmsD e0 ws ms] (upo S p o1) (Rt Q) fun C fs S' => ∃ S'', Sub S'' S' ∧ E C fs S'' :=
    ⟨p, e0, ws, ms, n + 1, o1, rfl, nm, upo_same, fo1, by omega, fun d o' a b => .same (by rw [upo_upo]; exact h d o' (a.pat k) (b.more (by omega)))⟩
  by_cases c0 : j = 0
  · simp [c0]
    exact leaf
  by_cases c1 : v < 2
  · simp [c0, c1]
    exact leaf
  simp [c0, c1]
  subst hR
  obtain ⟨m, rfl⟩ : ∃ m, k = m + 1 := ⟨k - 1, by omega⟩
  have hc : costP (m + 1) = 5 + 3 * costP m := rfl
  have ej : (j : Int) - 1 = ((j - 1 : Nat) : Int) := by omega
  by_cases c2 : v < 4
  · simp [c2, ej]
    refine ⟨p, e0, j - 1, ws, ms, n + 1, o1, rfl, nm, by omega, by simp, fo1, by omega, fun d o' a b => ?_⟩
    simp
    exact .same (h _ o' (.inr (.inl ⟨d, rfl, a⟩)) (b.more (by omega)))
  simp [c2]
  refine ⟨p, 6, n + 1, o1, rfl, by decide, by decide, by simp, fo1, by omega, fun u o2 u0 u1 fo2 => ?_⟩
  simp
  refine opt_at u0 (by simpa using u1) fun y hy => ?_
  obtain ⟨M, hM, rfl⟩ : ∃ M : Nat, M ≤ 3 ∧ y = .int (M : Nat) := by
    simp only [List.mem_cons, List.not_mem_nil, or_false] at hy
    rcases hy with rfl | rfl | rfl | rfl | rfl | rfl
    · exact ⟨2, by decide, rfl⟩
    · exact ⟨1, by decide, rfl⟩
    · exact ⟨3, by decide, rfl⟩
    · exact ⟨0, by decide, rfl⟩
    · exact ⟨2, by decide, rfl⟩
    · exact ⟨2, by decide, rfl⟩
  simp
  refine ⟨by omega, ?_⟩
  refine lcF_inv (fun i acc S1 => acc.length = i ∧ (∀ e ∈ acc, IsPat ws ms m e) ∧ ∃ o3, S1 = upo S p o3 ∧ FeedOb (n + 2 + i * costP m) o3) ⟨rfl, (fun _ z => nomatch z), o2, rfl, fo2.more (by omega)⟩ (fun _ _ _ _ _ _ _ => trivial) ?_ (by simp [rngD]; omega) ?_
  · rintro i d acc S1 q N hd ⟨g1, g2, o3, rfl, fo3⟩ hq ha hN
    have hi : i < M := by
      have := (List.getElem?_eq_some_iff.mp hd).1
      simp [rngD] at this
      exact this
    have im : i * costP m + costP m ≤ 3 * costP m := by
      rw [← Nat.succ_mul]
      exact Nat.mul_le_mul_right _ (by omega)
    have npq : p ≠ q := fun z => by subst z; simp at hq
    simp [ej]
    refine ⟨p, e0, j - 1, ws, ms, n + 2 + i * costP m, o3, rfl, nm, by omega, by rw [upo_ne npq]; simp, fo3, by omega, fun d' o4 a b => ?_⟩
    rw [upo_comm npq.symm]
    simp
    refine ⟨ha, hN _ _ ?_ ⟨by simp [g1], fun z hz => ?_, o4, rfl, ?_⟩ (by simp)⟩
    · rw [upo_ne npq.symm]
      rw [upo_ne npq.symm] at hq
      exact hq
    · rcases List.mem_append.mp hz with z' | z'
      · exact g2 z z'
      · rw [List.mem_singleton.mp z']; exact a
    · rw [Nat.succ_mul, ← Nat.add_assoc]; exact b
  · rintro acc S1 ⟨g1, g2, o3, rfl, fo3⟩
    have g1' : acc.length = M := by rw [g1]; simp [rngD]
    have im : M * costP m ≤ 3 * costP m := Nat.mul_le_mul_right _ hM
    simp
    refine opt_at (by omega) (by simp; omega) fun y hy => ?_
    refine .same (h _ o3 (.inr (.inr ?_)) (fo3.more (by simp [rngD]; omega)))
    simp at hy
    rcases hy with rfl | rfl
    · exact ⟨"then", acc, rfl, .inl rfl, by omega, g2⟩
    · exact ⟨"either", acc, rfl, .inr rfl, by omega, g2⟩
theorem upo_none {S : DH} {p q : Addr} {o : Ob} (h : upo S p o q = none) : q ≠ p ∧ S q = none := by
  unfold upo at h
  split at h
  · cases h
  · rename_i e
    exact ⟨e, h⟩
theorem r_l_names (ds S Q E) (h : sp_l_names ds S Q E) : t_l_names (dEnd Q E) (dstart N_l_names ds) S := by
  obtain ⟨p, m, n, o, rfl, hm, hp, fo, hn, h⟩ := h
  have l26 : (Str.ofString "abcdefghijklmnopqrstuvwxyz").cps.toList.length = 26 := by decide +kernel
  have l26' : (Str.ofString "abcdefghijklmnopqrstuvwxyz").length = 26 := by decide +kernel
  have l0 : (Str.ofString "").length = 0 := by decide +kernel
  unfold t_l_names
  refine dSeq_gen fun R hR => ?_
  simp [dstart]
  subst hR
  refine dSeq_gen fun R hR => ?_
  simp
  refine lcF_inv (fun i acc S1 => ∃ ys : List Str, acc = ys.map D.str ∧ ys.length = i ∧ (∀ y ∈ ys, ∃ c, y = ⟨#[c]⟩ ∧ 97 ≤ c ∧ c ≤ 122) ∧ ∃ o1, S1 = upo S p o1 ∧ FeedOb (n + i) o1) ⟨[], rfl, rfl, (fun _ h => nomatch h), o, (upo_id hp).symm, fo⟩ (fun _ _ _ _ _ _ _ => trivial) ?_ (by simp [rngD]) ?_
  · rintro i d acc S1 q N hd ⟨ys, rfl, e2, e3, o1, rfl, fo1⟩ hq ha hN
    obtain ⟨j', hj', rfl⟩ := rng_at hd (by omega)
    have hj : i < 8 := by
      have := (List.getElem?_eq_some_iff.mp hd).1
      simpa [rngD] using this
    have npq : p ≠ q := fun z => by subst z; simp at hq
    have hq' : S q = none := by rw [upo_ne npq.symm] at hq; exact hq
    simp
    refine ⟨p, 26, n + i, o1, rfl, by decide, by decide, by rw [upo_ne npq]; simp, fo1, by omega, fun v o2 v0 v1 fo2 => ?_⟩
    rw [upo_comm npq.symm]
    simp
    refine ⟨by rw [l26']; decide, opt_at v0 (by rw [l26]; omega) fun c hc => ?_⟩
    have hcc := List.all_eq_true.mp (show ((Str.ofString "abcdefghijklmnopqrstuvwxyz").cps.toList.all fun c => decide (97 ≤ c ∧ c ≤ 122)) = true by decide +kernel) c hc
    refine ⟨by simpa using ha, hN _ _ (by rw [upo_ne npq.symm]; exact hq') ⟨ys ++ [⟨#[c]⟩], by simp, by simp [e2], fun y hy => ?_, o2, rfl, fo2⟩ (by simp)⟩
    rcases List.mem_append.mp hy with z | z
    · exact e3 y z
    · exact ⟨c, List.mem_singleton.mp z, of_decide_eq_true hcc⟩
  rintro acc S1 ⟨ys, rfl, e2, e3, o1, rfl, fo1⟩
  have e2' : ys.length = 8 := by simpa [rngD] using e2
  obtain ⟨w, hw⟩ : ∃ w : Str, w = Txt.join (.ofString "") ys := ⟨_, rfl⟩
  have hwl : w.cps.toList.length = 8 ∧ ∀ c ∈ w.cps.toList, 97 ≤ c ∧ c ≤ 122 := by
    have := join_one ys e3
    rw [e2', ← hw] at this
    exact this
  have wl : w.length = 8 := by rw [str_len, hwl.1]
  have hsum : (ys.map (·.length)).sum ≤ 8 := by
    rw [← e2']
    exact sum_le1 ys fun y hy => by
      obtain ⟨c, rfl, _⟩ := e3 y hy
      exact Nat.le_refl 1
  refine ⟨_, _, ys, rfl, rfl, .inl rfl, by rw [l0]; omega, ?_⟩
  rw [← hw]
  subst hR
  refine dSeq_gen fun R hR => ?_
  simp
  refine ⟨p, 3, n + 8, o1, rfl, by decide, by decide, by simp, by simpa [rngD] using fo1, by omega, fun v1 o6 v10 v11 fo6 => ?_⟩
  simp
  subst hR
  refine dSeq_gen fun R hR => ?_
  simp
  refine ⟨p, 8, n + 9, o6, rfl, by decide, by decide, by simp, fo6, by omega, fun t o7 t0 t1 fo7 => ?_⟩
  simp
  obtain ⟨T, rfl⟩ := Int.eq_ofNat_of_zero_le t0
  have hT : T < 8 := by omega
  subst hR
  refine dSeq_gen fun R hR => ?_
  have tail : ∀ (o8 : Ob) (r : Addr) (L : List Str) (a3 a4 a7 a8 a9 a10 : Option D), S r = none → FeedOb (n + 12) o8 → L.length = 8 → (∀ y ∈ L, Nm y) → L.Nodup →
      R (dEnd Q E) [some (.ref p), some (.int (m : Nat)), some (.str "abcdefghijklmnopqrstuvwxyz"), a3, a4, some (.int (T : Nat)), some (.ref r), a7, a8, a9, a10] (upo (upo S p o8) r (.lst (L.map D.str))) := by
    intro o8 r L a3 a4 a7 a8 a9 a10 hr fo8 hl hy hd
    have npr : p ≠ r := fun z => by subst z; rw [hp] at hr; cases hr
    subst hR
    simp [catD]
    refine ⟨by omega, .keep (S := upo S p o8) (Sub.new (by rw [upo_ne npr.symm]; exact hr)) ?_⟩
    have := h (((L.drop T) ++ (L.take T)).take m) o8 (by simp; omega) (fun y hy' => ?_) ?_ fo8
    · simpa using this
    · have := List.mem_of_mem_take hy'
      rcases List.mem_append.mp this with z | z
      · exact hy y (List.mem_of_mem_drop z)
      · exact hy y (List.mem_of_mem_take z)
    · refine List.Sublist.nodup (List.take_sublist _ _) ?_
      have : (L.drop T ++ L.take T).Perm L := List.perm_append_comm.trans (by rw [List.take_append_drop])
      exact this.nodup_iff.mpr hd
  clear hR
  by_cases c0 : v1 = 0
  · simp [c0]
    intro r hr
    obtain ⟨nrp, hr⟩ := upo_none hr
    refine lc_map (fun d => match d with | .int i => .str (cutS w none (some (i + 1))) | _ => .non) _ (by simp) (fun _ => trivial) (fun d hd acc N' hN' hacc => ?_) (by simp [rngD]) ?_
    · simp only [rngD, List.mem_map] at hd
      obtain ⟨k, hk, rfl⟩ := hd
      simp at hN' ⊢
      exact ⟨by rw [wl]; decide, hacc, hN'⟩
    · have eL : (rngD 0 8).map (fun d => match d with | .int i => D.str (cutS w none (some (i + 1))) | _ => D.non) = ((List.range 8).map fun k : Nat => cutS w none (some ((k + 1 : Nat) : Int))).map D.str := by
        simp only [rngD, List.map_map]
        refine List.map_congr_left fun k _ => ?_
        simp
      rw [eL]
      have lens : ∀ k : Nat, k < 8 → (cutS w none (some ((k + 1 : Nat) : Int))).length = k + 1 := fun k hk => by
        rw [str_len, cutS_take, List.length_take, hwl.1]
        omega
      rw [upo_upo]
      refine tail o7 r _ _ _ _ _ _ _ hr (fo7.more (by omega)) (by simp) (fun y hy => ?_) ?_
      · obtain ⟨k, hk, rfl⟩ := List.mem_map.mp hy
        rw [List.mem_range] at hk
        refine ⟨by rw [lens k hk]; omega, by rw [lens k hk]; omega, fun c hc => hwl.2 c ?_⟩
        rw [cutS_take] at hc
        exact List.mem_of_mem_take hc
      · refine nodup_of_map (fun y : Str => y.length) ?_
        rw [List.map_map]
        have e : (List.range 8).map ((fun y : Str => y.length) ∘ fun k : Nat => cutS w none (some ((k + 1 : Nat) : Int))) = (List.range 8).map (· + 1) := List.map_congr_left fun k hk => lens k (List.mem_range.mp hk)
        rw [e]
        decide
  by_cases c1 : v1 = 1
  · simp [c1]
    intro r hr
    obtain ⟨nrp, hr⟩ := upo_none hr
    refine tail o7 r ["on", "back", "at", "off", "stay", "many", "then", "either"] _ _ _ _ _ _ hr (fo7.more (by omega)) rfl (fun y hy => ?_) (by decide +kernel)
    have := List.all_eq_true.mp (show (["on", "back", "at", "off", "stay", "many", "then", "either"] : List Str).all (fun y => decide (1 ≤ y.length) && decide (y.length ≤ 8) && y.cps.toList.all fun c => decide (97 ≤ c ∧ c ≤ 122)) = true by decide +kernel) y hy
    simp only [Bool.and_eq_true, decide_eq_true_eq, List.all_eq_true] at this
    exact ⟨this.1.1, this.1.2, this.2⟩
  · show dIf _ _ _ { dEnd Q E with nx := R (dEnd Q E) } _ _
    simp only [dIf, dTest, dOp, dVar, dC, dEq_int, List.getElem?_cons_succ, List.getElem?_cons_zero, Bool.false_eq_true, if_false]
    simp only [beq_iff_eq, c0, c1, if_false]
    refine dSeq_gen fun R2 hR2 => ?_
    simp
    refine ⟨p, (T : Int) + 1, n + 10, o7, rfl, by omega, by omega, upo_same, fo7, by omega, fun pl o8 pl0 pl1 fo8 => ?_⟩
    subst hR2
    refine dSeq_gen fun R2 hR2 => ?_
    simp
    refine ⟨p, 26, n + 11, o8, rfl, by decide, by decide, upo_same, fo8, by omega, fun st o9 st0 st1 fo9 => ?_⟩
    subst hR2
    simp
    obtain ⟨P, rfl⟩ := Int.eq_ofNat_of_zero_le pl0
    obtain ⟨s0, rfl⟩ := Int.eq_ofNat_of_zero_le st0
    intro r hr
    obtain ⟨nrp, hr⟩ := upo_none hr
    have hP : P ≤ T := by omega
    have hs0 : s0 < 26 := by omega
    obtain ⟨Y, hY⟩ : ∃ Y : Nat → Str, Y = fun k => cutS w none (some (P : Int)) ++ (⟨#[97 + (s0 + 5 * k) % 26]⟩ : Str) ++ cutS w (some ((P + 1 : Nat) : Int)) (some ((T + 1 : Nat) : Int)) := ⟨_, rfl⟩
    have tlY : ∀ k, (Y k).cps.toList = w.cps.toList.take P ++ [97 + (s0 + 5 * k) % 26] ++ (w.cps.toList.drop (P + 1)).take (T + 1 - (P + 1)) := fun k => by
      rw [hY, app_tl, app_tl, cutS_take, cutS_mid _ _ _ (by omega) (by rw [hwl.1]; omega)]
    have lnY : ∀ k, (Y k).length = T + 1 := fun k => by
      rw [str_len, tlY]
      simp [hwl.1]
      omega
    refine loop_inv (fun i τ S' => ∃ a9 a10, τ = [some (.ref p), some (.int (m : Nat)), some (.str "abcdefghijklmnopqrstuvwxyz"), some (.str w), some (.int v1), some (.int (T : Nat)), some (.ref r), some (.int (P : Nat)), some (.int (s0 : Nat)), a9, a10] ∧ S' = upo (upo S p o9) r (.lst (((List.range i).map Y).map D.str)))
      ⟨none, none, rfl, rfl⟩ (fun _ _ _ _ _ => trivial) ?_ ?_
    · rintro i d τ S7 N hd ⟨a9, a10, rfl, rfl⟩ hN
      have hi : i < 8 := by
        have := (List.getElem?_eq_some_iff.mp hd).1
        simpa [rngD] using this
      have ed : d = .int (i : Nat) := by
        obtain ⟨h1, h2⟩ := List.getElem?_eq_some_iff.mp hd
        simp [rngD] at h2
        exact h2.symm
      subst ed
      obtain ⟨J, hJ⟩ : ∃ J, J = (s0 + 5 * i) % 26 := ⟨_, rfl⟩
      have hc : ((s0 : Int) + 5 * (i : Int)) % 26 = (J : Int) := by omega
      have hl := letter_at J (by omega)
      have c1' : CMulW 5 (i : Int) := (show Bd 5 5 by unfold Bd; decide).cm (show Bd 5 (i : Int) by unfold Bd; omega)
      have q1 : (cutS w none (some (P : Int))).length ≤ 8 := Nat.le_trans (cutS_length w _ _) (by rw [wl]; decide)
      have q2 : ∀ lo hi, (cutS w lo hi).length ≤ 8 := fun lo hi => Nat.le_trans (cutS_length w _ _) (by rw [wl]; decide)
      have q3 : (cutS w none (some (P : Int)) ++ (⟨#[97 + J]⟩ : Str)).length ≤ 9 := by
        rw [str_len, app_tl, List.length_append, ← str_len]
        simpa using q1
      simp [c1', hc, l26', atI_nat hl, wl]
      refine ⟨by have := q1; show _ + 1 ≤ _; omega, by have := q2 (some ((P : Int) + 1)) (some ((T : Int) + 1)); omega, by omega, hN _ _ ⟨_, _, rfl, ?_⟩⟩
      rw [List.range_succ, List.map_append, List.map_append, hY]
      simp only [List.map_cons, List.map_nil, List.map_map]
      rw [← hJ]
      rfl
    · rintro τ S7 ⟨a9, a10, rfl, rfl⟩
      refine tail o9 r _ _ _ _ _ _ _ hr (fo9.more (by omega)) (by simp [rngD]) (fun y hy => ?_) ?_
      · obtain ⟨k, hk, rfl⟩ := List.mem_map.mp hy
        refine ⟨by rw [lnY]; omega, by rw [lnY]; omega, fun c hc => ?_⟩
        rw [tlY] at hc
        rcases List.mem_append.mp hc with z | z
        · rcases List.mem_append.mp z with z | z
          · exact hwl.2 c (List.mem_of_mem_take z)
          · rw [List.mem_singleton.mp z]; omega
        · exact hwl.2 c (List.mem_of_mem_drop (List.mem_of_mem_take z))
      · refine nodup_of_map (fun y : Str => y.cps.toList.getD P 0) ?_
        rw [List.map_map, show (rngD 0 8).length = 8 by simp [rngD]]
        have e : (List.range 8).map ((fun y : Str => y.cps.toList.getD P 0) ∘ Y) = (List.range 8).map fun k => 97 + (s0 + 5 * k) % 26 := List.map_congr_left fun k _ => by
          show (Y k).cps.toList.getD P 0 = _
          have hPl : (w.cps.toList.take P).length = P := by rw [List.length_take, hwl.1]; omega
          rw [tlY, List.append_assoc, List.getD_eq_getElem?_getD, List.getElem?_append_right (by omega), hPl, Nat.sub_self]
          rfl
        rw [e]
        exact signs_apart s0 hs0
end Sh
set_option maxRecDepth 100000
set_option maxHeartbeats 4000000
/-! ShP: what stands in a pattern. -/
namespace Sh
open PySem PySem.Spec L2 Dt
@[simp] theorem ptD_0 (p : Pt) : ∃ r, ptD p = .tup r := by cases p <;> exact ⟨_, rfl⟩
def sp_parts_of : DSp := fun ds S Q _ => ∃ p : Pt, ds = [ptD p] ∧ Q (.rol (ptDs p.kids)) S
def sp_all_parts : DSp := fun ds S Q _ => ∃ p : Pt, ds = [ptD p] ∧ p.all.length ≤ 100000 ∧ ∀ L : List Pt, L.Perm p.all → Q (.rol (ptDs L)) S
def sp_parts_in : DSp := fun ds S Q _ => ∃ p : Pt, ds = [ptD p] ∧ p.all.length ≤ 100000 ∧ Q (.int (p.all.length : Nat)) S
def sp_leaves_in : DSp := fun ds S Q _ => ∃ p : Pt, ds = [ptD p] ∧ p.all.length ≤ 100000 ∧ Q (.int ((p.all.filter Pt.isLeaf).length : Nat)) S
end Sh
namespace Dt
open PySem PySem.Spec L2
/-- the words of steps, the marks -/
def Pt.word? : Pt → Option Str
  | .step _ w => some w
  | _ => none
def Pt.mark? : Pt → Option Str
  | .mark _ m => some m
  | _ => none
def Pt.words (p : Pt) : List Str := (p.all.filterMap Pt.word?).filter fun w => !decide (w = "*")
def Pt.marks (p : Pt) : List Str := p.all.filterMap Pt.mark?
end Dt
namespace Sh
open PySem PySem.Spec L2 Dt
/-- new lists -/
def sp_words_in : DSp := fun ds S Q _ => ∃ p : Pt, ds = [ptD p] ∧ p.all.length ≤ 4000 ∧ p.okP Nm ∧ ∀ q, S q = none → Q (.ref q) (upo S q (.lst (ssD (p.words.map D.str))))
def sp_marks_in : DSp := fun ds S Q _ => ∃ p : Pt, ds = [ptD p] ∧ p.all.length ≤ 4000 ∧ p.okP Nm ∧ ∀ q, S q = none → Q (.ref q) (upo S q (.lst (ssD (p.marks.map D.str))))
def t_parts_of : DTS := (dSeq (dIf (dTest (dOp (dEq false) (dOp dIxS (dVar 0) (dC (.int 0))) (dC (.str "many"))))
      (dRet (dLstF (dCons (dOp dIxS (dVar 0) (dC (.int 1))) dNil)))
      dNx)
    (dSeq (dIf (dTest (dOp (dIn false) (dOp dIxS (dVar 0) (dC (.int 0))) (dTup (dCons (dC (.str "then")) (dCons (dC (.str "either")) dNil)))))
      (dRet (dCB cListF (dCons (dOp dIxS (dVar 0) (dC (.int 1))) dNil)))
      dNx)
    (dRet (dLstF dNil))))
abbrev N_parts_of : List Str := ["pattern"]
def t_all_parts : DTS := (dSeq (dAsg (dLst (dCons (dVar 0) dNil)) (dGN 1))
    (dSeq (dAsg (dC (.int 0)) (dGN 2))
    (dSeq (dWhile (dTest (dOp rLt (dVar 2) (dCB cLen (dCons (dVar 1) dNil))))
      (dSeq (dDrop (dBM "list" mExtend (dVar 1) (dCons (dCall sp_parts_of (dCons (dOp dIxS (dVar 1) (dVar 2)) dNil)) dNil)))
    (dAsg (dOp dAddF (dVar 2) (dC (.int 1))) (dGN 2))))
    (dRet (dVar 1)))))
abbrev N_all_parts : List Str := ["pattern", "found", "at"]
def t_parts_in : DTS := (dRet (dCB cLen (dCons (dCall sp_all_parts (dCons (dVar 0) dNil)) dNil)))
abbrev N_parts_in : List Str := ["pattern"]
def t_leaves_in : DTS := (dRet (dCB cLen (dCons (dFz (dLc (dSeqI (dCall sp_all_parts (dCons (dVar 0) dNil))) (dGN 1) (dTest (dOp (dIn false) (dOp dIxS (dVar 1) (dC (.int 0))) (dTup (dCons (dC (.str "stay")) (dCons (dC (.str "step")) (dCons (dC (.str "at")) (dCons (dC (.str "off")) dNil))))))) (dVar 1) [1])) dNil)))
abbrev N_leaves_in : List Str := ["pattern", "part"]
def t_words_in : DTS := (dSeq (dAsg (dFz (dLc (dSeqI (dCall sp_all_parts (dCons (dVar 0) dNil))) (dGN 2) (dTest (dOp (dEq false) (dOp dIxS (dVar 2) (dC (.int 0))) (dC (.str "step")))) (dOp dIxS (dVar 2) (dC (.int 2))) [2])) (dGN 1))
    (dRet (dSortSetM (dFz (dLc (dSeqI (dVar 1)) (dGN 3) (dTest (dOp (dEq true) (dVar 3) (dC (.str "*")))) (dVar 3) [3])))))
abbrev N_words_in : List Str := ["pattern", "words", "part", "word"]
def t_marks_in : DTS := (dRet (dSortSetM (dFz (dLc (dSeqI (dCall sp_all_parts (dCons (dVar 0) dNil))) (dGN 1) (dTest (dOp (dIn false) (dOp dIxS (dVar 1) (dC (.int 0))) (dTup (dCons (dC (.str "at")) (dCons (dC (.str "off")) dNil))))) (dOp dIxS (dVar 1) (dC (.int 1))) [1]))))
abbrev N_marks_in : List Str := ["pattern", "part"]
theorem ptDs_len (ps : List Pt) : (ptDs ps).length = ps.length := by rw [ptDs_map, List.length_map]
theorem ptDs_at {ps : List Pt} {j : Nat} (h : j < ps.length) : (ptDs ps)[j]? = some (ptD ps[j]) := by rw [ptDs_map, List.getElem?_map, List.getElem?_eq_getElem h]; rfl
theorem ptDs_app (ps qs : List Pt) : ptDs (ps ++ qs) = ptDs ps ++ ptDs qs := by simp [ptDs_map]
def hd0 (d : D) : D := match d with | .tup (x :: _) => x | _ => .non
def at1 (d : D) : D := match d with | .tup (_ :: x :: _) => x | _ => .non
def at2 (d : D) : D := match d with | .tup (_ :: _ :: x :: _) => x | _ => .non
def isStep (p : Pt) : Bool := match p with | .step _ _ => true | _ => false
def isMark (p : Pt) : Bool := match p with | .mark _ _ => true | _ => false
def theName (p : Pt) : Str := match p with | .step _ w => w | .mark _ m => m | _ => ""
/-! ### drawn patterns as trees -/
/-- how many a drawn pattern is of at most -/
def szP : Nat → Nat
  | 0 => 1
  | n + 1 => 1 + 3 * szP n
theorem deeps_le {b : Nat} : ∀ {ps : List Pt}, (∀ p ∈ ps, p.deep ≤ b) → Pt.deeps ps ≤ b
  | [], _ => by simp [Pt.deeps_nil]
  | p :: ps, h => by
    have h1 := h p (List.mem_cons_self ..)
    have h2 := deeps_le fun q hq => h q (List.mem_cons_of_mem _ hq)
    rw [Pt.deeps_cons]
    omega
theorem deeps_mem : ∀ {ps : List Pt} {p : Pt}, p ∈ ps → p.deep ≤ Pt.deeps ps
  | q :: ps, p, h => by
    rw [Pt.deeps_cons]
    rcases List.mem_cons.mp h with rfl | h
    · omega
    · have := deeps_mem h
      omega
end Sh
set_option maxRecDepth 100000
set_option maxHeartbeats 4000000
/-! ShM: machines: stands, moves; come_to, stepped. -/
namespace Sh
open PySem PySem.Spec L2 Dt
/-- a plain text -/
def okS (x : Str) : Prop := PyData.strOk x = true
theorem okS.sm {x : Str} {n : Nat} (h : okS x) : Sm n (.str x) := ⟨h, Nat.zero_le _⟩
theorem int_sm (i : Int) (n : Nat) : Sm n (.int i) := ⟨rfl, Nat.zero_le _⟩
theorem Nm.okS {x : Str} (h : Nm x) : okS x := nm_ok h
/-- a move -/
structure Mv where
  a : Nat
  p : Pt
  b : Nat
def mvD (m : Mv) : D := .tup [.int m.a, ptD m.p, .int m.b]
abbrev natsD (xs : List Nat) : List D := xs.map fun x : Nat => D.int (x : Int)
abbrev strsD (xs : List Str) : List D := xs.map D.str
structure OkMv (m : Mv) : Prop where
  leaf : m.p.isLeaf = true
  ok : m.p.okP okS
def mcD (x y z : D) (mv : List Mv) : D := .tup [x, y, z, .tup (mv.map mvD)]
def holdsP (ms : List Str) (p : Pt) : Bool := match p with
  | .stay => true
  | .mark b m => decide (m ∈ ms) == b
  | _ => false
def fitsP (side word : Str) (p : Pt) : Bool := match p with
  | .step b w => decide ((if b then "on" else "back" : Str) = side) && (decide (w = "*") || decide (w = word))
  | _ => false
/-- what is come to without steps -/
inductive Come (mv : List Mv) (ms : List Str) (st : List Nat) : Nat → Prop
  | start {x : Nat} : x ∈ st → Come mv ms st x
  | move {m : Mv} : m ∈ mv → Come mv ms st m.a → holdsP ms m.p = true → Come mv ms st m.b
/-- what is come to by a step -/
def ByStep (mv : List Mv) (st : List Nat) (side word : Str) (x : Nat) : Prop := ∃ m ∈ mv, m.a ∈ st ∧ fitsP side word m.p = true ∧ m.b = x
/-! rows of numbers -/
/-! dicts as sets -/
def kset {κ : Type} (ks : List κ) : List (κ × D) := ks.map fun k => (k, .bl true)
section
variable {κ : Type} [DecidableEq κ]
end
abbrev nkeys (xs : List Nat) : List Key := xs.map fun x : Nat => Sum.inl (x : Int)
/-! specs -/
def sp_holds_at : DSp := fun ds S Q _ => ∃ (p : Pt) (ms : List Str), ds = [ptD p, .rol (strsD ms)] ∧ p.isLeaf = true ∧ p.okP okS ∧ (∀ m ∈ ms, okS m) ∧ Q (.bl (holdsP ms p)) S
def sp_is_step_by : DSp := fun ds S Q _ => ∃ (p : Pt) (side word : Str), ds = [ptD p, .str side, .str word] ∧ p.isLeaf = true ∧ Q (.bl (fitsP side word p)) S
def sp_come_to : DSp := fun ds S Q _ => ∃ (x y z : D) (mv : List Mv) (st : List Nat) (ms : List Str), ds = [mcD x y z mv, .tup (natsD st), .rol (strsD ms)] ∧ (∀ m ∈ mv, OkMv m) ∧ (∀ m ∈ ms, okS m) ∧ st.length + mv.length ≤ 100000 ∧
  ∀ L : List Nat, L.Pairwise (· < ·) → (∀ n, n ∈ L ↔ Come mv ms st n) → Q (.tup (natsD L)) S
def sp_stepped : DSp := fun ds S Q _ => ∃ (x y z : D) (mv : List Mv) (st : List Nat) (side word : Str), ds = [mcD x y z mv, .tup (natsD st), .str side, .str word] ∧ (∀ m ∈ mv, OkMv m) ∧ mv.length ≤ 100000 ∧
  ∀ L : List Nat, L.Pairwise (· < ·) → (∀ n, n ∈ L ↔ ByStep mv st side word n) → Q (.tup (natsD L)) S
def t_holds_at : DTS := (dSeq (dIf (dTest (dOp (dEq false) (dOp dIxS (dVar 0) (dC (.int 0))) (dC (.str "at"))))
      (dRet (dOp (dIn false) (dOp dIxS (dVar 0) (dC (.int 1))) (dVar 1)))
      dNx)
    (dSeq (dIf (dTest (dOp (dEq false) (dOp dIxS (dVar 0) (dC (.int 0))) (dC (.str "off"))))
      (dRet (dOp (dIn true) (dOp dIxS (dVar 0) (dC (.int 1))) (dVar 1)))
      dNx)
    (dRet (dOp (dEq false) (dOp dIxS (dVar 0) (dC (.int 0))) (dC (.str "stay"))))))
abbrev N_holds_at : List Str := ["leaf", "marks"]
def t_is_step_by : DTS := (dRet (dAndV (dOp (dEq false) (dOp dIxS (dVar 0) (dC (.int 0))) (dC (.str "step"))) (dAndV (dOp (dEq false) (dOp dIxS (dVar 0) (dC (.int 1))) (dVar 1)) (dOp (dIn false) (dOp dIxS (dVar 0) (dC (.int 2))) (dTup (dCons (dC (.str "*")) (dCons (dVar 2) dNil)))))))
abbrev N_is_step_by : List Str := ["leaf", "side", "word"]
def t_come_to : DTS := (dSeq (dAsg dDnK (dGN 3))
    (dSeq (dFor (dSeqI (dVar 1)) (dGN 4)
      (dPut (dVar 3) (dVar 4) (dC (.bl true))))
    (dSeq (dAsg (dCB cListA (dCons (dVar 3) dNil)) (dGN 5))
    (dSeq (dWhile (dTest (dOp (dEq true) (dVar 5) (dLstF dNil)))
      (dSeq (dAsg (dBM "list" mPop (dVar 5) dNil) (dGN 6))
    (dFor (dSeqI (dOp dIxS (dVar 0) (dC (.int 3)))) (dGTup 3 (dGCons (dGN 7) (dGCons (dGN 8) (dGCons (dGN 9) dGNil))))
      (dIf (dAnd (dTest (dOp (dEq false) (dVar 7) (dVar 6))) (dAnd (dTest (dOp (dIn true) (dVar 9) (dVar 3))) (dTest (dCall sp_holds_at (dCons (dVar 8) (dCons (dVar 2) dNil))))))
      (dSeq (dPut (dVar 3) (dVar 9) (dC (.bl true)))
    (dDrop (dBM "list" mAppend (dVar 5) (dCons (dVar 9) dNil))))
      dNx))))
    (dRet (dCB cTuple (dCons (dCB cSortAF (dCons (dVar 3) dNil)) dNil)))))))
abbrev N_come_to : List Str := ["machine", "stands", "marks", "met", "stand", "line", "here", "one", "leaf", "other"]
def t_stepped : DTS := (dSeq (dAsg dDnK (dGN 4))
    (dSeq (dFor (dSeqI (dOp dIxS (dVar 0) (dC (.int 3)))) (dGTup 3 (dGCons (dGN 5) (dGCons (dGN 6) (dGCons (dGN 7) dGNil))))
      (dIf (dAnd (dTest (dOp (dIn false) (dVar 5) (dVar 1))) (dTest (dCall sp_is_step_by (dCons (dVar 6) (dCons (dVar 2) (dCons (dVar 3) dNil))))))
      (dPut (dVar 4) (dVar 7) (dC (.bl true)))
      dNx))
    (dRet (dCB cTuple (dCons (dCB cSortAF (dCons (dVar 4) dNil)) dNil)))))
abbrev N_stepped : List Str := ["machine", "stands", "side", "word", "met", "one", "leaf", "other"]
end Sh
set_option maxRecDepth 100000
set_option maxHeartbeats 4000000
namespace Rc
open PySem PySem.Spec L2
open Sh
open Dt hiding nkeys
/-! ShPt: what is a pattern. -/
def nameB (w : Str) : Bool := decide (1 ≤ w.length) && decide (w.length ≤ 8) && w.cps.toList.all fun c => decide (c ∈ (Str.ofString "abcdefghijklmnopqrstuvwxyz").cps.toList)
def sp_is_name : DSp := fun ds S Q _ => ∃ w : Str, ds = [.str w] ∧ w.length ≤ 1000000 ∧ Q (.bl (nameB w)) S
def sp_is_one_of : DSp := fun ds S Q _ => ∃ (x : Str) (l : List Str) (d : D), ds = [.str x, d] ∧ (d = .rol (strsD l) ∨ d = .tup (strsD l)) ∧ okS x ∧ (∀ y ∈ l, okS y) ∧ Q (.bl (decide (x ∈ l))) S
def sp_is_word : DSp := fun ds S Q _ => ∃ w : Str, ds = [.str w] ∧ w.length ≤ 1000000 ∧ okS w ∧ Q (.bl (nameB w || decide (w = "*"))) S
def sp_is_leaf : DSp := fun ds S Q _ => ∃ p : Pt, ds = [ptD p] ∧ p.okP Nm ∧ Q (.bl p.isLeaf) S
/-- not too much right within one -/
def Pt.few (p : Pt) : Prop := ∀ q ∈ p.all, q.kids.length ≤ 39
def sp_parts_right : DSp := fun ds S Q _ => ∃ p : Pt, ds = [ptD p] ∧ p.okP Nm ∧ p.kids.length ≤ 39 ∧ Q (.rol (ptDs p.kids)) S
def sp_is_pattern : DSp := fun ds S Q _ => ∃ p : Pt, ds = [ptD p] ∧ p.okP Nm ∧ Pt.few p ∧ p.all.length ≤ 40 ∧ p.deep ≤ 10 ∧ Q (.bl true) S
theorem okS_lit : okS "stay" ∧ okS "step" ∧ okS "at" ∧ okS "off" ∧ okS "on" ∧ okS "back" ∧ okS "many" ∧ okS "then" ∧ okS "either" := by
  unfold okS
  decide +kernel
theorem okS_star : okS "*" := by unfold okS; decide +kernel
theorem dSeqWhile_gen {c : DTT} {tb r : DTS} {A : DEnds} {τ : DSt} {S : DH} (h : ∀ B R, B = tb → R = r → dSeq (dWhile c B) R A τ S) : dSeq (dWhile c tb) r A τ S := h tb r rfl rfl
theorem deeps_mem {k : Pt} : ∀ {ps : List Pt}, k ∈ ps → k.deep ≤ Pt.deeps ps
  | p :: ps, h => by
    rw [Pt.deeps_cons]
    rcases List.mem_cons.mp h with rfl | z
    · omega
    · have := deeps_mem z
      omega
theorem kid_deep {t k : Pt} (h : k ∈ t.kids) : k.deep + 1 ≤ t.deep := by
  cases t with
  | seq b ps => have := deeps_mem (ps := ps) h; rw [Pt.deep_seq]; omega
  | many p => rw [List.mem_singleton.mp h, Pt.deep_many]; omega
  | _ => cases h
def t_is_name : DTS := (dSeq (dIf (dOr (dNot (dTest (dIsi "str" (dVar 0)))) (dOr (dTest (dOp rLt (dCB cLen (dCons (dVar 0) dNil)) (dC (.int 1)))) (dTest (dOp rGt (dCB cLen (dCons (dVar 0) dNil)) (dC (.int 8))))))
      (dRet (dC (.bl false)))
      dNx)
    (dRet (dCB cAll (dCons (dFz (dLc (dSeqI (dVar 0)) (dGN 1) dYes (dOp (dInS false) (dVar 1) (dC (.str "abcdefghijklmnopqrstuvwxyz"))) [1])) dNil))))
abbrev N_is_name : List Str := ["thing", "sign"]
def t_is_one_of : DTS := (dRet (dAndV (dIsi "str" (dVar 0)) (dOp (dIn false) (dVar 0) (dVar 1))))
abbrev N_is_one_of : List Str := ["thing", "some"]
def t_is_word : DTS := (dRet (dOrV (dCall sp_is_name (dCons (dVar 0) dNil)) (dAndV (dIsi "str" (dVar 0)) (dOp (dEq false) (dVar 0) (dC (.str "*"))))))
abbrev N_is_word : List Str := ["thing"]
def t_is_leaf : DTS := (dSeq (dIf (dOr (dNot (dTest (dIsi "tuple" (dVar 0)))) (dTest (dOp (dEq false) (dCB cLen (dCons (dVar 0) dNil)) (dC (.int 0)))))
      (dRet (dC (.bl false)))
      dNx)
    (dSeq (dIf (dTest (dCall sp_is_one_of (dCons (dOp dIxS (dVar 0) (dC (.int 0))) (dCons (dLstF (dCons (dC (.str "stay")) dNil)) dNil))))
      (dRet (dOp (dEq false) (dCB cLen (dCons (dVar 0) dNil)) (dC (.int 1))))
      dNx)
    (dSeq (dIf (dTest (dCall sp_is_one_of (dCons (dOp dIxS (dVar 0) (dC (.int 0))) (dCons (dLstF (dCons (dC (.str "step")) dNil)) dNil))))
      (dRet (dAndV (dOp (dEq false) (dCB cLen (dCons (dVar 0) dNil)) (dC (.int 3))) (dAndV (dCall sp_is_one_of (dCons (dOp dIxS (dVar 0) (dC (.int 1))) (dCons (dC (.tup [.str "on", .str "back"])) dNil))) (dCall sp_is_word (dCons (dOp dIxS (dVar 0) (dC (.int 2))) dNil)))))
      dNx)
    (dRet (dAndV (dCall sp_is_one_of (dCons (dOp dIxS (dVar 0) (dC (.int 0))) (dCons (dLstF (dCons (dC (.str "at")) (dCons (dC (.str "off")) dNil))) dNil))) (dAndV (dOp (dEq false) (dCB cLen (dCons (dVar 0) dNil)) (dC (.int 2))) (dCall sp_is_name (dCons (dOp dIxS (dVar 0) (dC (.int 1))) dNil))))))))
abbrev N_is_leaf : List Str := ["thing"]
def t_parts_right : DTS := (dSeq (dIf (dTest (dCall sp_is_leaf (dCons (dVar 0) dNil)))
      (dRet (dLstF dNil))
      dNx)
    (dSeq (dIf (dOr (dNot (dTest (dIsi "tuple" (dVar 0)))) (dTest (dOp (dEq true) (dCB cLen (dCons (dVar 0) dNil)) (dC (.int 2)))))
      (dRet (dC .non))
      dNx)
    (dSeq (dIf (dTest (dCall sp_is_one_of (dCons (dOp dIxS (dVar 0) (dC (.int 0))) (dCons (dLstF (dCons (dC (.str "many")) dNil)) dNil))))
      (dRet (dLstF (dCons (dOp dIxS (dVar 0) (dC (.int 1))) dNil)))
      dNx)
    (dSeq (dIf (dOr (dNot (dTest (dCall sp_is_one_of (dCons (dOp dIxS (dVar 0) (dC (.int 0))) (dCons (dLstF (dCons (dC (.str "then")) (dCons (dC (.str "either")) dNil))) dNil))))) (dNot (dTest (dIsi "tuple" (dOp dIxS (dVar 0) (dC (.int 1)))))))
      (dRet (dC .non))
      dNx)
    (dSeq (dIf (dTest (dOp rGt (dCB cLen (dCons (dOp dIxS (dVar 0) (dC (.int 1))) dNil)) (dC (.int 39))))
      (dRet (dC .non))
      dNx)
    (dRet (dCB cListAF (dCons (dOp dIxS (dVar 0) (dC (.int 1))) dNil))))))))
abbrev N_parts_right : List Str := ["thing"]
def t_is_pattern : DTS := (dSeq (dAsg (dLst (dCons (dTup (dCons (dVar 0) (dCons (dC (.int 1)) dNil))) dNil)) (dGN 1))
    (dSeq (dAsg (dC (.int 0)) (dGN 2))
    (dSeq (dWhile (dTest (dOp rGt (dCB cLen (dCons (dVar 1) dNil)) (dC (.int 0))))
      (dSeq (dAsg (dBM "list" mPop (dVar 1) dNil) (dGTupA 2 (dGCons (dGN 3) (dGCons (dGN 4) dGNil))))
    (dSeq (dAsg (dOp dAddF (dVar 2) (dC (.int 1))) (dGN 2))
    (dSeq (dAsg (dCall sp_parts_right (dCons (dVar 3) dNil)) (dGN 5))
    (dSeq (dIf (dOr (dTest (dOp (dIsN false) (dVar 5) (dC .non))) (dOr (dTest (dOp rGt (dVar 4) (dC (.int 10)))) (dTest (dOp rGt (dVar 2) (dC (.int 40))))))
      (dRet (dC (.bl false)))
      dNx)
    (dDrop (dBM "list" mExtend (dVar 1) (dCons (dFz (dLc (dSeqI (dVar 5)) (dGN 6) dYes (dTup (dCons (dVar 6) (dCons (dOp dAddF (dVar 4) (dC (.int 1))) dNil))) [6])) dNil))))))))
    (dRet (dC (.bl true))))))
abbrev N_is_pattern : List Str := ["thing", "left", "count", "part", "deep", "some", "one"]
end Rc
set_option maxRecDepth 100000
set_option maxHeartbeats 4000000
namespace Dt
open PySem PySem.Spec L2 PySem.W PyProof.Rows
section
variable {X : Cx} {pins : List (Addr × Obj)} {σ : L2.St} {H : Hp} {s : Shared} {a : Addr} {u : HO}
theorem LeH.thaw {H' : Hp} (le : LeH H H') (e : H a = some u) (mu : Mut (some u)) {v : HO} : LeH H (upd H' a v) :=
  ⟨fun p xs z => by rw [upd_ne (fun q => by rw [q, e] at z; cases z; exact mu)]; exact le.tup p xs z, fun p o w z => by rw [upd_ne (fun q => by rw [q, e] at z; cases z; exact mu)]; exact le.fz p o w z⟩
theorem LeW.thaw {o : Obj} (e : H a = some (.frz o u)) (mu : Mut (some u)) (nl : ∀ xs, u ≠ .lst xs) {v : HO} : LeW H (upd H a v) :=
  ⟨fun p xs z => by rw [upd_ne (fun q => by rw [q, e] at z; cases z)]; exact z, fun p o xs z => by rw [upd_ne (fun q => by rw [q, e] at z; cases z; exact nl _ rfl)]; exact z, fun p o xs z => by rw [upd_ne (fun q => by rw [q, e] at z; cases z; exact mu)]; exact z⟩
/-- the keys of the locked dict at d, as a row -/
def Itz (d : Addr) (o : Obj) (u : HO) (xs : List V) : It :=
  ⟨fun i H => H d = some (.frz o u) ∧ i < xs.length, fun i H x H' => H' = H ∧ xs[i]? = some x, fun i H => H d = some (.frz o u) ∧ xs.length ≤ i⟩
theorem vals_at : ∀ {xs : List V} {us : List Value} {i : Nat} {x : V}, Vals xs us → xs[i]? = some x → ∃ v, us[i]? = some v ∧ RelV x v
  | _, _, i, x, .nil, h => by simp at h
  | _, _, 0, x, .cons r _, h => by simp at h; subst h; exact ⟨_, rfl, r⟩
  | _, _, i + 1, x, .cons _ t, h => by simp at h; simpa using vals_at t h
theorem turn_z {P : Program} {w : World} {K : PySem.W.Frag} {tg : Expr} {d : Addr} {o : Obj} {es : Array DictEntry} {ep : Nat} {xs : List V} (it : Addr) (hod : o.data = .dict es ep) (hv : Vals xs (es.toList.map (·.key))) :
    Turn P w K tg (Itz d o u xs) [it] it (fun i h => h.IsKeyIter it d i xs.length ep) where
  mem := by simp
  obj := fun i h st b hb => by
    have e : b = it := by simpa using hb
    subst e
    obtain ⟨oi, e, c, dd⟩ := st
    exact ⟨oi, e, fun v z => by rw [dd] at z; cases z⟩
  keep := fun i h h' st k => st.at fun oi e => k it (by simp) oi e
  item := by
    intro X hP hw hK hc i pins s σ H E I hf st hg
    subst hP hw hK
    obtain ⟨hd, hi⟩ := hg
    obtain ⟨f0, f1, f2, f3, f4, f5⟩ := hf it (by simp)
    have hgd : s.heap.get? d = some o := (I.hok d _ hd).1
    have hsz : es.size = xs.length := by have := hv.length; simpa using this.symm
    have hx : xs[i]? = some xs[i] := List.getElem?_eq_getElem hi
    obtain ⟨kv, h1, h2⟩ := vals_at hv hx
    rw [List.getElem?_map] at h1
    obtain ⟨en, hen, rfl⟩ := Option.map_eq_some_iff.mp h1
    refine next_key_item st hgd hod hsz (en := en) (by simpa using hen) fun h' st' sb => ?_
    have I1 : Inv X pins σ H { s with heap := h' } := I.turned (t' := s.toks) (fun b ob hb e => (sb.2 b hb).trans e) f0 f1 f3 f4 f5
    obtain ⟨oi, e, c, dd⟩ := id st'
    exact ⟨en.key, rfl, go_of (s := { s with heap := h' }) e c dd (by decide) ⟨xs[i], H, I1, h2, ⟨rfl, hx⟩, st', fun b hb => (hf b hb).1⟩⟩
  done := by
    intro X hP hw hK hc i pins s σ H E I hf st hg
    subst hP hw hK
    obtain ⟨hd, hi⟩ := hg
    obtain ⟨f0, f1, f2, f3, f4, f5⟩ := hf it (by simp)
    have hgd : s.heap.get? d = some o := (I.hok d _ hd).1
    have hsz : es.size = xs.length := by have := hv.length; simpa using this.symm
    exact next_key_end (I.ok.hd hc) st hgd hod hsz hi fun h' eb => ⟨rfl, I.turned (t' := s.toks) (fun b ob hb e => eb b ob hb e) f0 f1 f3 f4 f5⟩
  self := fun A i s Q E st h => by
    refine wpAny_pyIter_slot st.typeIs F.slot_dict_keyiterator_iter (wpAny_call_entry F.slot_dict_keyiterator_iter st.typeIs F.entry_dict_keyiterator_iter ?_ (F.args_dict_keyiterator_iter_1 _))
    show wpAny _ _ (ret (.ref it)) _ _ s
    exact wpAny_pure ⟨_, rfl, "dict_keyiterator", _, st.typeIs, F.slot_dict_keyiterator_next.lookup, h⟩
/-- for x in d: d is not written in the meantime -/
def iZ (X : Cx) (td : TE) : TI := fun σ H R => td σ H fun x H1 => ∃ d ob ks, x = .ref d ∧ ROb X.w X.K H1 d ob ∧ keysO ob = some ks ∧
  ∀ o u xs, H1 d = some u → Mut (some u) → RDs X.K H1 ks xs → (∀ o' u', X.H_0 d ≠ some (.frz o' u')) → R (Itz d o u xs) (upd H1 d (.frz o u))
end
section
variable {X : Cx} {elt tg iter : Expr} {ifs : List Expr} {scope : Scope} {own : List (Str × Nat)} {pos spos py : Pos} {g : DTG} {tt : DTT} {te tl : DTE}
/-- [.. for x in d if ..], d a dict that is not written in the meantime (nor read) -/
@[simp] def dLcK (tl : DTE) (g : DTG) (tt : DTT) (te : DTE) (vs : List Nat) : DTE := fun E τ S Q => tl E τ S fun d S1 => match d with
  | .ref a => (match S1 a with
    | some ob => opt (keysO ob) fun ks => ∀ p, S1 p = none → dLcL g tt te DW0 (wipeD τ vs) (fun _ => True) p (fun S' => Q (.ref p) (upo S' a ob)) ks (upo (delo S1 a) p (.lst []))
    | none => False)
  | _ => False
theorem rep_thaw {w : World} {K : PySem.W.Frag} {S : DH} {H : Hp} {a : Addr} {u : HO} {o : Obj} {ob : Ob} (r : Rep w K S H) (e : H a = some (.frz o u)) (le : LeW H (upd H a u)) (n : ROb w K (upd H a u) a ob) : Rep w K (upo S a ob) (upd H a u) := fun b ob' h => by
  by_cases z : b = a
  · subst z
    rw [upo_same] at h
    cases h
    exact n
  · rw [upo_ne z] at h
    exact (r b ob' h).atW le (upd_ne z)
/-- what the comprehension leaves, ahead of the thaw -/
def QZ (X : Cx) (Q : VK) : VK := fun v H' => ∃ (a : Addr) (o : Obj) (u : HO), H' a = some (.frz o u) ∧ (∀ o' u', X.H_0 a ≠ some (.frz o' u')) ∧ Q v (upd H' a u)
end
end Dt
set_option maxRecDepth 100000
set_option maxHeartbeats 4000000
namespace Dt
open PySem PySem.Spec L2 PyProof.Rows
section
variable {X : Cx}
/-! ### count, index, remove: plain data -/
def mCount : RMD := fun d ds S Q => ∃ (y : D) (xs : List D), ds = [y] ∧ seqD S d = some xs ∧ Sm 60 y ∧ (∀ x ∈ xs, Sm 60 x) ∧ Q (.int (xs.count y : Nat)) S
def mIndex : RMD := fun d ds S Q => ∃ (y : D) (xs : List D) (j : Nat), ds = [y] ∧ seqD S d = some xs ∧ Sm 60 y ∧ (∀ x ∈ xs, Sm 60 x) ∧ xs[j]? = some y ∧ (∀ m, m < j → xs[m]? ≠ some y) ∧ Q (.int j) S
theorem toPs_at {xs : List D} {m : Nat} {p : PyData} (h : (toPs xs)[m]? = some p) : ∃ x, xs[m]? = some x ∧ p = toP x := by
  rw [toPs_map, List.getElem?_map] at h
  cases e : xs[m]? with
  | none => rw [e] at h; cases h
  | some x => rw [e] at h; exact ⟨x, rfl, (Option.some.inj h).symm⟩
theorem md_index (hu : X.A.units + 65 < cLine) : MtD X "list.index" mIndex := by
  refine ⟨fun d ds S Q Q' k ⟨y, xs, j, h1, h2, h3, h4, h5, h6, h⟩ => ⟨y, xs, j, h1, h2, h3, h4, h5, h6, k _ _ h⟩, fun pins s σ H x vs v us Q I rx rv ⟨d, ds, S, rep, rd, rds, y, xs, j, h1, h2, h3, h4, h5, h6, h⟩ => ?_⟩
  subst h1
  obtain ⟨u, rfl, ru⟩ := rds1 rds
  obtain ⟨hp, hs⟩ := seqD_pd h2 h4
  have dp := Pd.dp rep _ _ _ hp rd
  obtain ⟨a, xs', ea, _, _⟩ := seqD_rd rep rd h2
  subst ea
  refine mt_indexD hu pins s σ H _ _ v us Q I rx rv ⟨a, u, toP y, toPs xs, j, toP y, rfl, rfl, dp, Pd.dp rep _ _ _ (h3.pd S) ru, hs, h3.shaped (by decide), ?_, ?_, ?_, h _ H (LeH.refl H) rep rfl⟩
  · rw [toPs_map, List.getElem?_map, h5]; rfl
  · rw [eqv_P y y h3.1 h3.1, deq_self]
  · intro m z hm hz
    obtain ⟨x, hx, rfl⟩ := toPs_at hz
    have hxm : x ∈ xs := List.mem_of_getElem? hx
    rw [eqv_P x y (h4 x hxm).1 h3.1, deq_dec]
    exact decide_eq_false fun e => h6 m hm (e ▸ hx)
def mRemove : RMD := fun d ds S Q => mLst ds d S fun xs up => ∃ (y : D) (j : Nat), ds = [y] ∧ Sm 60 y ∧ (∀ x ∈ xs, Sm 60 x) ∧ xs[j]? = some y ∧ (∀ m, m < j → xs[m]? ≠ some y) ∧ Q .non (up (xs.eraseIdx j))
@[simp] def mClear : RMD := fun d ds S Q => mLst ds d S fun xs up => match ds with | [] => Q .non (up []) | _ => False
@[simp] def mPopAt : RMD := fun d ds S Q => mLst ds d S fun xs up => match ds with | [.int i] => (-(2 ^ 63) ≤ i ∧ i < 2 ^ 63) ∧ opt (seqIndex? i xs.length) fun k => opt xs[k]? fun y => Q y (up (xs.eraseIdx k)) | _ => False
/-! ### texts -/
@[simp] def mSplit : RMD := fun d ds S Q => match d, ds with | .str a, [.str b] => (b.length == 0) = false ∧ a.length + 2 ≤ sizeLine ∧ newO S (.lst ((Txt.split a b).map D.str)) fun p S' => Q (.ref p) S' | _, _ => False
@[simp] def cStr : RCD := fun ds S Q => match ds with | [.int i] => i.natAbs.log2 < 1920 ∧ Q (.str (toString i)) S | [.str a] => Q (.str a) S | _ => False
@[simp] def cIntS : RCD := fun ds S Q => match ds with | [.int i] => Q (.int i) S | [.bl b] => Q (.int (if b then 1 else 0)) S | [.str a] => a.length ≤ 640 ∧ opt (PySem.intText? a) fun n => Q (.int n) S | _ => False
end
section
variable {X : Cx} {tg l : Expr} {tl : DTE} {p pos : Pos}
@[simp] def dRev (tl : DTE) : DTI := fun E τ S R => tl E τ S fun d S1 => match d with
  | .tup ds => R (fun _ => True) ds.reverse S1
  | .rol ds => R (fun _ => True) ds.reverse S1
  | .ref a => (match S1 a with | some (.lst ds) => R (fun S => S a = some (.lst ds)) ds.reverse S1 | _ => False)
  | _ => False
theorem rev_at {α : Type} {xs : List α} {i : Nat} (h : i < xs.length) : xs[xs.length - 1 - i]? = xs.reverse[i]? := by
  rw [List.getElem?_reverse h]
theorem feeds_revL {w : World} {K : PySem.W.Frag} {H0 : Hp} {a : Addr} {ds : List D} {G : DH → Prop} (h : ∀ S H, LeH H0 H → Rep w K S H → G S → ∃ xs, SqL K H a xs ∧ RDs K H ds xs) : Feeds w K H0 (Itv K a ds.length) G ds.reverse where
  go := fun i S H le rp g hi => by
    obtain ⟨xs, sq, rs⟩ := h S H le rp g
    have hl := rs.length
    rw [List.length_reverse] at hi
    exact ⟨hi, xs, xs[ds.length - 1 - i]'(by omega), sq, by simp⟩
  yld := fun i S H x H' le rp g hi ⟨e, y⟩ => by
    subst e
    obtain ⟨xs, sq, rs⟩ := h S _ le rp g
    rw [List.length_reverse] at hi
    obtain ⟨d, e, r⟩ := rs.got (y xs sq)
    exact ⟨LeH.refl _, rp, d, by rw [← rev_at hi]; exact e, r⟩
  stop := fun S H le rp g => by
    show ds.length ≤ ds.reverse.length
    simp
theorem feeds_revT {w : World} {K : PySem.W.Frag} {H0 : Hp} {a : Addr} {ds : List D} {G : DH → Prop} (h : ∀ S H, LeH H0 H → Rep w K S H → G S → ∃ xs, SqT K H a xs ∧ RDs K H ds xs) : Feeds w K H0 (RT.ItvT K a ds.length) G ds.reverse where
  go := fun i S H le rp g hi => by
    obtain ⟨xs, sq, rs⟩ := h S H le rp g
    have hl := rs.length
    rw [List.length_reverse] at hi
    exact ⟨hi, xs, xs[ds.length - 1 - i]'(by omega), sq, by simp⟩
  yld := fun i S H x H' le rp g hi ⟨e, y⟩ => by
    subst e
    obtain ⟨xs, sq, rs⟩ := h S _ le rp g
    rw [List.length_reverse] at hi
    obtain ⟨d, e, r⟩ := rs.got (y xs sq)
    exact ⟨LeH.refl _, rp, d, by rw [← rev_at hi]; exact e, r⟩
  stop := fun S H le rp g => by
    show ds.length ≤ ds.reverse.length
    simp
theorem di_rev (hg : Gl X "reversed") (hm : X.mg "reversed" = none) (hl : DE X l tl) (hs : starEach [l] X.env = (false, eval l X.env) :: starEach [] X.env := by rfl) : DI X tg (.Call (.Name "reversed" p) [l] [] pos) (dRev tl) := by
  refine ⟨fun E E' τ S Q Q' he k q => hl.mono _ _ _ _ _ _ he (fun d S1 z => ?_) q, pI_imp (RT.pi_revA hg hm hl.run hs) fun σ H R ⟨E, τ, S, w, r, q⟩ => ?_⟩
  · cases d with
    | tup ds => exact k _ _ _ z
    | rol ds => exact k _ _ _ z
    | ref a =>
      revert z
      show (match S1 a with | some (.lst ds) => _ | _ => False) → (match S1 a with | some (.lst ds) => _ | _ => False)
      split
      · exact k _ _ _
      · exact fun z => z
    | _ => exact z
  · refine hl.to w r q fun d S1 x H1 le w1 r1 rd z => ?_
    cases d with
    | tup ds =>
      obtain ⟨p, ys, rfl, sq, rs⟩ : ∃ p ys, x = V.ref p ∧ SqT X.K H1 p ys ∧ RDs X.K H1 ds ys := rd
      exact ⟨p, ys, rfl, .inr ⟨sq, by rw [← rs.length]; exact z _ H1 le r1.rep (feeds_revT fun S H le rp g => ⟨ys, sqT_le le sq, rs.le le⟩)⟩⟩
    | rol ds =>
      obtain ⟨p, ys, rfl, sq, rs⟩ : ∃ p ys, x = V.ref p ∧ SqR X.K H1 p ys ∧ RDs X.K H1 ds ys := rd
      exact ⟨p, ys, rfl, .inl ⟨sq.l, by rw [← rs.length]; exact z _ H1 le r1.rep (feeds_revL fun S H le rp g => ⟨ys, (sq.le le).l, rs.le le⟩)⟩⟩
    | ref a =>
      cases rd
      revert z
      show (match S1 a with | some (.lst ds) => _ | _ => False) → _
      split
      · rename_i ds ea
        intro z
        obtain ⟨ys, e0, rs⟩ : ∃ ys, H1 a = some (.lst ys) ∧ RDs X.K H1 ds ys := r1.rep a _ ea
        exact ⟨a, ys, rfl, .inl ⟨.of e0, by rw [← rs.length]; exact z _ H1 le r1.rep (feeds_revL fun S H le rp g => by
          obtain ⟨zs, e1, rz⟩ : ∃ ys, H a = some (.lst ys) ∧ RDs X.K H ds ys := rp a _ g
          exact ⟨zs, .of e1, rz⟩)⟩⟩
      · exact fun z => z.elim
    | _ => exact z.elim
/-! ### e[::-1] of a list -/
@[simp] def dRevL (tl : DTE) : DTE := fun E τ S Q => tl E τ S fun d S1 => opt (seqD S1 d) fun xs => newO S1 (.lst xs.reverse) fun p S' => Q (.ref p) S'
@[simp] def dRevLF (tl : DTE) : DTE := fun E τ S Q => tl E τ S fun d S1 => opt (seqD S1 d) fun xs => Q (.rol xs.reverse) S1
theorem de_revL {k : Nat} {p1 p2 p3 : Pos} (hl : DE X l tl) : DE X (.Subscript l (.Slice none none (some (.UnaryOp .USub (.Constant (.int 1) k p1) p2)) p3) pos) (dRevL tl) := by
  refine ⟨fun E E' τ S Q Q' he k q => hl.mono _ _ _ _ _ _ he (fun d S1 z => opt_mono (fun _ z p hp => k _ _ (z p hp)) z) q, pE_imp (pe_revL hl.run) fun σ H Q ⟨E, τ, S, w, r, q⟩ => ?_⟩
  refine hl.to w r q fun d S1 x H1 le w1 r1 rd z => ?_
  obtain ⟨xs, e, z⟩ := opt_ex z
  obtain ⟨a, ys, rfl, sq, rs⟩ := seqD_rd r1.rep rd e
  exact ⟨a, ys, rfl, sq.l, fun p hp => z p (r1.rep.free hp) _ _ (le.trans (LeH.new hp)) (r1.rep.new hp (o := .lst xs.reverse) ⟨_, upd_same, rs.reverse.le (LeH.new hp)⟩) rfl⟩
theorem de_revLF {k : Nat} {p1 p2 p3 : Pos} (hl : DE X l tl) : DE X (.Subscript l (.Slice none none (some (.UnaryOp .USub (.Constant (.int 1) k p1) p2)) p3) pos) (dRevLF tl) :=
  (de_fz (de_revL hl)).sub (fun E E' τ S Q Q' he k q => hl.mono _ _ _ _ _ _ he (fun d S1 z => opt_mono (fun _ z => k _ _ z) z) q)
    fun E τ S Q q => hl.mono _ _ _ _ _ _ (fun _ _ _ _ z => z) (fun d S1 z => opt_mono (fun xs z p hp => fzK_new hp z) z) q
/-! ### tuple(reversed(e)), e a list -/
@[simp] def dTupRev (tl : DTE) : DTE := fun E τ S Q => tl E τ S fun d S1 => opt (seqD S1 d) fun xs => Q (.tup xs.reverse) S1
end
theorem hu65 {A : Around} (h : A.units + 120 < cLine) : A.units + 65 < cLine := by omega
end Dt
set_option maxRecDepth 100000
set_option maxHeartbeats 4000000
namespace Dt
open PySem PySem.Spec L2 PyProof.Rows
section
variable {prog : Program} {w : World} {A : Around} {E : Value → Shared → Prop} {s : Shared} {R : Result → Shared → Prop}
end
section
variable {prog : Program} {w : World} {A : Around} {E : Value → Shared → Prop} {s : Shared} {R : Result → Shared → Prop}
end
section
variable {X : Cx} {l : Expr} {tl : DTE} {te : TE} {p p2 pos pos2 : Pos}
/-- tuple(reversed(x)), x a list or a tuple -/
def tTupRevA (K : PySem.W.Frag) (te : TE) : TE := fun σ H Q => te σ H fun v H1 => ∃ (a : Addr) (xs : List V), v = .ref a ∧ SqT K H1 a xs ∧ ∀ q, H1 q = none → Q (.ref q) (upd H1 q (.tup xs.reverse))
@[simp] def dTupRevT (tl : DTE) : DTE := fun E τ S Q => tl E τ S fun d S1 => match d with | .tup xs => Q (.tup xs.reverse) S1 | _ => False
end
end Dt
set_option maxRecDepth 100000
set_option maxHeartbeats 4000000
namespace Dt
open PySem PySem.Spec L2 PyProof.Rows
section
variable {prog : Program} {w : World} {A : Around} {E : Value → Shared → Prop} {s : Shared} {R : Result → Shared → Prop}
end
section
variable {X : Cx} {l : Expr} {tl : DTE} {te : TE} {p p2 pos pos2 : Pos}
/-- list(reversed(x)), x a tuple -/
def tLstRevA (K : PySem.W.Frag) (te : TE) : TE := fun σ H Q => te σ H fun v H1 => ∃ (a : Addr) (xs : List V), v = .ref a ∧ SqT K H1 a xs ∧ ∀ q, H1 q = none → Q (.ref q) (upd H1 q (.lst xs.reverse))
@[simp] def dLstRevT (tl : DTE) : DTE := fun E τ S Q => tl E τ S fun d S1 => match d with | .tup xs => newO S1 (.lst xs.reverse) fun p S' => Q (.ref p) S' | _ => False
@[simp] def dLstRevTF (tl : DTE) : DTE := fun E τ S Q => tl E τ S fun d S1 => match d with | .tup xs => Q (.rol xs.reverse) S1 | _ => False
end
end Dt
set_option maxRecDepth 100000
set_option maxHeartbeats 4000000
/-! DatE: exceptions: made, raised, caught, asked. -/
namespace Dt
open PySem PySem.Spec L2 PyProof.Rows
/-! ### an exception that is being made -/
/-- the base's __init__ is ValueError's -/
structure BaseI (K : PySem.W.Frag) (B : Addr) : Prop where
  rd : PySem.W.readsIn K B (.type "type") = true
  ga : PySem.W.specialIn K (.ref B) "__getattribute__" = some (some (.builtin "type.__getattribute__"))
  ini : PySem.W.findCls K (.ref B) (.type "type") "__init__" = some (.val (.builtin "ValueError.__init__"))
/-- B.__init__(self, ..) -/
@[simp] def dVeI (C : Addr) (t : DTA) : DTE := fun E τ S Q => t E τ S fun ds S1 => match ds with
  | .ref a :: ws => ws.length ≤ 1000 ∧ S1 a = some (.ex0 C) ∧ Q .non S1
  | _ => False
/-- self.f = e -/
def dPutXK (C : Addr) (f : Str) (y : D) (N : DH → Prop) : D → DH → Prop := fun d S2 => match d with
  | .ref a => (match S2 a with
    | some (.ex0 C') => C' = C ∧ newO S2 (.xm [(f, y)]) fun dx S3 => N (upo S3 a (.ex1 C dx))
    | some (.ex1 C' dx) => C' = C ∧ (match S2 dx with | some (.xm fs) => fs.length ≤ 900 ∧ N (upo S2 dx (.xm ((f, y) :: fs))) | _ => False)
    | _ => False)
  | _ => False
@[simp] def dPutX (C : Addr) (f : Str) (to te : DTE) : DTS := fun A τ S => te A.xe τ S fun y S1 => to A.xe τ S1 (dPutXK C f y (A.nx τ))
theorem dPutXK_mono {C : Addr} {f : Str} {y : D} {N N' : DH → Prop} (k : ∀ S', N S' → N' S') (d : D) (S : DH) (h : dPutXK C f y N d S) : dPutXK C f y N' d S := by
  unfold dPutXK at h ⊢
  cases d with
  | ref a =>
    simp only at h ⊢
    split at h
    · exact ⟨h.1, fun p hp => k _ (h.2 p hp)⟩
    · refine ⟨h.1, ?_⟩
      have h2 := h.2
      split at h2
      · exact ⟨h2.1, k _ h2.2⟩
      · exact h2.elim
    · exact h.elim
  | _ => exact h
section
variable {X : Cx} {B C : Addr} {o e : Expr} {es : List Expr} {x f : Str} {t : DTA} {to te : DTE} {p p' p1 p2 pos : Pos}
theorem de_veinit {pl : Sem Bool} (b : BaseI X.K B) (T : OexC X.K C) (hg : Gl X x) (hm : X.mg x = some (.ref B)) (ha : DA X (e :: es) t) (hdb : (x == ("__debug__" : Str)) = false := by decide)
    (hc : eval (.Call (.Attribute (.Name x p1) "__init__" p2) (e :: es) [] pos) X.env = (do let ov ← eval (.Name x p1) X.env; standAt p2.atName; let (f, first) ← holding [ov] (getMethod ov "__init__" pl); callWith pos f first (backTo pos (starEach (e :: es) X.env)) (backToKw pos (keywordEach [] X.env))) := by rfl)
    (he : starEach (e :: es) X.env = (false, eval e X.env) :: starEach es X.env := by rfl) (hpl : (backTo pos (starEach es X.env)).any (·.1) = false := by rfl) :
    DE X (.Call (.Attribute (.Name x p1) "__init__" p2) (e :: es) [] pos) (dVeI C t) := by
  refine ⟨fun E E' τ S Q Q' hE k q => ha.mono _ _ _ _ _ _ hE (fun ds S1 z => ?_) q, ⟨fun pins s σ H Q I ⟨E, τ, S, w, r, q⟩ => ?_⟩⟩
  · match ds, z with
    | .ref a :: ws, z => exact ⟨z.1, z.2.1, k _ _ z.2.2⟩
  refine PySem.W.methodCall_KW (ld_glob I hg hm ?_ hdb) hc
  refine PySem.W.method_cls I.kIn b.ga (PySem.W.cls_value I.kIn b.rd b.ini (by decide +kernel) ?_)
  show wpAny _ _ (callWith pos (Value.builtin "ValueError.__init__") [] (backTo pos (starEach (e :: es) X.env)) []) _ _ _
  refine PyProof.Rows.callWith_method1 (thn (ha.run.run pos pins _ σ H _ (I.tok _) (ha.to w r q fun ds S1 vs H1 le1 w1 r1 rd1 z => (⟨ds, S1, le1, r1.rep, rd1, z⟩ : ∃ ds S1, LeH H H1 ∧ Rep X.w X.K S1 H1 ∧ RDs X.K H1 ds vs ∧ match ds with
    | .ref a :: ws => ws.length ≤ 1000 ∧ S1 a = some (.ex0 C) ∧ ∀ v H', LeH H H' → Rep X.w X.K S1 H' → RD X.K H' .non v → Q v H'
    | _ => False))) fun us s1 ⟨vs, H1, I1, rv, ds, S1, le1, rp1, rd1, z⟩ => ?_) he hpl
  match ds, z, rd1 with
  | .ref a :: ws, ⟨hl, ea, q⟩, rd1 =>
    obtain ⟨v, vr, rfl, r0, r2⟩ := rd1
    obtain rfl : v = V.ref a := r0
    cases rv with
    | @cons _ u0 _ ur ra rw' =>
      obtain rfl : u0 = Value.ref a := ra
      have hlen : ur.length ≤ sizeLine := by
        rw [← Paired.length rw', ← r2.length, sizeLine_eq]
        omega
      exact oinit_ok T I1 (rp1 a _ ea) hlen fun s' J => ⟨.non, H1, J, rfl, q _ H1 le1 rp1 rfl⟩
theorem ex_le {H : Hp} {a : Addr} {φ : Heap → Prop} {o : HO} (h : H a = some (.ext φ)) : LeH H (upd H a o) := LeH.put h trivial
theorem ds_oput (T : OexC X.K C) (no : NoAttr X.K C f) (ho : DE X o to) (he : DE X e te) (hs : swapsWith e (some (.Attribute o f p')) pos.line X.env = pure false := by rfl) : DS X (.Assign [.Attribute o f p'] e pos) (dPutX C f to te) := by
  refine ⟨fun A A' τ S le q => he.mono _ _ _ _ _ _ le.xe (fun y S1 z => ho.mono _ _ _ _ _ _ le.xe (dPutXK_mono fun S' => le.nx _ _) z) q, pS_imp (ps_ost ho.run he.run hs) fun D σ H ⟨E, τ, S, w, r, q⟩ => ?_⟩
  refine he.to w r q fun y S1 u H1 le1 w1 r1 rd1 z0 => ?_
  refine ho.to w1 r1 z0 fun d S2 v H2 le2 w2 r2 rd2 z => ?_
  clear z0
  unfold dPutXK at z
  cases d with
  | ref a =>
    obtain rfl : v = V.ref a := rd2
    simp only at z
    split at z
    · rename_i C' ea
      obtain ⟨rfl, z⟩ := z
      have eh : H2 a = some (exo a C' none) := r2.rep a _ ea
      refine ⟨a, C', rfl, T, no, .inl ⟨eh, fun dx hd ne => ?_⟩⟩
      have l1 : LeH H2 (upd H2 dx (exd dx [(f, u)])) := LeH.new hd
      have ea1 : upd H2 dx (exd dx [(f, u)]) a = some (exo a C' none) := by rw [upd_ne ne.symm]; exact eh
      have l2 := ex_le (o := exo a C' (some dx)) ea1
      have lu := (le2.trans l1).trans l2
      have rp : Rep X.w X.K (upo S2 dx (.xm [(f, y)])) (upd H2 dx (exd dx [(f, u)])) := r2.rep.new hd ⟨[(f, u)], upd_same, u, [], rfl, rd1.le (le2.trans l1), rfl⟩
      exact z dx (r2.rep.free hd) _ _ (le1.trans lu) ⟨r2.st.le (l1.trans l2), rp.put ea1 trivial upd_same⟩
    · rename_i C' dx ea
      obtain ⟨rfl, z⟩ := z
      have eh : H2 a = some (exo a C' (some dx)) := r2.rep a _ ea
      split at z
      · rename_i fs ed
        obtain ⟨ws, ed2, rk⟩ : ∃ ws, H2 dx = some (exd dx ws) ∧ RKs X.K H2 fs ws := r2.rep dx _ ed
        have l1 := ex_le (o := exd dx ((f, u) :: ws)) ed2
        refine ⟨a, C', rfl, T, no, .inr ⟨dx, ws, eh, ed2, by rw [← rk.length]; exact z.1, ?_⟩⟩
        exact z.2 _ _ (le1.trans (le2.trans l1)) ⟨r2.st.le l1, r2.rep.put ed2 trivial ⟨(f, u) :: ws, upd_same, u, ws, rfl, rd1.le (le2.trans l1), rk.le l1⟩⟩
      · exact z.elim
    · exact z.elim
  | _ => exact z.elim
end
/-! ### C(..), an exception -/
section
variable {X : Cx} {pins : List (Addr × Obj)} {σ : L2.St}
/-- the end of its making: its object is let go, its dict stands as a dict of fields -/
theorem mkx_end {H1 H2 : Hp} {hp hp2 h2 : Heap} {g1 g2 : Array GenState} {d1 d2 : Drawn} {t1 t2 : Nat} {os1 os2 : OsState} {a C d : Addr} {fs : List (Str × V)} (I1 : Inv X pins σ H1 ⟨hp, g1, d1, t1, os1⟩) (ha : hp.objs.size ≤ a)
    (k : ∀ b o, hp.get? b = some o → hp2.get? b = some o) (un : Un (frs X.stack) [] (upd H1 a (exo a C none)) H2 hp2 h2) (hok : HOk X.prog X.w H2 h2) (ho : os2 = os1) (hb : AllBare g2) (ea : H2 a = some (exo a C (some d))) (ed : H2 d = some (exd d fs)) :
    ∃ (t0 : Addr) (G : Heap), Inv X pins σ (upd (del H2 a) d (.xd fs)) ⟨G, g2, d2, t2, os2⟩ ∧ (∀ b o, G.get? b = some o → h2.get? b = some o) ∧ G.get? a = none ∧ d ≠ a ∧
      h2.get? a = some ({ cls := .ref C, dict := some d, data := .fields #[.ref t0, .none, .none, .none, .bool false, .none] } : Obj) ∧ (upd (del H2 a) d (.xd fs)) a = none := by
  obtain ⟨t0, oa⟩ := exo_at hok ea
  obtain ⟨mA, od, rel⟩ := exd_at hok ed
  have an : H1 a = none := I1.hok.fresh ha
  have da : d ≠ a := fun z => by
    obtain ⟨o, es, ep, e1, e2, _⟩ := od
    rw [z, oa] at e1
    cases Option.some.inj e1
    cases e2
  obtain ⟨G, gy, gn⟩ := restrict h2 fun b => decide (b ≠ a)
  have same : ∀ b, b ≠ a → G.get? b = h2.get? b := fun b z => gy b (decide_eq_true z)
  have Ga : G.get? a = none := gn a (by simp)
  have old : ∀ {b : Addr} {o : Obj}, hp.get? b = some o → b ≠ a := fun z => Nat.ne_of_lt (Nat.lt_of_lt_of_le (Heap.lt_size z) ha)
  have low : ∀ {b : Addr}, b ≠ a → H1 b = none → upd H1 a (exo a C none) b = none := fun z n => by rw [upd_ne z]; exact n
  have nod : ∀ {b : Addr} {o : Obj}, hp.get? b = some o → H1 b = none → b ≠ d := fun {b o} z n e => by
    have y := un.free b o (k b o z) (low (old z) n) (by simp)
    rw [e, ed] at y
    cases y
  have U : Un (frs X.stack) [] H1 (upd (del H2 a) d (.xd fs)) hp G := by
    refine ⟨fun b o z n hf hx => ?_, fun b o z n hf hx => ?_, fun b o z n hx => ?_, fun b o z hx => ?_, fun b xs z => ?_, fun b o v z => ?_, fun b ps z => ?_⟩
    · rw [same b (old z)]; exact un.keep b o (k b o z) (low (old z) n) hf hx
    · rw [same b (old z)]; exact un.slot b o (k b o z) (low (old z) n) hf hx
    · rw [upd_ne (nod z n), del_ne (old z)]; exact un.free b o (k b o z) (low (old z) n) hx
    · rw [same b (old z)]; exact un.there b o (k b o z) hx
    · have ba := ne_of_none z an
      have y := un.tups b xs (by rw [upd_ne ba]; exact z)
      rw [upd_ne (at_ne ed y exd_tup), del_ne ba]; exact y
    · have ba := ne_of_none z an
      have y := un.frzs b o v (by rw [upd_ne ba]; exact z)
      rw [upd_ne (at_ne ed y fun q => nomatch q), del_ne ba]; exact y
    · have ba := ne_of_none z an
      obtain ⟨m, y⟩ := un.tbls b ps (by rw [upd_ne ba]; exact z)
      exact ⟨m, by rw [upd_ne (at_ne ed y fun q => nomatch q), del_ne ba]; exact y⟩
  have hok3 : HOk X.prog X.w (upd (del H2 a) d (.xd fs)) G := fun b o z => by
    by_cases bd : b = d
    · subst bd
      rw [upd_same] at z
      cases z
      exact ⟨mA, od.at fun o y => (same b da).trans y, rel⟩
    · rw [upd_ne bd] at z
      have ba : b ≠ a := fun e => by
        rw [e, del_same] at z
        cases z
      rw [del_ne ba] at z
      have own : ∀ {c : Addr}, H2 c = some (.own b) → c ≠ a := fun hc => at_ne ea hc exo_own
      refine (hok b o z).stay (fun c v hc y => ?_) (fun c hc => ?_) fun c xs hc => ?_
      · have ca : c ≠ a := hc.elim (fun q => by rw [q]; exact ba) own
        rw [same c ca]; exact y
      · rw [upd_ne (at_ne ed hc exd_own), del_ne (own hc)]; exact hc
      · rw [upd_ne (at_ne ed hc exd_tup), del_ne (at_ne ea hc exo_tup)]; exact hc
  refine ⟨t0, G, I1.call' (ch := []) ho U hok3 hb (fun b z => absurd z (by simp)), fun b o z => ?_, Ga, da, oa, by rw [upd_ne da.symm, del_same]⟩
  by_cases ba : b = a
  · rw [ba, Ga] at z; cases z
  · exact (same b ba).symm.trans z
/-- what is kept where a dict of fields stands in the place of the exception -/
theorem mkx_le {H2 : Hp} {a C d : Addr} {fs : List (Str × V)} (ea : H2 a = some (exo a C (some d))) (ed : H2 d = some (exd d fs)) : LeH H2 (upd (del H2 a) d (.xd fs)) :=
  ⟨fun b xs z => by rw [upd_ne (at_ne ed z exd_tup), del_ne (at_ne ea z exo_tup)]; exact z, fun b o u z => by rw [upd_ne (at_ne ed z fun q => nomatch q), del_ne (at_ne ea z fun q => nomatch q)]; exact z⟩
theorem mkx_rep {w : World} {K : PySem.W.Frag} {S : DH} {H2 : Hp} {a C d : Addr} {fs : List (Str × V)} (r : Rep w K S H2) (ea : H2 a = some (exo a C (some d))) (ed : H2 d = some (exd d fs)) : Rep w K (delo (delo S a) d) (upd (del H2 a) d (.xd fs)) := fun b o e => by
  simp only [delo] at e
  split at e
  · cases e
  · rename_i bd
    split at e
    · cases e
    · rename_i ba
      exact (r b o e).at (mkx_le ea ed) (by rw [upd_ne bd, del_ne ba])
variable {k : Nat} {fI C : Addr} {fd : FuncData} {ps : List Str} {sp : DSp} {s : Shared}
/-- C(..): what it leaves, from the promise of C's __init__ -/
theorem run_dmkx {us : List Value} {vs : List V} {ds : List D} {S : DH} {H : Hp} {Q : Addr → Addr → List (Str × D) → DH → Prop} {R : Value → Shared → Prop} (T : OexC X.K C) (iC : PySem.W.findIn X.K (.ref C) "__init__" = some (some (.ref fI))) (tI : PySem.W.typeIn X.K (.ref fI) = some (.type "function"))
    (F : DFn X.prog X.w X.K X.mg X.base k fI fd ps sp) (hr : Room (k + 1) X.A) (gu : X.A.guards = some []) (hb : Binds X.K fd ps []) (I : Inv X pins σ H s) (rp : Rep X.w X.K S H) (r : Vals vs us) (rd : RDs X.K H ds vs) (hl : ds.length ≤ 1000)
    (h : ∀ a, S a = none → sp (.ref a :: ds) (upo S a (.ex0 C)) (fun d S' => d = .non ∧ ∃ dx fs, dx ≠ a ∧ S' a = some (.ex1 C dx) ∧ S' dx = some (.xm fs) ∧ Q a dx fs (delo (delo S' a) dx)) fun _ _ _ => False)
    (kR : ∀ a dx fs ws t0 S' H3 sI s', Inv X pins σ H3 sI → LeH H H3 → Rep X.w X.K S' H3 → Q a dx fs S' → H3 dx = some (.xd ws) → RKs X.K H3 fs ws → S' dx = none → (∀ b o, sI.heap.get? b = some o → s'.heap.get? b = some o) → sI.heap.get? a = none → dx ≠ a →
      s'.heap.get? a = some ({ cls := .ref C, dict := some dx, data := .fields #[.ref t0, .none, .none, .none, .bool false, .none] } : Obj) → H3 a = none → s'.os = sI.os → AllBare s'.gens → sI.gens = s'.gens → sI.drawn = s'.drawn → R (.ref a) s') :
    wpAny (model X.prog X.w) X.A (call (.ref C) us) R X.xe s := by
  obtain ⟨nm, q, N, bs, bm, sn, sub, ab, col, dd, k0, k1, k2, k3, k5, hC, hbm⟩ := T.cls
  obtain ⟨hp, g, dr, tk, os⟩ := s
  have hsz : hp.objs.size ≤ hp.objs.size + 1 := Nat.le_succ _
  have hn : H (hp.objs.size + 1) = none := I.hok.fresh hsz
  have hq := h (hp.objs.size + 1) (rp.free hn)
  have up : ∀ b o, hp.get? b = some o → ((hp.push (PySem.W.kdv_tup us)).push (PySem.HandSPX.excO C hp.objs.size)).get? b = some o := fun b o e => Heap.get?_push_of_some _ (Heap.get?_push_of_some _ e)
  have got : ((hp.push (PySem.W.kdv_tup us)).push (PySem.HandSPX.excO C hp.objs.size)).get? (hp.objs.size + 1) = some (PySem.HandSPX.excO C hp.objs.size) := by heap_get
  have I2 : Inv X pins σ (upd H (hp.objs.size + 1) (exo (hp.objs.size + 1) C none)) ⟨(hp.push (PySem.W.kdv_tup us)).push (PySem.HandSPX.excO C hp.objs.size), g, dr, tk, os⟩ :=
    I.laid (t' := tk) (h' := (hp.push (PySem.W.kdv_tup us)).push (PySem.HandSPX.excO C hp.objs.size)) up hsz (exo_ok got)
  have le1 : LeH H (upd H (hp.objs.size + 1) (exo (hp.objs.size + 1) C none)) := LeH.new hn
  have rp2 : Rep X.w X.K (upo S (hp.objs.size + 1) (.ex0 C)) (upd H (hp.objs.size + 1) (exo (hp.objs.size + 1) C none)) := rp.new hn upd_same
  have rds2 : RDs X.K (upd H (hp.objs.size + 1) (exo (hp.objs.size + 1) C none)) (.ref (hp.objs.size + 1) :: ds) (V.ref (hp.objs.size + 1) :: vs) := RDs.cons (d := .ref _) rfl (rd.le le1)
  have r2 : Vals (V.ref (hp.objs.size + 1) :: vs) (Value.ref (hp.objs.size + 1) :: us) := .cons rfl r
  have hl2 : ((Value.ref (hp.objs.size + 1) :: us) ++ []).length = ps.length := by
    rw [List.append_nil, ← r2.length, ← rds2.length]
    exact F.len _ _ _ _ hq
  have hbd := hb _ (Value.ref (hp.objs.size + 1) :: us) I2.kIn hl2
  rw [List.append_nil] at hbd
  have hus : us.length ≤ sizeLine := by
    rw [← Paired.length r, ← rd.length, sizeLine_eq]
    omega
  refine wpAny_call (PySem.HandSPX.call_own PySem.F.excBase_ValueError (fun Y => PySem.HandSPX.refsVE_contains Y bm hbm) (I.kIn _ _ hC) (PySem.W.looks_findIn I.kIn iC) (fun self => PySem.W.bind_fn I.kIn self tI) hus
    (codeAny_mono (F.run _ X.stack _ _ ⟨Value.ref (hp.objs.size + 1) :: us, []⟩ (Value.ref (hp.objs.size + 1) :: us) _
      (fun v H2 => v = .non ∧ ∃ dx fs ws S', dx ≠ hp.objs.size + 1 ∧ LeH H H2 ∧ Rep X.w X.K S' H2 ∧ H2 (hp.objs.size + 1) = some (exo (hp.objs.size + 1) C (some dx)) ∧ H2 dx = some (exd dx ws) ∧ RKs X.K H2 fs ws ∧ Q (hp.objs.size + 1) dx fs (delo (delo S' (hp.objs.size + 1)) dx)) (fun _ _ _ => False)
      (hr.make C us []) (guards_make gu) (I2.env0.make C us []) hbd r2 ⟨_, _, rp2, rds2, F.mono _ _ _ _ _ _ (fun d S' q v H' le rp' rv => ?_) (fun _ _ _ z => z.elim) hq⟩) fun r s' hq' => ?_))
  · obtain ⟨rfl, dx, fs, ne, e1, e2, q⟩ := q
    obtain ⟨ws, e3, rk⟩ : ∃ ws, H' dx = some (exd dx ws) ∧ RKs X.K H' fs ws := rp' dx _ e2
    exact ⟨rv, dx, fs, ws, S', ne, le1.trans le, rp', rp' _ _ e1, e3, rk, q⟩
  · cases r with
    | error er =>
      obtain ⟨_, _, _, _, _, _, _, _, _, _, _, _, z⟩ := hq'
      exact z.elim
    | ok fl =>
      cases fl with
      | ret u =>
        obtain ⟨v, H2, os2, bare2, un2, hok2, rv, ev, dx, fs, ws, S', ne, le, rp', ea, ed, rk, q⟩ := hq'
        subst ev
        obtain ⟨h2, g2, d2, t2, os'⟩ := s'
        obtain ⟨t0, G, J, kG, ge, da, oa, na⟩ := mkx_end (d2 := d2) (t2 := t2) I hsz up un2 hok2 os2 bare2 ea ed
        have l3 := mkx_le ea ed
        exact ⟨rv, kR _ dx fs ws t0 _ _ _ _ J (le.trans l3) (mkx_rep rp' ea ed) q upd_same (rk.le l3) (by simp [delo]) kG ge da oa na rfl bare2 rfl rfl⟩
      | next => exact False.elim hq'
      | brk => exact False.elim hq'
      | cont => exact False.elim hq'
end
/-! ### what is known of such a class -/
def xfactB (K : PySem.W.Frag) (C fI : Addr) (fl : List Str) : Bool :=
  decide (PySem.W.findIn K (.ref C) "__setattr__" = some (some (.builtin "object.__setattr__"))) && (decide (PySem.W.subIn K (.ref C) (.type "BaseException") = some true) && (decide (PySem.W.typeIn K (.ref C) = some (.type "type")) && (PySem.W.keepIn K (.ref C) &&
  (decide (PySem.W.findIn K (.ref C) "__init__" = some (some (.ref fI))) && (decide (PySem.W.typeIn K (.ref fI) = some (.type "function")) && (decide (PySem.W.findIn K (.ref C) "__getattribute__" = some (some (.builtin "BaseException.__getattribute__"))) && (decide (PySem.W.findIn K (.ref C) "__getattr__" = some none) &&
  (PySem.W.hasDictIn K C && (decide (PySem.W.findIn K (.ref C) "__class__" = some (some (.builtin "object.__class__"))) && (decide (PySem.W.specialIn K (.builtin "object.__class__") "__get__" = some (some (.builtin "getset_descriptor.__get__"))) && (decide (PySem.W.takesIn K (.builtin "object.__class__") = some true) &&
  (decide (PySem.W.mroIn K C (.type "object") = some true) && fl.all fun f => decide (PySem.W.findIn K (.ref C) f = some none)))))))))))))
/-- an own class of exceptions: fI its __init__, fl its fields -/
structure ExT (K : PySem.W.Frag) (C fI : Addr) (fl : List Str) : Prop where
  oc : OexC K C
  ini : PySem.W.findIn K (.ref C) "__init__" = some (some (.ref fI))
  ty : PySem.W.typeIn K (.ref fI) = some (.type "function")
  xf : XfC K C
  ec : ExcC K C
  no : ∀ f ∈ fl, NoAttr K C f
theorem ext_of {K : PySem.W.Frag} {C fI : Addr} {fl : List Str} {nm q : Str} {N : Addr} {bs bm : List Value} {sn : List Str} {sub : List Value} {ab : Bool} {col : Option Bool} {dd : Option Addr} {k0 k1 k2 k3 k5 : Option Value}
    (l : K.lookup C = some (excClassObj nm q C N bs bm true sn sub ab col dd k0 k1 k2 k3 k5 "ValueError.__new__")) (r : PySem.HandSPX.refsVE bm = true) (h : xfactB K C fI fl = true) : ExT K C fI fl := by
  simp only [xfactB, Bool.and_eq_true, decide_eq_true_eq, List.all_eq_true] at h
  obtain ⟨h1, h2, h3, h4, h5, h6, h7, h8, h9, h10, h11, h12, h13, h14⟩ := h
  exact ⟨⟨⟨nm, q, N, bs, bm, sn, sub, ab, col, dd, k0, k1, k2, k3, k5, l, r⟩, h1, h2, h3, h4⟩, h5, h6, ⟨h7, h8, h2, h9⟩, ⟨h7, h8, h2, h9, h10, h11, h12, h13⟩, h14⟩
def basefB (K : PySem.W.Frag) (B : Addr) : Bool := PySem.W.readsIn K B (.type "type") && (decide (PySem.W.specialIn K (.ref B) "__getattribute__" = some (some (.builtin "type.__getattribute__"))) && decide (PySem.W.findIn K (.ref B) "__init__" = some (some (.builtin "ValueError.__init__"))))
/-- isinstance of such exceptions: the answers by their class -/
def kitfB (K : PySem.W.Frag) (c : Value) (subs : List (Addr × Bool)) : Bool := subs.all fun p => decide (PySem.W.kitOne K (.ref p.1) c = some p.2)
theorem kitf_of {K : PySem.W.Frag} {c : Value} {subs : List (Addr × Bool)} (h : kitfB K c subs = true) : ∀ p ∈ subs, PySem.W.kitOne K (.ref p.1) c = some p.2 := fun p hp => of_decide_eq_true (List.all_eq_true.mp h p hp)
def kitsB (K : PySem.W.Frag) (cs : List Value) (subs : List (Addr × Bool)) : Bool := subs.all fun p => decide (PySem.W.kitAny K (.ref p.1) cs = some p.2)
theorem kits_of {K : PySem.W.Frag} {cs : List Value} {subs : List (Addr × Bool)} (h : kitsB K cs subs = true) : ∀ p ∈ subs, PySem.W.kitAny K (.ref p.1) cs = some p.2 := fun p hp => of_decide_eq_true (List.all_eq_true.mp h p hp)
/-- except c: the answers by their class -/
def exmfB (K : PySem.W.Frag) (c : Value) (subs : List (Addr × Bool)) : Bool := subs.all fun p => decide (PySem.W.exmOne K (.ref p.1) c = some p.2)
theorem exmf_of {K : PySem.W.Frag} {c : Value} {subs : List (Addr × Bool)} (h : exmfB K c subs = true) : ∀ p ∈ subs, PySem.W.exmOne K (.ref p.1) c = some p.2 := fun p hp => of_decide_eq_true (List.all_eq_true.mp h p hp)

/-! ### raise C(..), C(..) as a value -/
@[simp] def dRaise (C : Addr) (sp : DSp) (t : DTA) : DTS := fun A τ S => t A.xe τ S fun ds S1 => ds.length ≤ 1000 ∧ ∀ a, S1 a = none → sp (.ref a :: ds) (upo S1 a (.ex0 C))
  (fun d S' => d = .non ∧ ∃ dx fs, dx ≠ a ∧ S' a = some (.ex1 C dx) ∧ S' dx = some (.xm fs) ∧ A.xe C fs τ (delo (delo S' a) dx)) fun _ _ _ => False
@[simp] def dMakeX (C : Addr) (sp : DSp) (t : DTA) : DTE := fun E τ S Q => t E τ S fun ds S1 => ds.length ≤ 1000 ∧ ∀ a, S1 a = none → sp (.ref a :: ds) (upo S1 a (.ex0 C))
  (fun d S' => d = .non ∧ ∃ dx fs, dx ≠ a ∧ S' a = some (.ex1 C dx) ∧ S' dx = some (.xm fs) ∧ Q (.ref a) (upo (upo (delo (delo S' a) dx) dx (.xd fs)) a (.exc C dx))) fun _ _ _ => False
section
variable {X : Cx} {k : Nat} {fI C : Addr} {fd : FuncData} {ps fl : List Str} {sp : DSp} {x : Str} {e : Expr} {es : List Expr} {t : DTA} {p pos pos' : Pos}
theorem pmk_dx (T : ExT X.K C fI fl) (F : DFn X.prog X.w X.K X.mg X.base k fI fd ps sp) (hr : Room (k + 1) X.A) (gu : X.A.guards = some []) (hb : Binds X.K fd ps []) (hg : Gl X x) (hm : X.mg x = some (.ref C)) (ha : DA X (e :: es) t)
    (hdb : (x == ("__debug__" : Str)) = false := by decide) (he : starEach (e :: es) X.env = (false, eval e X.env) :: starEach es X.env := by rfl) (hpl : (backTo pos (starEach es X.env)).any (·.1) = false := by rfl) :
    PMk X (.Call (.Name x p) (e :: es) [] pos) (fun σ H Q => ∃ E τ S, Wish X E H ∧ Rel X.w X.K τ S σ H ∧ t E τ S fun ds S1 => ds.length ≤ 1000 ∧ ∀ a, S1 a = none → sp (.ref a :: ds) (upo S1 a (.ex0 C))
      (fun d S' => d = .non ∧ ∃ dx fs, dx ≠ a ∧ S' a = some (.ex1 C dx) ∧ S' dx = some (.xm fs) ∧ ∀ ws H', LeH H H' → Rep X.w X.K (delo (delo S' a) dx) H' → H' dx = some (.xd ws) → RKs X.K H' fs ws → delo (delo S' a) dx dx = none → Q (.ref C) (some dx) H') fun _ _ _ => False) := by
  intro pins s σ H Q I ⟨E, τ, S, w, r, q⟩
  refine wpAny_Call_Name_kw (ld_glob I hg hm ?_ hdb)
  refine PySem.W.callWith_K (h₀ := X.base) I.ok.mod.kin T.oc.kC (thn (ha.run.run pos pins s σ H _ I (ha.to w r q fun ds S1 vs H1 le1 w1 r1 rd1 z => (⟨ds, S1, le1, r1.rep, rd1, z⟩ : ∃ ds S1, LeH H H1 ∧ Rep X.w X.K S1 H1 ∧ RDs X.K H1 ds vs ∧ ds.length ≤ 1000 ∧ ∀ a, S1 a = none → sp (.ref a :: ds) (upo S1 a (.ex0 C))
      (fun d S' => d = .non ∧ ∃ dx fs, dx ≠ a ∧ S' a = some (.ex1 C dx) ∧ S' dx = some (.xm fs) ∧ ∀ ws H', LeH H H' → Rep X.w X.K (delo (delo S' a) dx) H' → H' dx = some (.xd ws) → RKs X.K H' fs ws → delo (delo S' a) dx dx = none → Q (.ref C) (some dx) H') fun _ _ _ => False)))
    fun us s1 ⟨vs, H1, I1, rv, ds, S1, le1, rp1, rd1, hl, z⟩ => ⟨I1.kIn, ?_⟩) he hpl
  refine run_dmkx (Q := fun _ dx fs S' => ∀ ws H', LeH H H' → Rep X.w X.K S' H' → H' dx = some (.xd ws) → RKs X.K H' fs ws → S' dx = none → Q (.ref C) (some dx) H') T.oc T.ini T.ty F hr gu hb I1 rp1 rv rd1 hl z fun a dx fs ws t0 S' H3 sI s' J le rp q e1 rk hn kG ge da oa na os ba _ _ => ?_
  exact ⟨a, _, _, sI, H3, .ref C, some dx, rfl, J, kG, ge, oa, ⟨rfl, rfl⟩, rfl, rfl, na, os, ba, raises_own T.oc.exC T.oc.tyC, q ws H3 (le1.trans le) rp e1 rk hn⟩
theorem ds_raise (hc : X.calm = true) (T : ExT X.K C fI fl) (F : DFn X.prog X.w X.K X.mg X.base k fI fd ps sp) (hr : Room (k + 1) X.A) (gu : X.A.guards = some []) (hb : Binds X.K fd ps []) (hg : Gl X x) (hm : X.mg x = some (.ref C)) (ha : DA X (e :: es) t)
    (hdb : (x == ("__debug__" : Str)) = false := by decide) (he : starEach (e :: es) X.env = (false, eval e X.env) :: starEach es X.env := by rfl) (hpl : (backTo pos (starEach es X.env)).any (·.1) = false := by rfl) :
    DS X (.Raise (some (.Call (.Name x p) (e :: es) [] pos)) none pos') (dRaise C sp t) := by
  refine ⟨fun A B τ S le q => ha.mono _ _ _ _ _ _ le.xe (fun ds S1 z => ⟨z.1, fun a ha => F.mono _ _ _ _ _ _ (fun d S' ⟨e1, dx, fs, ne, e2, e3, q⟩ => ⟨e1, dx, fs, ne, e2, e3, le.xe _ _ _ _ q⟩) (fun _ _ _ z => z) (z.2 a ha)⟩) q, ⟨fun pins s σ H D I ⟨E, τ, S, w, r, q⟩ => ?_⟩⟩
  refine (ps_raise hc w (pmk_dx T F hr gu hb hg hm ha hdb he hpl)).run pins s σ H D I ⟨E, τ, S, w, r, ha.mono _ _ _ _ _ _ (fun _ _ _ _ z => z) (fun ds S1 z => ⟨z.1, fun a ha => F.mono _ _ _ _ _ _ (fun d S' ⟨e1, dx, fs, ne, e2, e3, q⟩ => ⟨e1, dx, fs, ne, e2, e3, fun ws H' le rp hx rk hn => ?_⟩) (fun _ _ _ z => z) (z.2 a ha)⟩) q⟩
  exact ⟨C, fs, τ, _, dx, ws, rfl, rfl, le, r.le le rp, hx, rk, hn, q⟩
theorem excx_ok {P : Program} {w : World} {H : Hp} {h : Heap} {C dd a : Addr} {oe : Obj} {vs : Array Value} (e : h.get? a = some oe) (z : Zc (.ref C) (some dd) oe) (hd : oe.data = .fields vs) : ObjOk P w H h a (excHO C dd a) :=
  ⟨⟨oe, vs, e, z.1, z.2, hd⟩, ⟨_, e⟩, fun _ _ ⟨o, v, q, r⟩ k => ⟨o, v, k _ q, r⟩⟩
end
/-! ### asking an exception -/
def dFldXK (Cs : List Addr) (f : Str) (Q : DK) : DK := fun d S1 => match d with
  | .ref a => (match S1 a with
    | some (.exc C dd) => C ∈ Cs ∧ (match S1 dd with | some (.xd fs) => opt (fs.lookup f) fun v => Q v S1 | _ => False)
    | _ => False)
  | _ => False
/-- e.f -/
@[simp] def dFldX (Cs : List Addr) (f : Str) (te : DTE) : DTE := fun E τ S Q => te E τ S (dFldXK Cs f Q)
theorem dFldXK_mono {Cs : List Addr} {f : Str} {Q Q' : DK} (k : ∀ d S', Q d S' → Q' d S') (d : D) (S : DH) (h : dFldXK Cs f Q d S) : dFldXK Cs f Q' d S := by
  unfold dFldXK at h ⊢
  cases d with
  | ref a =>
    simp only at h ⊢
    split at h
    · refine ⟨h.1, ?_⟩
      have h2 := h.2
      split at h2
      · exact opt_mono (fun v z => k _ _ z) h2
      · exact h2.elim
    · exact h.elim
  | _ => exact h
/-- isinstance(e, c): the answers by e's class -/
def dIsEK (subs : List (Addr × Bool)) (Q : DK) : DK := fun d S1 => match d with
  | .ref a => (match S1 a with | some (.exc C dd) => (∃ fs, S1 dd = some (.xd fs)) ∧ ∃ b, (C, b) ∈ subs ∧ Q (.bl b) S1 | _ => False)
  | _ => False
@[simp] def dIsE (subs : List (Addr × Bool)) (te : DTE) : DTE := fun E τ S Q => te E τ S (dIsEK subs Q)
theorem dIsEK_mono {subs : List (Addr × Bool)} {Q Q' : DK} (k : ∀ d S', Q d S' → Q' d S') (d : D) (S : DH) (h : dIsEK subs Q d S) : dIsEK subs Q' d S := by
  unfold dIsEK at h ⊢
  cases d with
  | ref a =>
    simp only at h ⊢
    split at h
    · exact ⟨h.1, h.2.imp fun b z => ⟨z.1, k _ _ z.2⟩⟩
    · exact h.elim
  | _ => exact h
section
variable {X : Cx} {pins : List (Addr × Obj)} {σ : L2.St} {H : Hp} {s : Shared} {a C dd : Addr}
theorem exc_there (I : Inv X pins σ H s) (e : H a = some (excHO C dd a)) : excP C dd a s.heap := by
  have x : ObjOk X.prog X.w H s.heap a (.ext (excP C dd a)) := I.hok a _ e
  exact x.1
theorem exc_inst (I : Inv X pins σ H s) {fs : List (Str × V)} (e : H a = some (excHO C dd a)) (ed : H dd = some (.xd fs)) : ∃ oe od, PySem.W.InstAt s.heap a oe C (some od) ∧ ∃ mA : Str → Option Value, (∀ f, RelO (fs.lookup f) (mA f)) ∧ ∀ f, PySem.W.lookIn f od = some (mA f) := by
  obtain ⟨oe, vs, ho, hc, hdd, hdt⟩ := exc_there I e
  have hx : ObjOk X.prog X.w H s.heap dd (.xd fs) := I.hok dd _ ed
  obtain ⟨mA, hns, hr⟩ := hx
  obtain ⟨od, hd, hl⟩ := lookIn_ns hns
  exact ⟨oe, od, ⟨ho, hc, by unfold PySem.W.notCls; rw [hdt] <;> rfl, by rw [hdd]; exact hd⟩, mA, hr, hl⟩
end
section
variable {X : Cx} {e : Expr} {te : DTE} {f x : Str} {p p2 pos : Pos} {Cs : List Addr} {subs : List (Addr × Bool)} {C : Addr}
theorem de_fldx (hx : ∀ C ∈ Cs, XfC X.K C ∧ NoAttr X.K C f) (he : DE X e te) (hb : attributeBase e f X.env (eval e X.env) = eval e X.env := by rfl) : DE X (.Attribute e f pos) (dFldX Cs f te) := by
  refine ⟨fun E E' τ S Q Q' hE k q => he.mono _ _ _ _ _ _ hE (dFldXK_mono k) q, ⟨fun pins s σ H Q I ⟨E, τ, S, w, r, q⟩ => ?_⟩⟩
  refine attr_of hb (thn (he.run.run pins s σ H _ I (he.to w r q fun d S1 v H1 le1 w1 r1 rd1 z => (⟨d, S1, le1, r1.rep, rd1, z⟩ : ∃ d S1, LeH H H1 ∧ Rep X.w X.K S1 H1 ∧ RD X.K H1 d v ∧ dFldXK Cs f (fun d S' => ∀ v H', LeH H H' → Rep X.w X.K S' H' → RD X.K H' d v → Q v H') d S1))) fun u s1 ⟨v, H1, I1, rv, d, S1, le1, rp1, rd1, z⟩ => ?_)
  unfold dFldXK at z
  cases d with
  | ref a =>
    obtain rfl : v = V.ref a := rd1
    obtain rfl : u = Value.ref a := rv
    simp only at z
    split at z
    · rename_i C dd ea
      obtain ⟨hC, z⟩ := z
      split at z
      · rename_i fs ed
        obtain ⟨y, hy, z⟩ := opt_ex z
        obtain ⟨ws, ed2, rk⟩ : ∃ ws, H1 dd = some (.xd ws) ∧ RKs X.K H1 fs ws := rp1 dd _ ed
        obtain ⟨oe, od, J, mA, hr, hl⟩ := exc_inst I1 (rp1 a _ ea) ed2
        obtain ⟨T, no⟩ := hx C hC
        obtain ⟨v, hv, rd⟩ := rk.lookup_some hy
        obtain ⟨u, hu, ru⟩ := RelO.some_of (v := v) (o := mA f) (by rw [← hv]; exact hr f)
        exact PySem.HandSPX.exc_get I1.kIn J T.ga T.gg T.exC (PySem.W.findObj_own T.hdC no rfl (by rw [hl, hu])) (handed_of ru) ⟨v, H1, I1.tok _, ru, z v H1 le1 rp1 rd⟩
      · exact z.elim
    · exact z.elim
  | _ => exact z.elim
theorem de_cls (hg : Gl X x) (hm : X.mg x = some (.ref C)) (hdb : (x == ("__debug__" : Str)) = false := by decide) : DE X (.Name x p) (dC (.ref C)) := de_c (pe_glob (v := .ref C) hg hm rfl hdb) fun _ => rfl
/-- isinstance of an exception, at the true heap -/
theorem ise_at {pins : List (Addr × Obj)} {σ : L2.St} {H : Hp} {s : Shared} {Q : Value → Shared → Prop} {c : Value} {a dd : Addr} {b : Bool} (E : ExcC X.K C) (I : Inv X pins σ H s) (ea : H a = some (excHO C dd a)) {fs : List (Str × V)} (ed : H dd = some (.xd fs)) (k : PySem.W.kitOne X.K (.ref C) c = some b)
    (h : ∀ s', Inv X pins σ H s' → Q (.bool b) s') : wpAny (model X.prog X.w) X.A (call (.builtin "isinstance") [.ref a, c]) Q X.xe s := by
  obtain ⟨oe, od, J, _⟩ := exc_inst I ea ed
  have hc : (PySem.W.clsIn X.K C).isSome = true := by
    obtain ⟨cd, hc, _⟩ := PySem.W.any_some E.hd
    rw [hc]; rfl
  exact PySem.W.kia_one (PySem.W.kitx_exc hc E.hg E.hk E.hs E.ha E.hn E.ht E.hm) I.kIn J k (fun z => nomatch z) fun tk => h _ (I.kept (t' := tk) fun _ _ z => z)
theorem ises_at {pins : List (Addr × Obj)} {σ : L2.St} {H : Hp} {s : Shared} {Q : Value → Shared → Prop} {cs : List Value} {a dd tp : Addr} {b : Bool} {o : Obj} {n : Nat} (E : ExcC X.K C) (I : Inv X pins σ H s) (ea : H a = some (excHO C dd a)) {fs : List (Str × V)} (ed : H dd = some (.xd fs)) (ho : s.heap.get? tp = some o) (oc : o.cls = .type "tuple") (od : o.data = .seq cs.toArray n)
    (k : PySem.W.kitAny X.K (.ref C) cs = some b) (h : ∀ s', Inv X pins σ H s' → Q (.bool b) s') : wpAny (model X.prog X.w) X.A (call (.builtin "isinstance") [.ref a, .ref tp]) Q X.xe s := by
  obtain ⟨oe, odd, J, _⟩ := exc_inst I ea ed
  have hc : (PySem.W.clsIn X.K C).isSome = true := by
    obtain ⟨cd, hc, _⟩ := PySem.W.any_some E.hd
    rw [hc]; rfl
  obtain ⟨o1, o2, o3, o4⟩ := o
  simp only at oc od
  subst oc od
  exact PySem.W.kia_tup (PySem.W.kitx_exc hc E.hg E.hk E.hs E.ha E.hn E.ht E.hm) I.kIn J ho k (fun z => nomatch z) fun tk => h _ (I.kept (t' := tk) fun _ _ z => z)
def rIsX (K : PySem.W.Frag) (c : V) (cv : Value) : List V → Hp → VK → Prop := fun xs H Q => ∃ (a C dd : Addr) (fs : List (Str × V)) (b : Bool), xs = [.ref a, c] ∧ ExcC K C ∧ H a = some (excHO C dd a) ∧ H dd = some (.xd fs) ∧ PySem.W.kitOne K (.ref C) cv = some b ∧ Q (.bl b) H
theorem call_isx {c : V} {cv : Value} (hcv : ∀ u, RelV c u → u = cv) : CallR X (.builtin "isinstance") (rIsX X.K c cv) := by
  intro pins s σ H xs us Q I r ⟨a, C, dd, fs, b, e, E, ea, ed, k, q⟩
  subst e
  cases r with
  | cons rx rr =>
    cases rr with
    | cons rt rr =>
      cases rr
      cases rx
      obtain rfl := hcv _ rt
      exact ise_at E I ea ed k fun s' I' => ⟨.bl b, H, I', rfl, q⟩
/-- class names, one by one -/
@[simp] def dCs (cs : List Addr) : DTA := fun _ _ S Q => Q (cs.map D.ref) S
theorem da_cs_nil : DA X [] (dCs []) := ⟨fun _ _ _ _ _ _ _ k q => k _ _ q, pA_imp pa_nil fun σ H Q ⟨E, τ, S, w, r, q⟩ => q [] H (LeH.refl H) r.rep .nil⟩
theorem da_cs {es : List Expr} {cs : List Addr} (hg : Gl X x) (hm : X.mg x = some (.ref C)) (hr : DA X es (dCs cs)) (hdb : (x == ("__debug__" : Str)) = false := by decide)
    (hs : starEach (.Name x p :: es) X.env = (false, eval (.Name x p) X.env) :: starEach es X.env := by rfl) : DA X (.Name x p :: es) (dCs (C :: cs)) :=
  ⟨fun _ _ _ _ _ _ _ k q => k _ _ q, pA_imp (da_cons (de_cls hg hm hdb) hr hs).run fun σ H Q ⟨E, τ, S, w, r, q⟩ => ⟨E, τ, S, w, r, q⟩⟩
theorem rds_refs {K : PySem.W.Frag} {H : Hp} : ∀ {cs : List Addr} {xs : List V}, RDs K H (cs.map D.ref) xs → xs = cs.map V.ref
  | [], _, h => h
  | c :: cs, _, h => by
    obtain ⟨v, r, rfl, h1, h2⟩ := h
    obtain rfl : v = V.ref c := h1
    rw [rds_refs h2]; rfl
theorem vals_refs : ∀ {cs : List Addr} {us : List Value}, Vals (cs.map V.ref) us → us = cs.map Value.ref
  | [], _, h => by cases h; rfl
  | c :: cs, _, h => by
    cases h with
    | @cons _ u _ ur h1 h2 =>
      obtain rfl : u = Value.ref c := h1
      rw [vals_refs h2]; rfl
def rIsXs (K : PySem.W.Frag) (cs : List Addr) : List V → Hp → VK → Prop := fun xs H Q => ∃ (a C dd : Addr) (fs : List (Str × V)) (b : Bool) (tp : Addr), xs = [.ref a, .ref tp] ∧ ExcC K C ∧ H a = some (excHO C dd a) ∧ H dd = some (.xd fs) ∧ SqT K H tp (cs.map V.ref) ∧ PySem.W.kitAny K (.ref C) (cs.map Value.ref) = some b ∧ Q (.bl b) H
theorem call_isxs {cs : List Addr} : CallR X (.builtin "isinstance") (rIsXs X.K cs) := by
  intro pins s σ H xs us Q I r ⟨a, C, dd, fs, b, tp, e, E, ea, ed, sq, k, q⟩
  subst e
  cases r with
  | cons rx rr =>
    cases rr with
    | cons rt rr =>
      cases rr
      cases rx
      cases rt
      obtain ⟨its, rv, ⟨o, ho, oc, n, od⟩, _⟩ := I.tuple sq
      have := vals_refs rv
      subst this
      exact ises_at E I ea ed ho oc od k fun s' I' => ⟨.bl b, H, I', rfl, q⟩
theorem isx_to {σ : L2.St} {H : Hp} {Q : VK} {c : V} {cv : Value} (hx : ∀ p ∈ subs, ExcC X.K p.1) (hk : ∀ p ∈ subs, PySem.W.kitOne X.K (.ref p.1) cv = some p.2) (h : DE X e te) (q : upE X (dIsE subs te) σ H Q) :
    tCB (rIsX X.K c cv) (tCons (upE X te) (tCons (tC c) tNil)) σ H Q := by
  obtain ⟨E, τ, S, w, r, q⟩ := q
  refine h.to w r q fun d S1 v H1 le1 w1 r1 rd1 z => ?_
  unfold dIsEK at z
  cases d with
  | ref a =>
    obtain rfl : v = V.ref a := rd1
    simp only at z
    split at z
    · rename_i C dd ea
      obtain ⟨⟨fs, ed⟩, b, hb, z⟩ := z
      obtain ⟨ws, ed2, rk⟩ : ∃ ws, H1 dd = some (.xd ws) ∧ RKs X.K H1 fs ws := r1.rep dd _ ed
      exact ⟨a, C, dd, ws, b, rfl, hx _ hb, r1.rep a _ ea, ed2, hk _ hb, z _ H1 le1 r1.rep rfl⟩
    · exact z.elim
  | _ => exact z.elim
/-- isinstance(e, C) -/
theorem de_ise {pc : Expr} {c : V} {cv : Value} (hx : ∀ p ∈ subs, ExcC X.K p.1) (hk : ∀ p ∈ subs, PySem.W.kitOne X.K (.ref p.1) cv = some p.2) (hcv : ∀ u, RelV c u → u = cv) (hc : PE X pc (tC c)) (h : DE X e te) (hg : Gl X "isinstance") (hm : X.mg "isinstance" = none)
    (he : starEach (e :: [pc]) X.env = (false, eval e X.env) :: starEach [pc] X.env := by rfl) (he2 : starEach (pc :: []) X.env = (false, eval pc X.env) :: starEach [] X.env := by rfl) (hpl : (backTo pos (starEach [pc] X.env)).any (·.1) = false := by rfl) :
    DE X (.Call (.Name "isinstance" p) [e, pc] [] pos) (dIsE subs te) :=
  ⟨fun E E' τ S Q Q' hE k q => h.mono _ _ _ _ _ _ hE (dIsEK_mono k) q,
    pE_imp (pe_callB (call_isx hcv) hg hm PyProof.Rows.boot_isinstance (pa_cons h.run (pa_cons hc pa_nil he2) he) (by decide) (by decide) he hpl) fun σ H Q q => isx_to hx hk h q⟩
/-- isinstance(e, (C, ..)) -/
theorem de_ises {es : List Expr} {cs : List Addr} {x1 : _} {p3 : Pos} (hx : ∀ p ∈ subs, ExcC X.K p.1) (hk : ∀ p ∈ subs, PySem.W.kitAny X.K (.ref p.1) (cs.map Value.ref) = some p.2) (hc : DA X es (dCs cs)) (h : DE X e te) (hg : Gl X "isinstance") (hm : X.mg "isinstance" = none) (hl : cs.length ≤ sizeLine)
    (he : starEach (e :: [.Tuple es x1 p3]) X.env = (false, eval e X.env) :: starEach [.Tuple es x1 p3] X.env := by rfl) (he2 : starEach (.Tuple es x1 p3 :: []) X.env = (false, eval (.Tuple es x1 p3) X.env) :: starEach [] X.env := by rfl) (hpl : (backTo pos (starEach [.Tuple es x1 p3] X.env)).any (·.1) = false := by rfl) :
    DE X (.Call (.Name "isinstance" p) [e, .Tuple es x1 p3] [] pos) (dIsE subs te) := by
  refine ⟨fun E E' τ S Q Q' hE k q => h.mono _ _ _ _ _ _ hE (dIsEK_mono k) q,
    pE_imp (pe_callB (call_isxs (X := X) (cs := cs)) hg hm PyProof.Rows.boot_isinstance (pa_cons h.run (pa_cons (de_tup hc).run pa_nil he2) he) (by decide) (by decide) he hpl) fun σ H Q ⟨E, τ, S, w, r, q⟩ => ?_⟩
  refine h.to w r q fun d S1 v H1 le1 w1 r1 rd1 z => ?_
  have z2 : dTup (dCs cs) E τ S1 fun d S' => ∀ v' H', LeH H1 H' → Rep X.w X.K S' H' → RD X.K H' d v' → rIsXs X.K cs [v, v'] H' Q := by
    refine ⟨by simpa using hl, fun v' H' le rp rv => ?_⟩
    unfold dIsEK at z
    cases d with
    | ref a =>
      obtain rfl : v = V.ref a := rd1
      simp only at z
      split at z
      · rename_i C dd ea
        obtain ⟨⟨fs, ed⟩, b, hb, z⟩ := z
        obtain ⟨ws, ed2, rk⟩ : ∃ ws, H' dd = some (.xd ws) ∧ RKs X.K H' fs ws := rp dd _ ed
        obtain ⟨tp, xs, rfl, sq, rs⟩ : ∃ p xs, v' = V.ref p ∧ SqT X.K H' p xs ∧ RDs X.K H' (cs.map D.ref) xs := rv
        exact ⟨a, C, dd, ws, b, tp, rfl, hx _ hb, rp a _ ea, ed2, by rw [← rds_refs rs]; exact sq, hk _ hb, z _ H' (le1.trans le) rp rfl⟩
      · exact z.elim
    | _ => exact z.elim
  exact ⟨E, τ, S1, w1, r1, (de_tup (x1 := x1) (pos := p3) hc).mono _ _ _ _ _ _ (fun _ _ _ _ z => z) (fun d S' y v' H' le rp rd => y v' H' le rp rd) z2⟩
end
/-! ### defs that may be called where an exception is handled -/
structure DFnT (P : Program) (w : World) (K : PySem.W.Frag) (mg : Str → Option Value) (base : Heap) (k : Nat) (f : Addr) (fd : FuncData) (ps : List Str) (sp : DSp) : Prop where
  mono : ∀ ds S (Q Q' : DK) (E E' : DXK), (∀ d S', Q d S' → Q' d S') → (∀ C fs S', E C fs S' → E' C fs S') → sp ds S Q E → sp ds S Q' E'
  len : ∀ ds S Q E, sp ds S Q E → ds.length = ps.length
  run : ∀ (A : Around) (outer : List Env) (s : Shared) (H : Hp) (args : Args) (us : List Value) (vs : List V) (Q : VK) (E : XK), L2H.RoomH k A → A.guards = some [] → Env0 P w K mg base A outer s H → BindsTo s fd args (ps.zip us) → Vals vs us →
    upSp w K sp vs H Q E → codeAny (model P w) A (.call (.ref f) args) (CR (L2.CX P w) outer P w H s Q E) s
/-- the context of a def's body, an exception handled ahead of it or not -/
def cxN (P : Program) (w : World) (K : PySem.W.Frag) (mg : Str → Option Value) (base : Heap) (N : List Str) (qual : Str) (scope : Scope) (f : Addr) (cd : Value) (A : Around) (outer : List Env) (s : Shared) (H : Hp) (E : XK) : Cx :=
  { cxOf (L2.CX P w) P w K mg base N qual scope f cd A outer s H E with calm := false }
section
variable {X : Cx} {k : Nat} {f : Addr} {fd : FuncData} {ps : List Str} {sp : DSp} {x : Str} {p pos : Pos} {e : Expr} {es : List Expr} {t : DTA}
end
/-! ### try: body / except x as n: suite -/
section
variable {X : Cx} {pins : List (Addr × Obj)} {σ : L2.St} {H : Hp} {s : Shared}
/-- an object that was not told yet is told -/
theorem inv_track {a : Addr} {oe : Obj} {vs : Array Value} {o : HO} (J : Inv X pins σ H s) (ha : s.heap.get? a = some oe) (hd : oe.data = .fields vs) (na : H a = none) (n0 : X.s_0.heap.get? a = none) (nL : a ≠ X.env.locals)
    (np : ∀ p ∈ X.pn ++ pins, p.1 ≠ a) (ob : ObjOk X.prog X.w (upd H a o) s.heap a o) : Inv X pins σ (upd H a o) s := by
  have ne : ∀ {b : Addr} {u : HO}, H b = some u → b ≠ a := fun q => ne_of_none q na
  refine ⟨J.ok, J.os, J.bare, ⟨J.base.keep, J.base.slot, fun b o e n hx => ?_, J.base.there, fun b xs q => ?_, fun b o u q => ?_, fun b ps q => ?_⟩, J.loc, J.cell, ?_, fun x c e => ?_, fun p hp => ?_, fun b u e => ?_, J.len⟩
  · have : b ≠ a := fun z => by rw [z, n0] at e; cases e
    rw [upd_ne this]; exact J.base.free b o e n hx
  · have q := J.base.tups b xs q
    rw [upd_ne (ne q)]; exact q
  · have q := J.base.frzs b o u q
    rw [upd_ne (ne q)]; exact q
  · obtain ⟨m, q⟩ := J.base.tbls b ps q
    exact ⟨m, by rw [upd_ne (ne q)]; exact q⟩
  · rw [upd_ne nL.symm]; exact J.free
  · obtain ⟨v, oc, e1, e2⟩ := J.cell x c e
    have : c ≠ a := fun z => by
      rw [z, ha] at e1
      cases e1
      rw [hd] at e2
      cases e2
    rw [upd_ne this]; exact J.freeC x c e
  · obtain ⟨h1, h2, h3, h4, h5⟩ := J.pin p hp
    exact ⟨h1, by rw [upd_ne (np p hp)]; exact h2, h3, h4, h5⟩
  · by_cases hb : b = a
    · subst hb
      rw [upd_same] at e
      cases e
      exact ob
    · rw [upd_ne hb] at e
      exact (J.hok b u e).stay (fun _ _ _ q => q) (fun c q => by rw [upd_ne (ne q)]; exact q) fun c xs q => by rw [upd_ne (ne q)]; exact q
theorem inv_suite {a : Addr} (J : Inv X pins σ H s) : Inv (X.suite a (X.pn ++ pins)) [] σ H s :=
  ⟨J.ok.suite _ _, J.os, J.bare, J.base, J.loc, J.cell, J.free, J.freeC, fun p hp => J.pin p (by rw [List.append_nil] at hp; exact hp), J.hok, J.len⟩
theorem inv_unsuite {a : Addr} (ok : X.Ok) (J : Inv (X.suite a (X.pn ++ pins)) [] σ H s) : Inv X pins σ H s :=
  ⟨ok, J.os, J.bare, J.base, J.loc, J.cell, J.free, J.freeC, fun p hp => J.pin p (by rw [List.append_nil]; exact hp), J.hok, J.len⟩
end
theorem rst_unset {K : PySem.W.Frag} {H : Hp} {τ : DSt} {σ : L2.St} (r : RSt K H τ σ) (i : Nat) : RSt K H (τ.set i none) (σ.set i none) := by
  refine ⟨by simp [r.len], fun j d e => ?_⟩
  rw [List.getElem?_set] at e ⊢
  by_cases z : i = j
  · rw [if_pos z] at e
    split at e <;> cases e
  · rw [if_neg z] at e ⊢
    exact r.get j d e
/-- the ends of a suite that has an exception's name in slot i -/
def sufA (A : DEnds) (i : Nat) : DEnds where
  nx := fun τ S => A.nx (τ.set i none) S
  rt := A.rt
  bk := fun τ S => A.bk (τ.set i none) S
  ct := fun τ S => A.ct (τ.set i none) S
@[simp] theorem sufA_nx (A : DEnds) (i : Nat) (τ : DSt) (S : DH) : (sufA A i).nx τ S = A.nx (τ.set i none) S := rfl
@[simp] theorem sufA_rt (A : DEnds) (i : Nat) : (sufA A i).rt = A.rt := rfl
/-- what a try's body wishes of an exception: subs says which classes the clause takes -/
def tryX (subs : List (Addr × Bool)) (i : Nat) (ts : DTS) (A : DEnds) : DW := fun C fs τ S => ∃ b, (C, b) ∈ subs ∧ (b = true → ∀ a dd, S a = none → S dd = none → a ≠ dd → ts (sufA A i) (τ.set i (some (.ref a))) (upo (upo S dd (.xd fs)) a (.exc C dd))) ∧ (b = false → A.xe C fs τ S)
@[simp] def dTry (subs : List (Addr × Bool)) (i : Nat) (tb ts : DTS) : DTS := fun A τ S => tb { A with xe := tryX subs i ts A } τ S
section
variable {X : Cx} {x n : Str} {c : Value} {i : Nat} {body suite : List Stmt} {b₀ : Stmt} {np pos pos' : Pos} {tb ts : DTS} {subs : List (Addr × Bool)}
theorem sufA_le {A B : DEnds} (le : DEnds.Le A B) : DEnds.Le (sufA A i) (sufA B i) := ⟨fun _ _ z => le.nx _ _ z, le.rt, fun _ _ z => le.bk _ _ z, fun _ _ z => le.ct _ _ z, fun _ _ _ _ z => z⟩
theorem ds_try (hs : X.stack = X.env :: X.outer) (hf : X.env.frame = some X.env.locals) (hex : X.ex = []) (hN : X.N.Nodup) (hi : X.N[i]? = some n) (hln : X.env.kindOf n = some .local) (hc : Names X x c) (hk : ∀ p ∈ subs, PySem.W.exmOne X.K (.ref p.1) c = some p.2)
    (hb : ∀ (pn : List (Addr × Obj)) (xe : Value → Shared → Prop), PassesOwn (model X.prog X.w) X.A X.env xe → DSs (X.tr pn xe) body tb) (hsu : ∀ (a : Addr) (pn : List (Addr × Obj)), DSs (X.suite a pn) (b₀ :: suite) ts) :
    DS X (.Try body [.ExceptHandler (some (.Name x np)) (some n) (b₀ :: suite) pos'] [] [] pos) (dTry subs i tb ts) := by
  have mb := (hb [] (fun _ _ => False) PassesOwn.never).mono
  have ms := (hsu 0 []).mono
  have mx : ∀ A B, DEnds.Le A B → ∀ C fs τ S, tryX subs i ts A C fs τ S → tryX subs i ts B C fs τ S := fun A B le C fs τ S ⟨b, m, y, z⟩ => ⟨b, m, fun e a dd h1 h2 h3 => ms _ _ _ _ (sufA_le le) (y e a dd h1 h2 h3), fun e => le.xe _ _ _ _ (z e)⟩
  refine ⟨fun A B τ S le q => mb { A with xe := tryX subs i ts A } { B with xe := tryX subs i ts B } _ _ ⟨le.nx, le.rt, le.bk, le.ct, mx A B le⟩ q, ⟨fun pins s σ H D I ⟨E, τ, S, w, r, q⟩ => ?_⟩⟩
  have ok := I.ok
  have hfr : X.A.frames = some (X.env :: X.outer) := by rw [ok.frames, hs]
  have hloc : Loc X.env.scope n := .inl hln
  refine wpAny_Try_except ?_
  refine wpAny_mono ((hb (X.pn ++ pins) (fun e s₁ => wpAny (model X.prog X.w) X.A (noteFrame e X.env) (fun _ s₂ => wpAny (model X.prog X.w) X.A (setFlight e none) (fun _ s₃ =>
    wpAny (model X.prog X.w) X.A (handleBy e X.env [.ExceptHandler (some (.Name x np)) (some n) (b₀ :: suite) pos']) (SP X pins D) X.xe s₃) X.xe s₂) X.xe s₁) PassesOwn.looking).run.run [] s σ H D (I.toTry _) ⟨tryX subs i ts (dnE X.w X.K H D E), τ, S, fun u s' xx => ?_, r, q⟩) (fun f s1 hsp => ?_) (fun e s1 he => he)
  · -- an exception of the body comes
    obtain ⟨a, B, sI, pins', σ', H', cls, d, rfl, J', nb, up, sky, na, os, ag, C, fs, τ', S', dd, ws, rfl, rfl, le, rl, hx, rk, hn, b, hm, hyes, hno⟩ := xx
    have hb1 := hk _ hm
    have J : Inv X pins σ' H' sI := J'.ofTry ok
    have sky' : Sky B (X.env :: X.outer) a (Zc (.ref C) (some dd)) X.env.locals s'.heap := by rw [← hs]; exact sky
    show wpAny (model X.prog X.w) X.A (noteFrame (.ref a) X.env) _ _ _
    refine Sky.land Zc.steady hfr hf sky' fun h3 fl3 up3 => ?_
    have J3 : Inv X pins σ' H' { s' with heap := h3 } := J.landed nb fl3.1 (up.trans up3) os ag
    obtain ⟨oe3, vs3, he3, hz3, hd3⟩ := fl3.there
    have nfr : a ∉ frs (X.env :: X.outer) := fun hm => by
      obtain ⟨_, o', e', hnf⟩ := fl3.2.2.1.mem hm
      rw [he3] at e'; cases e'
      exact hnf _ hd3
    have nL : a ≠ X.env.locals := fun z => nfr (List.mem_filterMap.mpr ⟨X.env, List.mem_cons_self, by rw [hf, z]⟩)
    have nI : sI.heap.get? a = none := by
      cases e : sI.heap.get? a with
      | none => rfl
      | some o =>
        have := nb a o e (by rw [hs]; exact nfr)
        rw [fl3.2.1] at this
        cases this
    have n0 : X.s_0.heap.get? a = none := by
      cases e : X.s_0.heap.get? a with
      | none => rfl
      | some o =>
        obtain ⟨o', e'⟩ := J.base.there a o e (by rw [hex]; exact fun z => nomatch z)
        rw [nI] at e'
        cases e'
    have npn : ∀ p ∈ X.pn ++ pins, p.1 ≠ a := fun p hp z => by
      have := (J.pin p hp).1
      rw [z, nI] at this
      cases this
    have S3 := inv_suite (a := a) J3
    refine wpAny_handleBy_cons (codeAny_handlers_test ?_) (by intro q; cases q)
    have LT : PySem.W.Looks (model X.prog X.w) h3 (typeOf (.ref a)) (.ref C) := fun A Q E s k q => wpAny_typeOf_ref (k _ _ he3) (by rw [hz3.1]; exact q)
    have LM := PySem.W.exm_one (M := model X.prog X.w) (J3.kIn) LT hb1
    have test : ∀ {Q : Value → Shared → Prop} {E : Value → Shared → Prop}, Q c { s' with heap := h3 } → wpAny (model X.prog X.w) (X.A.mark (some (.ref a))) (eval (.Name x np) X.env) Q E { s' with heap := h3 } := fun {Q E} q => by
      obtain ⟨hg, hdbg, hm | ⟨hm, hv, hnn⟩⟩ := hc
      · exact ld_glob (X := X.suite a (X.pn ++ pins)) S3 hg hm q hdbg
      · exact ld_blt (X := X.suite a (X.pn ++ pins)) S3 hg hm hv q hnn hdbg
    refine test (LM.here ?_)
    cases b with
    | true =>
      refine codeAny_handlers_suite_as ?_
      refine HandSPX.lands_againZ fl3 fun h4 fl4 up4 => ?_
      have J4 : Inv X pins σ' H' { s' with heap := h4 } := J.landed nb fl4.1 ((up.trans up3).trans up4) os ag
      obtain ⟨oe4, vs4, he4, hz4, hd4⟩ := fl4.there
      have hda : a ≠ dd := fun z => by rw [← z, na] at hx; cases hx
      have oka := excx_ok (P := X.prog) (w := X.w) (H := upd H' a (excHO C dd a)) he4 hz4 hd4
      have J5 := inv_track J4 he4 hd4 na n0 nL npn oka
      have S4 := inv_suite (a := a) J5
      have l5 : LeH H' (upd H' a (excHO C dd a)) := LeH.new na
      have rp5 : Rep X.w X.K (upo S' dd (.xd fs)) H' := fun b o eb => by
        by_cases hb : b = dd
        · subst hb
          rw [upo_same] at eb
          cases eb
          exact ⟨ws, hx, rk⟩
        · rw [upo_ne hb] at eb
          exact rl.rep b o eb
      refine store_ok (X := X.suite a (X.pn ++ pins)) (v := .ref a) S4 hN hi hloc rfl (fun s5 S5 => ?_) (.inr hln)
      refine wpAny_mono ((hsu a (X.pn ++ pins)).run.run [] s5 _ _ { nx := fun σ' H' => D.nx (σ'.set i none) H', rt := D.rt, bk := fun σ' H' => D.bk (σ'.set i none) H', ct := fun σ' H' => D.ct (σ'.set i none) H' } S5 ⟨DW0, _, _, wish0, ⟨(rl.st.le l5).set i (d := .ref a) rfl, rp5.new (o := .exc C dd) na upd_same⟩, ms (sufA (dnE X.w X.K H D E) i) _ _ _ ⟨?_, ?_, ?_, ?_, fun _ _ _ _ z => z.elim⟩ (hyes rfl a dd (rl.rep.free na) hn hda)⟩) (fun f s6 hsp => ?_) (fun _ _ z => False.elim z)
      · exact fun τ6 S6 z σ6 H6 le6 r6 => z _ H6 (le.trans (l5.trans le6)) ⟨rst_unset r6.st i, r6.rep⟩
      · exact fun d S6 z v H6 le6 r6 rd => z v H6 (le.trans (l5.trans le6)) r6 rd
      · exact fun τ6 S6 z σ6 H6 le6 r6 => z _ H6 (le.trans (l5.trans le6)) ⟨rst_unset r6.st i, r6.rep⟩
      · exact fun τ6 S6 z σ6 H6 le6 r6 => z _ H6 (le.trans (l5.trans le6)) ⟨rst_unset r6.st i, r6.rep⟩
      have end_ : ∀ {σ6 : L2.St} {H6 : Hp} {Q : Shared → Prop}, Inv (X.suite a (X.pn ++ pins)) [] σ6 H6 s6 → (∀ s7, Inv X pins (σ6.set i none) H6 s7 → Q s7) →
          wpAny (model X.prog X.w) X.A (do bindName X.env n .none; unbindBehindTheSuite X.env n pos') (fun _ s7 => Q s7) X.xe s6 := fun {σ6 H6 Q} S6 hq => gone_ok (inv_unsuite ok S6) hN hi hln hq
      cases f with
      | next =>
        obtain ⟨σ6, H6, S6, q6⟩ := hsp
        exact end_ S6 fun s7 J7 => ⟨_, _, J7, q6⟩
      | brk =>
        obtain ⟨σ6, H6, S6, q6⟩ := hsp
        exact end_ S6 fun s7 J7 => ⟨_, _, J7, q6⟩
      | cont =>
        obtain ⟨σ6, H6, S6, q6⟩ := hsp
        exact end_ S6 fun s7 J7 => ⟨_, _, J7, q6⟩
      | ret u =>
        obtain ⟨v6, σ6, H6, S6, r6, q6⟩ := hsp
        exact end_ S6 fun s7 J7 => ⟨_, _, _, J7, r6, q6⟩
    | false =>
      show wpAny _ X.A (handleBy (.ref a) X.env []) _ _ _
      refine wpAny_handleBy_nil ?_
      obtain ⟨k1, k2, k3, oe, vs, T, oT, ts', he, hz, hd, h1, hr⟩ := id fl3
      unfold PySem.passOn
      refine wpAny_bind (wpAny_field he hd h1 ?_)
      rw [if_neg (show ¬ ((Value.ref T == Value.none) = true) from by simp)]
      have fin : wpAny (model X.prog X.w) X.A (setFlight (.ref a) X.env.frame) (fun _ s4 => wpAny (model X.prog X.w) X.A (throw (.ref a) : Sem Flow) (SP X pins D) X.xe s4) X.xe { s' with heap := h3 } := by
        rw [hf]
        refine HandSPX.setFlight_upZ fl3 fun h4 hh4 up4 => wpAny_throw (w _ _ ?_)
        exact ⟨a, B, sI, pins, σ', H', _, _, rfl, J, nb, (up.trans up3).trans up4, .inr (.inr (by rw [hs]; exact hh4)), na, os, ag, C, fs, τ', S', dd, ws, rfl, rfl, le, rl, hx, rk, hn, hno rfl⟩
      first
        | exact wpAny_bind (wpAny_pure (wpAny_bind fin))
        | exact wpAny_bind fin
  · cases f with
    | next =>
      obtain ⟨σ', H', J', q⟩ := hsp
      exact wpAny_execs_nil ⟨σ', H', J'.ofTry ok, q⟩
    | brk =>
      obtain ⟨σ', H', J', q⟩ := hsp
      exact ⟨σ', H', J'.ofTry ok, q⟩
    | cont =>
      obtain ⟨σ', H', J', q⟩ := hsp
      exact ⟨σ', H', J'.ofTry ok, q⟩
    | ret u =>
      obtain ⟨v, σ', H', J', r, q⟩ := hsp
      exact ⟨v, σ', H', J'.ofTry ok, r, q⟩
end
/-! ### small things -/
theorem _root_.L2H.RoomH.units {A : Around} {k : Nat} (hr : L2H.RoomH k A) : A.units + 64 < cLine := by
  have := hr.un
  omega
def basexB (K : PySem.W.Frag) (B : Addr) : Bool := PySem.W.readsIn K B (.type "type") && (decide (PySem.W.specialIn K (.ref B) "__getattribute__" = some (some (.builtin "type.__getattribute__"))) &&
  match PySem.W.findCls K (.ref B) (.type "type") "__init__" with | some (.val v) => decide (v = .builtin "ValueError.__init__") | _ => false)
theorem base_of {K : PySem.W.Frag} {B : Addr} (h : basexB K B = true) : BaseI K B := by
  simp only [basexB, Bool.and_eq_true, decide_eq_true_eq] at h
  refine ⟨h.1, h.2.1, ?_⟩
  have h3 := h.2.2
  split at h3
  · rename_i v e
    rw [e, of_decide_eq_true h3]
  · cases h3
section
variable {K : PySem.W.Frag} {f : Str} {C fI : Addr} {fl : List Str} {Cs : List Addr} {b : Bool} {subs : List (Addr × Bool)}
theorem fx_nil : ∀ C ∈ ([] : List Addr), XfC K C ∧ NoAttr K C f := fun _ h => nomatch h
theorem fx_cons (x : ExT K C fI fl) (h : f ∈ fl) (r : ∀ C ∈ Cs, XfC K C ∧ NoAttr K C f) : ∀ D ∈ C :: Cs, XfC K D ∧ NoAttr K D f := fun D hD => (List.mem_cons.mp hD).elim (fun e => e ▸ ⟨x.xf, x.no f h⟩) (r D)
theorem xc_nil : ∀ p ∈ ([] : List (Addr × Bool)), ExcC K p.1 := fun _ h => nomatch h
theorem xc_cons (x : ExT K C fI fl) (r : ∀ p ∈ subs, ExcC K p.1) : ∀ p ∈ (C, b) :: subs, ExcC K p.1 := fun p hp => (List.mem_cons.mp hp).elim (fun e => e ▸ x.ec) (r p)
end
/-- d[k] of a written dict of texts' -/
def dKixK (tbl : List (Str × D)) (Q : DK) : DK := fun d S => match d with | .str z => opt (tbl.lookup z) fun y => Q y S | _ => False
@[simp] def dKix (tbl : List (Str × D)) (tk : DTE) : DTE := fun E τ S Q => tk E τ S (dKixK tbl Q)
theorem dKixK_mono {tbl : List (Str × D)} {Q Q' : DK} (k : ∀ d S', Q d S' → Q' d S') (d : D) (S : DH) (h : dKixK tbl Q d S) : dKixK tbl Q' d S := by
  cases d with
  | str z => exact opt_mono (fun _ z => k _ _ z) h
  | _ => exact h
/-- what a written dict holds -/
structure KTbl (K : PySem.W.Frag) (w : World) (a : Addr) (tbl : List (Str × D)) : Prop where
  at_ : ∀ z y, tbl.lookup z = some y → ∃ v, KDct K w a z v ∧ ∀ H, RD K H y v
section
variable {X : Cx} {x : Str} {a : Addr} {tbl : List (Str × D)} {b : Expr} {tb : DTE} {p pos : Pos}
theorem de_kix (T : KTbl X.K X.w a tbl) (hg : Gl X x) (hm : X.mg x = some (.ref a)) (hb : DE X b tb) (hs : PlainIx b := by exact fun _ _ => rfl) (hdb : (x == ("__debug__" : Str)) = false := by decide) : DE X (.Subscript (.Name x p) b pos) (dKix tbl tb) := by
  refine ⟨fun E E' τ S Q Q' hE k q => hb.mono _ _ _ _ _ _ hE (dKixK_mono k) q, pE_imp (pe_ix ix_kdict (pe_glob (v := .ref a) hg hm rfl hdb) hb.run hs) fun σ H Q ⟨E, τ, S, w, r, q⟩ => ?_⟩
  refine hb.to w r q fun d S1 v H1 le1 w1 r1 rd1 z => ?_
  cases d with
  | str s =>
    cases rd1
    obtain ⟨y, e, z⟩ := opt_ex z
    obtain ⟨u, kd, rd⟩ := T.at_ _ _ e
    exact ⟨a, s, u, rfl, rfl, kd, z u H1 le1 r1.rep (rd H1)⟩
  | _ => exact z.elim
end
theorem kt_nil {K : PySem.W.Frag} {w : World} {a : Addr} : KTbl K w a [] := ⟨fun _ _ h => nomatch h⟩
theorem kt_cons {K : PySem.W.Frag} {w : World} {a : Addr} {tbl : List (Str × D)} {es : Array DictEntry} {n : Nat} {z : Str} {y : D} {u : Value} {v : V} (hl : K.lookup a = some ⟨.type "dict", none, .dict es n, #[]⟩) (hk : PySem.W.KeysLit w.params es.toList) (e : PySem.W.nsIn K a z = some (some u)) (ru : RelV v u) (rd : ∀ H, RD K H y v)
    (T : KTbl K w a tbl) : KTbl K w a ((z, y) :: tbl) := ⟨fun z' y' h => by
  simp only [List.lookup_cons] at h
  split at h
  · rename_i ez
    cases h
    have := beq_iff_eq.mp ez
    subst this
    exact ⟨v, ⟨es, n, u, hl, hk, e, ru⟩, rd⟩
  · exact T.at_ z' y' h⟩
/-! count, index of truths in a list of truths -/
def mCountB : RMD := fun d ds S Q => ∃ (y : Bool) (xs : List Bool), ds = [.bl y] ∧ seqD S d = some (xs.map .bl) ∧ Q (.int (xs.count y : Nat)) S
def mIndexB : RMD := fun d ds S Q => ∃ (y : Bool) (xs : List Bool) (j : Nat), ds = [.bl y] ∧ seqD S d = some (xs.map .bl) ∧ xs[j]? = some y ∧ (∀ m, m < j → xs[m]? ≠ some y) ∧ Q (.int j) S
section
variable {X : Cx}
/-- str(x), x an int, a text or a tuple of data -/
@[simp] def cStrG : RCD := fun ds S Q => match ds with
  | [.int i] => i.natAbs.log2 < 1920 ∧ Q (.str (toString i)) S
  | [.str a] => Q (.str a) S
  | [.tup xs] => cRepr [.tup xs] S Q
  | _ => False
end
end Dt
set_option maxRecDepth 100000
set_option maxHeartbeats 4000000
namespace Rc
open PySem PySem.Spec L2
open Sh
open Dt hiding nkeys
/-! ShBk: patterns backwards. -/
mutual
def bk : Pt → Pt
  | .step b w => .step (!b) w
  | .seq b ps => .seq b (if b then (bks ps).reverse else bks ps)
  | .many p => .many (bk p)
  | .stay => .stay
  | .mark b m => .mark b m
def bks : List Pt → List Pt
  | [] => []
  | p :: ps => bk p :: bks ps
end
theorem bks_map (ps : List Pt) : bks ps = ps.map bk := by
  induction ps with
  | nil => rfl
  | cons p ps ih => show bk p :: bks ps = _; rw [ih]; rfl
def sp_backwards (k : Nat) : DSp := fun ds S Q _ => ∃ p : Pt, ds = [ptD p] ∧ p.deep ≤ k + 1 ∧ (∀ q ∈ p.all, q.kids.length ≤ 1000) ∧ Q (ptD (bk p)) S
theorem sp_backwards_mono (k : Nat) : SpMono (sp_backwards k) := fun ds S Q Q' E E' kk _ ⟨d, h1, h2, h3, h⟩ => ⟨d, h1, h2, h3, kk _ _ h⟩
theorem kids_few {n : Nat} {p q : Pt} (h : ∀ r ∈ p.all, r.kids.length ≤ n) (hq : q ∈ p.kids) : ∀ r ∈ q.all, r.kids.length ≤ n := fun r hr => h r (by
  rw [Pt.all_kids]
  exact List.mem_cons_of_mem _ (List.mem_flatMap.mpr ⟨q, hq, hr⟩))
def t_backwards (spR : DSp) : DTS := (dSeq (dIf (dTest (dOp (dEq false) (dOp dIxS (dVar 0) (dC (.int 0))) (dC (.str "step"))))
      (dRet (dTup (dCons (dC (.str "step")) (dCons (dKix [("on", .str "back"), ("back", .str "on")] (dOp dIxS (dVar 0) (dC (.int 1)))) (dCons (dOp dIxS (dVar 0) (dC (.int 2))) dNil)))))
      dNx)
    (dSeq (dIf (dTest (dOp (dEq false) (dOp dIxS (dVar 0) (dC (.int 0))) (dC (.str "many"))))
      (dRet (dTup (dCons (dC (.str "many")) (dCons (dCall spR (dCons (dOp dIxS (dVar 0) (dC (.int 1))) dNil)) dNil))))
      dNx)
    (dSeq (dIf (dTest (dOp (dEq false) (dOp dIxS (dVar 0) (dC (.int 0))) (dC (.str "then"))))
      (dRet (dTup (dCons (dC (.str "then")) (dCons (dCB cTuple (dCons (dFz (dLc (dRev (dOp dIxS (dVar 0) (dC (.int 1)))) (dGN 1) dYes (dCall spR (dCons (dVar 1) dNil)) [1])) dNil)) dNil))))
      dNx)
    (dSeq (dIf (dTest (dOp (dEq false) (dOp dIxS (dVar 0) (dC (.int 0))) (dC (.str "either"))))
      (dRet (dTup (dCons (dC (.str "either")) (dCons (dCB cTuple (dCons (dFz (dLc (dSeqI (dOp dIxS (dVar 0) (dC (.int 1)))) (dGN 1) dYes (dCall spR (dCons (dVar 1) dNil)) [1])) dNil)) dNil))))
      dNx)
    (dRet (dVar 0))))))
abbrev N_backwards : List Str := ["pattern", "one"]
theorem bks_lc {k : Nat} {L : List Pt} {x0 : Option D} {S : DH} {Q : DK} (hl : L.length ≤ 1000) (h0 : ∀ q ∈ L, q.deep ≤ k ∧ ∀ r ∈ q.all, r.kids.length ≤ 1000) (h : Q (.rol (ptDs (L.map bk))) S) :
    newO S (.lst []) fun p S1 => dLcL (dGN 1) dYes (dCall (prevSp sp_backwards k) (dCons (dVar 1) dNil)) DW0 [x0, none] (fun _ => True) p (fzK Q (.ref p)) (ptDs L) S1 := by
  refine lcF_inv (fun i acc S1 => acc = ptDs ((L.map bk).take i) ∧ S1 = S) ⟨rfl, rfl⟩ (fun _ _ _ _ _ _ _ => trivial) ?_ (by rw [ptDs_len]; exact Nat.lt_of_le_of_lt hl (by decide)) ?_
  · rintro i d acc S1 q N hd ⟨rfl, rfl⟩ hq ha hN
    have hi : i < L.length := by
      have := (List.getElem?_eq_some_iff.mp hd).1
      rwa [ptDs_len] at this
    rw [ptDs_at hi] at hd
    cases hd
    have hm := h0 _ (List.getElem_mem hi)
    obtain ⟨m, rfl⟩ : ∃ m, k = m + 1 := ⟨k - 1, by have h1 := hm.1; have : 1 ≤ L[i].deep := by { cases L[i] <;> simp [Pt.deep] }; omega⟩
    simp [prevSp]
    refine ⟨L[i], rfl, hm.1, hm.2, ?_⟩
    simp
    refine ⟨ha, hN _ _ hq ⟨?_, rfl⟩ (by simp)⟩
    rw [List.take_succ, List.getElem?_map, List.getElem?_eq_getElem hi, ptDs_app]
    rfl
  · rintro acc S1 ⟨rfl, rfl⟩
    rw [List.take_of_length_le (by rw [ptDs_len, List.length_map]; exact Nat.le_refl _)]
    exact h
theorem r_backwards (k : Nat) (ds S Q E) (h : sp_backwards k ds S Q E) : t_backwards (prevSp sp_backwards k) (dEnd Q E) (dstart N_backwards ds) S := by
  obtain ⟨p, rfl, hd, hf, h⟩ := h
  cases p with
  | stay => simp [t_backwards, dstart, ptD]; exact .same h
  | mark b m => cases b <;> (simp [t_backwards, dstart, ptD]; exact .same h)
  | step b w => cases b <;> (simp [t_backwards, dstart, ptD]; exact .same h)
  | many p =>
    obtain ⟨m, rfl⟩ : ∃ m, k = m + 1 := ⟨k - 1, by rw [Pt.deep_many] at hd; have : 1 ≤ p.deep := by { cases p <;> simp [Pt.deep] }; omega⟩
    rw [Pt.deep_many] at hd
    simp [t_backwards, dstart, ptD]
    refine ⟨p, rfl, by omega, kids_few hf (by simp [Pt.kids]), ?_⟩
    exact .same h
  | seq b ps =>
    have hl : ps.length ≤ 1000 := hf _ (Pt.self_all _)
    rw [Pt.deep_seq] at hd
    have hL : ∀ q ∈ ps, q.deep ≤ k ∧ ∀ r ∈ q.all, r.kids.length ≤ 1000 := fun q hq => ⟨by have := deeps_mem hq; omega, kids_few hf (by simpa [Pt.kids] using hq)⟩
    have hb := bks_map ps
    cases b
    · simp [-prevSp, t_backwards, dstart, ptD]
      refine bks_lc hl hL ?_
      simp
      rw [← hb]
      exact .same h
    · simp [-prevSp, t_backwards, dstart, ptD]
      rw [show (ptDs ps).reverse = ptDs ps.reverse by rw [ptDs_map, ptDs_map, List.map_reverse]]
      refine bks_lc (by simpa using hl) (fun q hq => hL q (by simpa using hq)) ?_
      simp
      rw [← hb]
      exact .same h
end Rc
set_option maxRecDepth 100000
set_option maxHeartbeats 4000000
namespace Rc
open PySem PySem.Spec L2
open Sh
open Dt hiding nkeys
/-! ShC: the draws of the laws k60-k75. -/
/-- the feed -/
def FeedC (n : Nat) (o : Ob) : Prop := ∃ (cs : List Int) (a l : Int), o = .dK [(.inr "cells", .rol (cs.map D.int)), (.inr "at", .int a), (.inr "left", .int l)] ∧ 0 ≤ a ∧ a ≤ n ∧ 0 ≤ l
theorem FeedC.more {n m : Nat} {o : Ob} (h : FeedC n o) (l : n ≤ m) : FeedC m o := by
  obtain ⟨cs, a, k, rfl, h1, h2, h3⟩ := h
  exact ⟨cs, a, k, rfl, h1, by omega, h3⟩
theorem FeedC.nl {n : Nat} {o : Ob} (h : FeedC n o) {q : Addr} {S : DH} (e : S q = some o) : ∀ ds, S q ≠ some (.lst ds) := fun ds z => by
  obtain ⟨cs, a, k, rfl, _⟩ := h
  rw [e] at z
  cases z
def sp_l_feed : DSp := fun ds S Q _ => ∃ ns : List Int, ds = [.rol (ns.map D.int)] ∧ ns.length ≤ 63 ∧ ∀ p o, S p = none → FeedC 0 o → Q (.ref p) (upo S p o)
theorem sp_l_feed_mono : SpMono sp_l_feed := fun ds S Q Q' E E' k _ ⟨a, h1, h2, h⟩ => ⟨a, h1, h2, fun p o e f => k _ _ (h p o e f)⟩
def sp_l_draw : DSp := fun ds S Q _ => ∃ (p : Addr) (m n : Nat) (o : Ob), ds = [.ref p, .int (m : Nat)] ∧ 0 < m ∧ m < 1000000 ∧ S p = some o ∧ FeedC n o ∧ n < 2 ^ 90 ∧
  ∀ (v : Nat) o', v < m → FeedC (n + 1) o' → Q (.int (v : Nat)) (upo S p o')
theorem sp_l_draw_mono : SpMono sp_l_draw := fun ds S Q Q' E E' k _ ⟨p, m, n, o, h1, h2, h3, h4, h5, h6, h⟩ => ⟨p, m, n, o, h1, h2, h3, h4, h5, h6, fun v o' a b => k _ _ (h v o' a b)⟩
def cNames : List (List Str) := [["a", "ab", "abc", "b", "ba", "bab", "c"], ["on", "back", "at", "stay", "many", "then", "tie"], ["k", "w", "xxxxxxxx", "xxxxxxx", "m", "q", "z"]]
def sp_l_names : DSp := fun ds S Q _ => ∃ (p : Addr) (m n : Nat) (o : Ob), ds = [.ref p, .int (m : Nat)] ∧ m ≤ 7 ∧ S p = some o ∧ FeedC n o ∧ n < 2 ^ 80 ∧
  ∀ (ys : List Str) (o' : Ob), ys.length = m → (∀ y ∈ ys, Nm y) → ys.Nodup → FeedC (n + 2) o' → Q (.rol (strsD ys)) (upo S p o')
/-- a pattern over these words and marks -/
def OkC (ws ms : List Str) (p : Pt) : Prop := ∀ q ∈ p.all, match q with | .step _ w => w = "*" ∨ w ∈ ws | .mark _ m => m ∈ ms | .seq _ ps => ps.length ≤ 4 | _ => True
def sp_l_leaf : DSp := fun ds S Q _ => ∃ (p : Addr) (ws ms : List Str) (n : Nat) (o : Ob), ds = [.ref p, .rol (strsD ws), .rol (strsD ms)] ∧ ws.length ≤ 100 ∧ ms.length ≤ 100 ∧ (∀ m ∈ ms, Nm m) ∧ S p = some o ∧ FeedC n o ∧ n < 2 ^ 80 ∧
  ∀ (t : Pt) (o' : Ob), t.isLeaf = true → OkC ws ms t → FeedC (n + 2) o' → Q (ptD t) (upo S p o')
theorem sp_l_leaf_mono : SpMono sp_l_leaf := fun ds S Q Q' E E' k _ ⟨p, ws, ms, n, o, h1, h2, h3, h4, h5, h6, h7, h⟩ => ⟨p, ws, ms, n, o, h1, h2, h3, h4, h5, h6, h7, fun t o' a b c => k _ _ (h t o' a b c)⟩
/-- what a pattern is drawn from: a bag, of which each part takes one -/
def sp_l_pattern (k : Nat) : DSp := fun ds S Q _ => ∃ (p q : Addr) (ws ms : List Str) (j b n : Nat) (o : Ob), ds = [.ref p, .rol (strsD ws), .rol (strsD ms), .ref q, .int (j : Nat)] ∧ ws.length ≤ 100 ∧ ms.length ≤ 100 ∧ (∀ m ∈ ms, Nm m) ∧ j ≤ k ∧ S p = some o ∧ FeedC n o ∧ 1 ≤ b ∧ b ≤ 1000 ∧ S q = some (.lst [.int (b : Nat)]) ∧ n + 4 * b < 2 ^ 80 ∧
  ∀ (t : Pt) (o' : Ob) (c : Nat), OkC ws ms t → t.deep ≤ k + 1 → t.all.length + c = b → FeedC (n + 4 * (b - c)) o' → Q (ptD t) (upo (upo S p o') q (.lst [.int (c : Nat)]))
theorem sp_l_pattern_mono (k : Nat) : SpMono (sp_l_pattern k) := fun ds S Q Q' E E' kk _ ⟨p, q, ws, ms, j, b, n, o, h1, h2, h3, h4, h5, h6, h7, h8, h9, h10, h11, h⟩ => ⟨p, q, ws, ms, j, b, n, o, h1, h2, h3, h4, h5, h6, h7, h8, h9, h10, h11, fun t o' c a1 a2 a3 a4 => kk _ _ (h t o' c a1 a2 a3 a4)⟩
theorem sp_l_names_mono : SpMono sp_l_names := fun ds S Q Q' E E' k _ ⟨p, m, n, o, h1, h2, h3, h4, h5, h⟩ => ⟨p, m, n, o, h1, h2, h3, h4, h5, fun ys o' a b c d => k _ _ (h ys o' a b c d)⟩
def t_l_feed : DTS := (dRet (dDisp [("cells", (dCB cListAF (dCons (dSlF (dVar 0) dNoP (dSoP (dC (.int 63)))) dNil))), ("at", (dC (.int 0))), ("left", (dC (.int 0)))]))
abbrev N_l_feed : List Str := ["_law_script"]
def t_l_draw : DTS := (dSeq (dIf (dTest (dOp rGt (dOp dIxS (dVar 0) (dC (.str "left"))) (dC (.int 0))))
      (dSeq (dAsg (dOp rMod (dOp dIxS (dVar 0) (dC (.str "left"))) (dVar 1)) (dGN 2))
    (dSeq (dPut (dVar 0) (dC (.str "left")) (dOp rFdiv (dOp dIxS (dVar 0) (dC (.str "left"))) (dVar 1)))
    (dRet (dVar 2))))
      dNx)
    (dSeq (dAsg (dOp dIxS (dVar 0) (dC (.str "at"))) (dGN 3))
    (dSeq (dPut (dVar 0) (dC (.str "at")) (dOp dAddF (dVar 3) (dC (.int 1))))
    (dSeq (dAsg (dVar 3) (dGN 4))
    (dSeq (dIf (dTest (dOp (dEq true) (dOp dIxS (dVar 0) (dC (.str "cells"))) (dLstF dNil)))
      (dAsg (dOp dIxS (dOp dIxS (dVar 0) (dC (.str "cells"))) (dOp rMod (dVar 3) (dCB cLen (dCons (dOp dIxS (dVar 0) (dC (.str "cells"))) dNil)))) (dGN 4))
      dNx)
    (dSeq (dIf (dTest (dOp rGe (dVar 4) (dOp rPow (dC (.int 10)) (dC (.int 18)))))
      (dSeq (dPut (dVar 0) (dC (.str "left")) (dOp rFdiv (dVar 4) (dVar 1)))
    (dRet (dOp rMod (dVar 4) (dVar 1))))
      dNx)
    (dSeq (dAsg (dOp rMod (dOp dMul (dOp dAddF (dOp dAddF (dOp dAddF (dOp rMod (dVar 4) (dC (.int 1000003))) (dOp dMul (dOp dMul (dC (.int 7)) (dVar 3)) (dVar 3))) (dOp dMul (dC (.int 31)) (dVar 3))) (dC (.int 1))) (dC (.int 48271))) (dC (.int 999983))) (dGN 5))
    (dSeq (dAsg (dOp rMod (dOp dMul (dOp dAddF (dOp dMul (dVar 5) (dVar 5)) (dVar 3)) (dC (.int 30269))) (dC (.int 2147483629))) (dGN 5))
    (dRet (dOp rMod (dOp rFdiv (dVar 5) (dC (.int 7))) (dVar 1)))))))))))
abbrev N_l_draw : List Str := ["_law_feed_here", "_law_many", "_law_found", "_law_at", "_law_cell", "_law_number"]
def t_l_names : DTS := (dSeq (dAsg (dLst (dCons (dLstF (dCons (dC (.str "a")) (dCons (dC (.str "ab")) (dCons (dC (.str "abc")) (dCons (dC (.str "b")) (dCons (dC (.str "ba")) (dCons (dC (.str "bab")) (dCons (dC (.str "c")) dNil)))))))) (dCons (dLstF (dCons (dC (.str "on")) (dCons (dC (.str "back")) (dCons (dC (.str "at")) (dCons (dC (.str "stay")) (dCons (dC (.str "many")) (dCons (dC (.str "then")) (dCons (dC (.str "tie")) dNil)))))))) dNil))) (dGN 2))
    (dSeq (dDrop (dBM "list" mAppend (dVar 2) (dCons (dLstF (dCons (dC (.str "k")) (dCons (dC (.str "w")) (dCons (dC (.str "xxxxxxxx")) (dCons (dC (.str "xxxxxxx")) (dCons (dC (.str "m")) (dCons (dC (.str "q")) (dCons (dC (.str "z")) dNil)))))))) dNil)))
    (dSeq (dAsg (dOp dIxS (dVar 2) (dCall sp_l_draw (dCons (dVar 0) (dCons (dC (.int 3)) dNil)))) (dGN 3))
    (dSeq (dAsg (dCall sp_l_draw (dCons (dVar 0) (dCons (dC (.int 7)) dNil))) (dGN 4))
    (dRet (dSlF (dOp dAddF (dSlF (dVar 3) (dSoP (dVar 4)) dNoP) (dSlF (dVar 3) dNoP (dSoP (dVar 4)))) dNoP (dSoP (dVar 1))))))))
abbrev N_l_names : List Str := ["_law_feed_here", "_law_many", "_law_some", "_law_names_here", "_law_at"]
def t_l_leaf : DTS := (dSeq (dAsg (dCall sp_l_draw (dCons (dVar 0) (dCons (dC (.int 9)) dNil))) (dGN 3))
    (dSeq (dIf (dTest (dOp (dEq false) (dVar 3) (dC (.int 0))))
      (dRet (dTup (dCons (dC (.str "stay")) dNil)))
      dNx)
    (dSeq (dIf (dAnd (dTest (dOp rLt (dVar 3) (dC (.int 3)))) (dTest (dOp (dEq true) (dVar 2) (dLstF dNil))))
      (dRet (dTup (dCons (dOp dIxS (dLstF (dCons (dC (.str "at")) (dCons (dC (.str "off")) dNil))) (dOp rSub (dVar 3) (dC (.int 1)))) (dCons (dOp dIxS (dVar 2) (dCall sp_l_draw (dCons (dVar 0) (dCons (dCB cLen (dCons (dVar 2) dNil)) dNil)))) dNil))))
      dNx)
    (dRet (dTup (dCons (dC (.str "step")) (dCons (dOp dIxS (dLstF (dCons (dC (.str "on")) (dCons (dC (.str "on")) (dCons (dC (.str "back")) dNil)))) (dOp rMod (dVar 3) (dC (.int 3)))) (dCons (dOp dIxS (dOp dAddF (dVar 1) (dLstF (dCons (dC (.str "*")) dNil))) (dCall sp_l_draw (dCons (dVar 0) (dCons (dOp dAddF (dCB cLen (dCons (dVar 1) dNil)) (dC (.int 1))) dNil)))) dNil))))))))
abbrev N_l_leaf : List Str := ["_law_feed_here", "_law_words", "_law_marks", "_law_way"]
def t_l_pattern (spR : DSp) : DTS := (dSeq (dPut (dVar 3) (dC (.int 0)) (dOp rSub (dOp dIxS (dVar 3) (dC (.int 0))) (dC (.int 1))))
    (dSeq (dAsg (dCall sp_l_draw (dCons (dVar 0) (dCons (dC (.int 8)) dNil))) (dGN 5))
    (dSeq (dIf (dOr (dTest (dOp rLt (dVar 5) (dC (.int 3)))) (dOr (dTest (dOp rLt (dOp dIxS (dVar 3) (dC (.int 0))) (dC (.int 1)))) (dTest (dOp (dEq false) (dVar 4) (dC (.int 0))))))
      (dRet (dCall sp_l_leaf (dCons (dVar 0) (dCons (dVar 1) (dCons (dVar 2) dNil)))))
      dNx)
    (dSeq (dIf (dTest (dOp (dEq false) (dVar 5) (dC (.int 3))))
      (dRet (dTup (dCons (dC (.str "many")) (dCons (dCall spR (dCons (dVar 0) (dCons (dVar 1) (dCons (dVar 2) (dCons (dVar 3) (dCons (dOp rSub (dVar 4) (dC (.int 1))) dNil)))))) dNil))))
      dNx)
    (dSeq (dAsg (dLst dNil) (dGN 6))
    (dSeq (dFor (dRng1 (dCons (dOp dIxS (dLstF (dCons (dC (.int 2)) (dCons (dC (.int 3)) (dCons (dC (.int 0)) (dCons (dC (.int 1)) (dCons (dC (.int 2)) (dCons (dC (.int 2)) (dCons (dC (.int 4)) (dCons (dC (.int 3)) dNil))))))))) (dCall sp_l_draw (dCons (dVar 0) (dCons (dC (.int 8)) dNil)))) dNil)) (dGN 7)
      (dIf (dTest (dOp rGt (dOp dIxS (dVar 3) (dC (.int 0))) (dC (.int 0))))
      (dDrop (dBM "list" mAppend (dVar 6) (dCons (dCall spR (dCons (dVar 0) (dCons (dVar 1) (dCons (dVar 2) (dCons (dVar 3) (dCons (dOp rSub (dVar 4) (dC (.int 1))) dNil)))))) dNil)))
      dNx))
    (dRet (dTup (dCons (dOp dIxS (dLstF (dCons (dC (.str "then")) (dCons (dC (.str "either")) dNil))) (dOp rMod (dVar 5) (dC (.int 2)))) (dCons (dCB cTuple (dCons (dVar 6) dNil)) dNil))))))))))
abbrev N_l_pattern : List Str := ["_law_feed_here", "_law_words", "_law_marks", "_law_bag", "_law_deep", "_law_way", "_law_some", "_law_k"]
theorem ints_cut63 (ns : List Int) (h : ns.length ≤ 63) : cutD (ns.map D.int) none (some 63) = ns.map D.int := by
  have := cutD_take (ns.map D.int) 63
  rw [List.take_of_length_le (by simpa using h)] at this
  exact this
theorem r_l_feed (ds S Q E) (h : sp_l_feed ds S Q E) : t_l_feed (dEnd Q E) (dstart N_l_feed ds) S := by
  obtain ⟨ns, rfl, hl, h⟩ := h
  simp [t_l_feed, dstart]
  intro p hp
  simp [mergeD, pt, lk, ints_cut63 ns hl, upo_upo]
  exact .same (h p _ hp ⟨ns, 0, 0, rfl, by decide, by decide, by decide⟩)
theorem r_l_draw (ds S Q E) (h : sp_l_draw ds S Q E) : t_l_draw (dEnd Q E) (dstart N_l_draw ds) S := by
  obtain ⟨p, m, n, o, rfl, h2, h3, h4, ⟨cs, a, l, rfl, h5, h6, h7⟩, h8, h⟩ := h
  have b1 : Bd 91 a := Bd.nat (n := n) h5 h6 (by omega)
  have bm : ∀ (x : Int) (m : Int), 0 < m → m < 2147483648 → Bd 32 (x % m) := fun x m m0 m1 => Bd.mod m0 (by unfold Bd; omega)
  have c0 : CPow 10 18 := by unfold CPow; decide
  have hm : ((m : Nat) : Int) ≠ 0 := by omega
  have c1 : ∀ x : Int, CDivW x (m : Nat) := fun x => wide_div (by omega) (b := 100) (by omega) (by decide) (by decide)
  have c1' : ∀ x : Int, CDivW x 7 := fun x => wide_div (by omega) (b := 100) (by omega) (by decide) (by decide)
  have c2 := (show Bd 3 7 by unfold Bd; decide).cm b1
  have c3 := ((show Bd 3 7 by unfold Bd; decide).mul b1).cm b1
  have c4 := (show Bd 5 31 by unfold Bd; decide).cm b1
  have b2 : ∀ c : Int, Bd 190 (c % 1000003 + 7 * a * a + 31 * a + 1) := fun c => Bd.add (a := 189) (Bd.add (a := 188) (Bd.add (a := 187) ((bm c 1000003 (by decide) (by decide)).mono (by decide)) ((((show Bd 3 7 by unfold Bd; decide).mul b1).mul b1).mono (by decide))) (((show Bd 5 31 by unfold Bd; decide).mul b1).mono (by decide))) (show Bd 189 1 by unfold Bd; decide)
  have c5 := fun c => (b2 c).cm (show Bd 16 48271 by unfold Bd; decide)
  have b3 : ∀ x : Int, Bd 32 (x % 999983) := fun x => bm x 999983 (by decide) (by decide)
  have c6 := fun x => (b3 x).cm (b3 x)
  have b4 : ∀ x : Int, Bd 192 (x % 999983 * (x % 999983) + a) := fun x => Bd.add (a := 191) (((b3 x).mul (b3 x)).mono (by decide)) (b1.mono (by decide))
  have c7 := fun x => (b4 x).cm (show Bd 15 30269 by unfold Bd; decide)
  have fin : ∀ (x a' l' : Int), 0 ≤ a' → a' ≤ n + 1 → 0 ≤ l' → Rt Q (.int (x % (m : Nat))) (upo S p (.dK [(.inr "cells", .rol (cs.map D.int)), (.inr "at", .int a'), (.inr "left", .int l')])) := fun x a' l' g1 g2 g3 => by
    obtain ⟨v, hv⟩ := Int.eq_ofNat_of_zero_le (Int.emod_nonneg x hm)
    have hv2 := Int.emod_lt_of_pos x (show (0 : Int) < (m : Nat) by omega)
    rw [hv] at hv2 ⊢
    exact .same (h v _ (by omega) ⟨cs, a', l', rfl, g1, by omega, g3⟩)
  unfold t_l_draw
  refine dSeqIf_gen fun A B R hA hB hR => ?_
  simp [dstart, h4, lk]
  split
  · subst hA
    simp [h4, lk, pt, h2, c1]
    exact fin l a (l / (m : Nat)) h5 (by omega) (Int.ediv_nonneg h7 (by omega))
  · subst hB
    simp
    subst hR
    refine dSeq_gen fun R hR => ?_
    simp [h4, lk]
    subst hR
    refine dSeq_gen fun R hR => ?_
    simp [h4, lk, pt]
    have up : ∀ o', upo (upo S p (.dK [(.inr "cells", .rol (cs.map D.int)), (.inr "at", .int (a + 1)), (.inr "left", .int l)])) p o' = upo S p o' := fun o' => upo_upo
    generalize hS1 : upo S p (.dK [(.inr "cells", .rol (cs.map D.int)), (.inr "at", .int (a + 1)), (.inr "left", .int l)]) = S1 at up ⊢
    have e1 : S1 p = some (.dK [(.inr "cells", .rol (cs.map D.int)), (.inr "at", .int (a + 1)), (.inr "left", .int l)]) := by rw [← hS1]; simp
    subst hR
    refine dSeq_gen fun R hR => ?_
    simp
    subst hR
    refine dSeqIf_gen fun A B R hA hB hR => ?_
    have tail : ∀ c : Int, R (dEnd Q E) [some (.ref p), some (.int (m : Nat)), none, some (.int a), some (.int c), none] S1 := by
      intro c
      subst hR
      refine dSeqIf_gen fun A B R hA hB hR => ?_
      simp [c0]
      split
      · subst hA
        simp [e1, lk, pt, h2, c1, up]
        exact fin c (a + 1) (c / (m : Nat)) (by omega) (by omega) (Int.ediv_nonneg (by omega) (by omega))
      · subst hB
        simp
        subst hR
        simp [c2, c3, c4, c5, c6, c7, c1', h2]
        have := fin ((((c % 1000003 + 7 * a * a + 31 * a + 1) * 48271 % 999983) * ((c % 1000003 + 7 * a * a + 31 * a + 1) * 48271 % 999983) + a) * 30269 % 2147483629 / 7) (a + 1) l (by omega) (by omega) h7
        rw [hS1] at this
        exact this
    simp [e1, lk]
    refine dEq_sm (Sm_rol.mpr fun d hd => ?_) (Sm_rol.mpr fun d hd => nomatch hd) ?_
    · obtain ⟨i, _, rfl⟩ := List.mem_map.mp hd
      exact int_sm i 59
    · by_cases hc : cs = []
      · subst hc
        simp
        subst hB
        simp
        exact tail a
      · have hne : ¬ cs.map D.int = [] := by simpa using hc
        simp [hc]
        subst hA
        have hl0 : 0 < cs.length := List.length_pos_iff.mpr hc
        simp [e1, lk, hl0]
        have hj0 := Int.emod_nonneg a (show ((cs.length : Nat) : Int) ≠ 0 by omega)
        have hj1 := Int.emod_lt_of_pos a (show (0 : Int) < (cs.length : Nat) by omega)
        refine opt_at hj0 (by simpa using hj1) fun d hd => ?_
        obtain ⟨c, _, rfl⟩ := List.mem_map.mp hd
        exact tail c
theorem leaf_okc {ws ms : List Str} {t : Pt} (hl : t.isLeaf = true) (h : match t with | .step _ w => w = "*" ∨ w ∈ ws | .mark _ m => m ∈ ms | _ => True) : OkC ws ms t := fun q hq => by
  cases t <;> simp [Pt.all, Pt.isLeaf] at hq hl <;> subst hq <;> first | exact h | trivial
theorem r_l_leaf (ds S Q E) (h : sp_l_leaf ds S Q E) : t_l_leaf (dEnd Q E) (dstart N_l_leaf ds) S := by
  obtain ⟨p, ws, ms, n, o, rfl, hw, hm, hmn, hp, fo, hn, h⟩ := h
  unfold t_l_leaf
  refine dSeq_gen fun R hR => ?_
  simp [dstart]
  refine ⟨p, 9, n, o, rfl, by decide, by decide, hp, fo, by omega, fun v o1 v1 fo1 => ?_⟩
  subst hR
  refine dSeqIf_gen fun A B R hA hB hR => ?_
  simp
  by_cases c0 : v = 0
  · subst hA
    simp [c0]
    exact .same (h .stay o1 rfl (leaf_okc rfl trivial) (fo1.more (by omega)))
  · subst hB
    simp [c0]
    subst hR
    refine dSeqIf_gen fun A B R hA hB hR => ?_
    have tail : R (dEnd Q E) [some (.ref p), some (.rol (strsD ws)), some (.rol (strsD ms)), some (.int (v : Nat))] (upo S p o1) := by
      subst hR
      simp [catD]
      refine opt_at (by omega) (by simp; omega) fun d hd => ?_
      obtain ⟨b, rfl⟩ : ∃ b : Bool, d = .str (if b then "on" else "back") := by
        simp at hd
        rcases hd with rfl | rfl
        · exact ⟨true, rfl⟩
        · exact ⟨false, rfl⟩
      refine ⟨by omega, p, ws.length + 1, n + 1, o1, by simp, by omega, by omega, by simp, fo1, by omega, fun u o2 u1 fo2 => ?_⟩
      refine opt_at (by omega) (by simp; omega) fun z hz => ?_
      obtain ⟨w, hw, rfl⟩ : ∃ w : Str, (w = "*" ∨ w ∈ ws) ∧ z = .str w := by
        rcases List.mem_append.mp hz with hz | hz
        · obtain ⟨w, hw, rfl⟩ := List.mem_map.mp hz
          exact ⟨w, .inr hw, rfl⟩
        · exact ⟨"*", .inl rfl, List.mem_singleton.mp hz⟩
      rw [upo_upo]
      exact .same (h (.step b w) o2 rfl (leaf_okc rfl hw) (fo2.more (by omega)))
    simp
    by_cases c1 : (v : Int) < 3
    · simp [c1]
      refine dEq_sm (Sm_rol.mpr fun d hd => ?_) (Sm_rol.mpr fun d hd => nomatch hd) ?_
      · obtain ⟨i, hi, rfl⟩ := List.mem_map.mp hd
        exact Sm_str.mpr (nm_ok (hmn i hi))
      · by_cases hc : ms = []
        · subst hc
          simp
          subst hB
          simp
          exact tail
        · simp [hc]
          subst hA
          simp
          refine opt_at (by omega) (by simp; omega) fun d hd => ?_
          obtain ⟨b, rfl⟩ : ∃ b : Bool, d = .str (if b then "at" else "off") := by
            simp at hd
            rcases hd with rfl | rfl
            · exact ⟨true, rfl⟩
            · exact ⟨false, rfl⟩
          have hl0 : 0 < ms.length := List.length_pos_iff.mpr hc
          refine ⟨p, ms.length, n + 1, o1, rfl, hl0, by omega, by simp, fo1, by omega, fun u o2 u1 fo2 => ?_⟩
          refine opt_at (by omega) (by simp; omega) fun z hz => ?_
          obtain ⟨m, hm, rfl⟩ := List.mem_map.mp hz
          rw [upo_upo]
          exact .same (h (.mark b m) o2 rfl (leaf_okc rfl hm) (fo2.more (by omega)))
    · simp [c1]
      subst hB
      simp
      exact tail
theorem cNames_ok : ∀ L ∈ cNames, L.length = 7 ∧ (∀ y ∈ L, Nm y) ∧ L.Nodup := by
  intro L hL
  simp only [cNames, List.mem_cons, List.not_mem_nil, or_false] at hL
  rcases hL with rfl | rfl | rfl
  all_goals refine ⟨rfl, fun y hy => ?_, by decide +kernel⟩
  all_goals
    simp only [List.mem_cons, List.not_mem_nil, or_false] at hy
    rcases hy with rfl | rfl | rfl | rfl | rfl | rfl | rfl <;> exact ⟨by decide +kernel, by decide +kernel, by decide +kernel⟩
theorem r_l_names (ds S Q E) (h : sp_l_names ds S Q E) : t_l_names (dEnd Q E) (dstart N_l_names ds) S := by
  obtain ⟨p, m, n, o, rfl, hm, hp, fo, hn, h⟩ := h
  unfold t_l_names
  refine dSeq_gen fun R hR => ?_
  simp [dstart]
  intro q hq
  have npq : p ≠ q := fun z => by subst z; rw [hp] at hq; cases hq
  subst hR
  refine dSeq_gen fun R hR => ?_
  simp [upo_upo]
  rw [show ([D.rol [D.str "a", D.str "ab", D.str "abc", D.str "b", D.str "ba", D.str "bab", D.str "c"], D.rol [D.str "on", D.str "back", D.str "at", D.str "stay", D.str "many", D.str "then", D.str "tie"], D.rol [D.str "k", D.str "w", D.str "xxxxxxxx", D.str "xxxxxxx", D.str "m", D.str "q", D.str "z"]] : List D) = cNames.map (fun L => D.rol (strsD L)) from rfl]
  have hcl : (cNames.map (fun L => D.rol (strsD L))).length = 3 := rfl
  have hcm : ∀ d ∈ cNames.map (fun L => D.rol (strsD L)), ∃ L ∈ cNames, d = D.rol (strsD L) := fun d hd => by
    obtain ⟨L, hL, rfl⟩ := List.mem_map.mp hd
    exact ⟨L, hL, rfl⟩
  generalize cNames.map (fun L => D.rol (strsD L)) = CN at hcl hcm ⊢
  subst hR
  refine dSeq_gen fun R hR => ?_
  simp
  refine ⟨p, 3, n, o, by simp, by decide, by decide, by rw [upo_ne npq]; exact hp, fo, by omega, fun v o1 v1 fo1 => ?_⟩
  rw [upo_comm npq.symm]
  simp
  refine opt_at (by omega) (by rw [hcl]; omega) fun d hd => ?_
  obtain ⟨L, hL, rfl⟩ := hcm d hd
  obtain ⟨l7, lnm, lnd⟩ := cNames_ok L hL
  subst hR
  refine dSeq_gen fun R hR => ?_
  simp
  refine ⟨p, 7, n + 1, o1, by simp, by decide, by decide, by rw [upo_ne npq]; simp, fo1, by omega, fun T o2 T1 fo2 => ?_⟩
  subst hR
  rw [upo_comm npq.symm, upo_upo]
  simp [catD]
  refine ⟨by omega, .keep (S := upo S p o2) (Sub.new (by rw [upo_ne npq.symm]; exact hq)) ?_⟩
  have := h (((L.drop T) ++ (L.take T)).take m) o2 (by simp; omega) (fun y hy' => ?_) ?_ (fo2.more (by omega))
  · simpa [strsD] using this
  · have := List.mem_of_mem_take hy'
    rcases List.mem_append.mp this with z | z
    · exact lnm y (List.mem_of_mem_drop z)
    · exact lnm y (List.mem_of_mem_take z)
  · refine List.Sublist.nodup (List.take_sublist _ _) ?_
    have : (L.drop T ++ L.take T).Perm L := List.perm_append_comm.trans (by rw [List.take_append_drop])
    exact this.nodup_iff.mpr lnd
theorem OkC.many {ws ms : List Str} {t : Pt} (h : OkC ws ms t) : OkC ws ms (.many t) := fun q hq => by
  rw [Pt.all_many] at hq
  rcases List.mem_cons.mp hq with rfl | z
  · trivial
  · exact h q z
theorem OkC.seq {ws ms : List Str} {b : Bool} {ts : List Pt} (hl : ts.length ≤ 4) (h : ∀ t ∈ ts, OkC ws ms t) : OkC ws ms (.seq b ts) := fun q hq => by
  rw [Pt.all_seq, Pt.alls_flat] at hq
  rcases List.mem_cons.mp hq with rfl | z
  · exact hl
  · obtain ⟨t, ht, z⟩ := List.mem_flatMap.mp z
    exact h t ht q z
theorem deeps_le {ts : List Pt} {k : Nat} (h : ∀ t ∈ ts, t.deep ≤ k) : Pt.deeps ts ≤ k := by
  induction ts with
  | nil => exact Nat.zero_le _
  | cons t ts ih =>
    rw [Pt.deeps_cons]
    have := h t List.mem_cons_self
    have := ih fun u hu => h u (List.mem_cons_of_mem _ hu)
    omega
theorem leaf_all {t : Pt} (h : t.isLeaf = true) : t.all.length = 1 ∧ t.deep = 1 := by
  cases t <;> simp [Pt.isLeaf] at h <;> exact ⟨rfl, rfl⟩
theorem r_l_pattern (k : Nat) (ds S Q E) (h : sp_l_pattern k ds S Q E) : t_l_pattern (prevSp sp_l_pattern k) (dEnd Q E) (dstart N_l_pattern ds) S := by
  obtain ⟨p, q, ws, ms, j, b, n, o, rfl, hw, hm, hmn, hj, hp, fo, hb1, hb2, hq, hn, h⟩ := h
  have npq : p ≠ q := fun z => by subst z; exact fo.nl hp _ hq
  unfold t_l_pattern
  refine dSeq_gen fun R hR => ?_
  simp [dstart, hq]
  have eb : (b : Int) - 1 = ((b - 1 : Nat) : Int) := by omega
  rw [eb, show ixN 1 0 = some 0 from rfl]
  simp
  subst hR
  refine dSeq_gen fun R hR => ?_
  simp
  refine ⟨p, 8, n, o, by simp, by decide, by decide, by rw [upo_ne npq]; exact hp, fo, by omega, fun v o1 v1 fo1 => ?_⟩
  rw [upo_comm npq.symm]
  subst hR
  refine dSeqIf_gen fun A B R hA hB hR => ?_
  have leaf : A { nx := R (dEnd Q E), rt := Rt Q, xe := fun C fs x S' => ∃ S'', Dt.Sub S'' S' ∧ E C fs S'' } [some (.ref p), some (.rol (strsD ws)), some (.rol (strsD ms)), some (.ref q), some (.int (j : Nat)), some (.int (v : Nat)), none, none] (upo (upo S p o1) q (.lst [.int ((b - 1 : Nat) : Int)])) := by
    subst hA
    simp
    refine ⟨p, ws, ms, n + 1, o1, rfl, hw, hm, hmn, by rw [upo_ne npq]; simp, fo1, by omega, fun t o2 hl ho fo2 => ?_⟩
    obtain ⟨l1, l2⟩ := leaf_all hl
    rw [upo_comm npq.symm, upo_upo]
    exact .same (h t o2 (b - 1) ho (by omega) (by omega) (fo2.more (by omega)))
  simp
  split
  · exact leaf
  rename_i v3
  split
  · exact leaf
  rename_i b2
  split
  · exact leaf
  rename_i j0
  clear leaf
  subst hB
  simp
  subst hR
  obtain ⟨m, rfl⟩ : ∃ m, k = m + 1 := ⟨k - 1, by omega⟩
  have ej : (j : Int) - 1 = ((j - 1 : Nat) : Int) := by omega
  refine dSeqIf_gen fun A B R hA hB hR => ?_
  simp
  by_cases c2 : (v : Int) = 3
  · subst hA
    simp [c2, ej]
    refine ⟨p, q, ws, ms, j - 1, b - 1, n + 1, o1, by simp [ej], hw, hm, hmn, by omega, by rw [upo_ne npq]; simp, fo1, by omega, by omega, by simp, by omega, fun t o2 c a1 a2 a3 a4 => ?_⟩
    rw [upo_comm npq.symm, upo_upo, upo_upo]
    exact .same (h (.many t) o2 c a1.many (by rw [Pt.deep_many]; omega) (by rw [Pt.all_many, List.length_cons]; omega) (a4.more (by omega)))
  · subst hB
    simp [c2]
    subst hR
    refine dSeq_gen fun R hR => ?_
    simp
    intro s hs
    have nps : p ≠ s := fun z => by subst z; rw [upo_ne npq] at hs; simp at hs
    have nqs : q ≠ s := fun z => by subst z; simp at hs
    have hs' : S s = none := by rw [upo_ne nqs.symm, upo_ne nps.symm] at hs; exact hs
    subst hR
    refine dSeqFor_gen fun B R hB hR => ?_
    simp
    refine ⟨p, 8, n + 1, o1, by simp, by decide, by decide, by rw [upo_ne nps, upo_ne npq]; simp, fo1, by omega, fun u o2 u1 fo2 => ?_⟩
    rw [upo_comm nps.symm, upo_comm npq.symm, upo_upo]
    refine opt_at (by omega) (by simp; omega) fun d hd => ?_
    obtain ⟨M, hM, rfl⟩ : ∃ M : Nat, M ≤ 4 ∧ d = .int (M : Nat) := by
      simp only [List.mem_cons, List.not_mem_nil, or_false] at hd
      rcases hd with rfl | rfl | rfl | rfl | rfl | rfl | rfl | rfl
      · exact ⟨2, by decide, rfl⟩
      · exact ⟨3, by decide, rfl⟩
      · exact ⟨0, by decide, rfl⟩
      · exact ⟨1, by decide, rfl⟩
      · exact ⟨2, by decide, rfl⟩
      · exact ⟨2, by decide, rfl⟩
      · exact ⟨4, by decide, rfl⟩
      · exact ⟨3, by decide, rfl⟩
    simp
    refine ⟨by omega, ?_⟩
    refine loop_inv (fun i τ S' => ∃ (ts : List Pt) (c : Nat) (o3 : Ob) (x7 : Option D), τ = [some (.ref p), some (.rol (strsD ws)), some (.rol (strsD ms)), some (.ref q), some (.int (j : Nat)), some (.int (v : Nat)), some (.ref s), x7] ∧
      S' = upo (upo (upo S p o3) q (.lst [.int (c : Nat)])) s (.lst (ptDs ts)) ∧ ts.length ≤ i ∧ (Pt.alls ts).length + c = b - 1 ∧ FeedC (n + 2 + 4 * (b - 1 - c)) o3 ∧ (∀ t ∈ ts, OkC ws ms t) ∧ ∀ t ∈ ts, t.deep ≤ m + 1)
      ⟨[], b - 1, o2, none, rfl, rfl, Nat.le_refl _, by simp [Pt.alls], fo2.more (by omega), (fun _ z => nomatch z), fun _ z => nomatch z⟩ (fun _ _ _ _ _ => trivial) ?_ ?_
    · rintro i d τ S1 N hd ⟨ts, c, o3, x7, rfl, rfl, g1, g2, fo3, g4, g5⟩ hN
      obtain ⟨hi, rfl⟩ : i < M ∧ d = .int (i : Nat) := by
        have h1 := (List.getElem?_eq_some_iff.mp hd).1
        simp [rngD] at h1 hd
        exact ⟨h1, by rw [List.getElem?_eq_getElem (by simpa using h1)] at hd; simp at hd; exact hd.symm⟩
      subst hB
      have e0 : upo (upo (upo S p o3) q (.lst [.int (c : Nat)])) s (.lst (ptDs ts)) q = some (.lst [.int (c : Nat)]) := by rw [upo_ne nqs]; simp
      simp [e0, ej]
      split
      · rename_i hc
        refine ⟨p, q, ws, ms, j - 1, c, n + 2 + 4 * (b - 1 - c), o3, by simp [ej], hw, hm, hmn, by omega, by rw [upo_ne nps, upo_ne npq]; simp, fo3, by omega, by omega, e0, by omega, fun t o4 c' a1 a2 a3 a4 => ?_⟩
        rw [upo_comm nps.symm, upo_comm npq.symm, upo_upo, upo_comm nqs.symm, upo_upo]
        have hd1 := ptDs_len ts
        have hd2 := Pt.all_pos t
        simp [upo_upo]
        refine ⟨by omega, hN _ _ ⟨ts ++ [t], c', o4, _, rfl, by rw [ptDs_app]; rfl, by simp; omega, ?_, a4.more (by omega), fun z hz => ?_, fun z hz => ?_⟩⟩
        · rw [Pt.alls_flat, List.flatMap_append, ← Pt.alls_flat]
          simp
          omega
        · rcases List.mem_append.mp hz with hz | hz
          · exact g4 z hz
          · rw [List.mem_singleton.mp hz]; exact a1
        · rcases List.mem_append.mp hz with hz | hz
          · exact g5 z hz
          · rw [List.mem_singleton.mp hz]; exact a2
      · exact hN _ _ ⟨ts, c, o3, _, rfl, rfl, by omega, g2, fo3, g4, g5⟩
    · rintro τ S1 ⟨ts, c, o3, x7, rfl, rfl, g1, g2, fo3, g4, g5⟩
      have hM' : ts.length ≤ M := by simpa [rngD] using g1
      subst hR
      simp
      refine opt_at (by omega) (by simp; omega) fun d hd => ?_
      obtain ⟨bb, rfl⟩ : ∃ bb : Bool, d = .str (if bb then "then" else "either") := by
        simp at hd
        rcases hd with rfl | rfl
        · exact ⟨true, rfl⟩
        · exact ⟨false, rfl⟩
      refine .keep (S := upo (upo S p o3) q (.lst [.int (c : Nat)])) (Sub.new (by rw [upo_ne nqs.symm, upo_ne nps.symm]; exact hs')) ?_
      exact h (.seq bb ts) o3 c (OkC.seq (by omega) g4) (by rw [Pt.deep_seq]; have := deeps_le g5; omega) (by rw [Pt.all_seq, List.length_cons]; omega) (fo3.more (by omega))
end Rc
set_option maxRecDepth 100000
set_option maxHeartbeats 4000000
namespace Sh
open PySem PySem.Spec L2 Dt Sh
end Sh
set_option maxRecDepth 100000
set_option maxHeartbeats 4000000
namespace Sh
open PySem PySem.Spec L2 Dt Sh
end Sh
set_option maxRecDepth 100000
set_option maxHeartbeats 4000000
namespace Sh
open PySem PySem.Spec L2 Dt Sh
/-! ShW: the class Web: its objects and what its methods do. -/
abbrev T3 := Str × Str × Str
def triD (t : T3) : D := .tup [.str t.1, .str t.2.1, .str t.2.2]
theorem okT_tri (t : T3) : okT (triD t) = true := rfl
def okT3 (t : T3) : Prop := okS t.1 ∧ okS t.2.1 ∧ okS t.2.2
abbrev triTy : Ty := .tup [.str, .str, .str]
/-- a web, told plainly -/
structure Wb where
  ks : List (Str × List Str)
  ts : List T3
def Wb.names (W : Wb) : List Str := W.ks.map (·.1)
def IsSt (W : Wb) (x : Str) (t : T3) : Prop := (t.1 = "on" ∧ (x, t.2.1, t.2.2) ∈ W.ts) ∨ (t.1 = "back" ∧ (t.2.2, t.2.1, x) ∈ W.ts)
structure OkWb (W : Wb) : Prop where
  nd : W.names.Nodup
  nt : W.ts.Nodup
  tn : ∀ t ∈ W.ts, t.1 ∈ W.names ∧ t.2.2 ∈ W.names
  on : ∀ x ∈ W.names, okS x
  om : ∀ k ∈ W.ks, ∀ m ∈ k.2, okS m
  ot : ∀ t ∈ W.ts, okS t.2.1
  lk : W.ks.length ≤ 100000
  lt : W.ts.length ≤ 100000
structure WRow where
  name : Str
  marks : List Str
  ma : Addr
  sa : Addr
  st : List T3
abbrev rMarks (rs : List WRow) : List (Key × D) := rs.map fun r => (.inr r.name, .ref r.ma)
abbrev rSteps (rs : List WRow) : List (Key × D) := rs.map fun r => (.inr r.name, .ref r.sa)
def rAdr (rs : List WRow) : List Addr := rs.flatMap fun r => [r.ma, r.sa]
structure WebR (C : Addr) (S : DH) (w a b c : Addr) (W : Wb) (rs : List WRow) : Prop where
  ks : rs.map (fun r => (r.name, r.marks)) = W.ks
  ins : S w = some (.ins C [("web_marks", .ref a), ("web_ties", .ref b), ("web_steps", .ref c)])
  sm : S a = some (.dK (rMarks rs))
  st : S b = some (.dN (kset (W.ts.map triD)))
  ss : S c = some (.dK (rSteps rs))
  rm : ∀ r ∈ rs, S r.ma = some (.lst (strsD r.marks))
  rt : ∀ r ∈ rs, S r.sa = some (.dN (kset (r.st.map triD))) ∧ r.st.Nodup ∧ ∀ t, t ∈ r.st ↔ IsSt W r.name t
  nd : (w :: a :: b :: c :: rAdr rs).Nodup
  ok : OkWb W
def WebAt (C : Addr) (S : DH) (w : Addr) (W : Wb) (F : List Addr) : Prop := ∃ a b c rs, F = w :: a :: b :: c :: rAdr rs ∧ WebR C S w a b c W rs
/-- what does not belong to F stays -/
def Fr (S : DH) (F : List Addr) (S' : DH) (F' : List Addr) : Prop := ∀ y o, y ∉ F → S y = some o → y ∉ F' ∧ S' y = some o
theorem Fr.refl {S : DH} {F : List Addr} : Fr S F S F := fun _ _ h e => ⟨h, e⟩
theorem Fr.trans {S S1 S2 : DH} {F F1 F2 : List Addr} (h : Fr S F S1 F1) (k : Fr S1 F1 S2 F2) : Fr S F S2 F2 := fun y o hy e => by
  obtain ⟨h1, h2⟩ := h y o hy e
  exact k y o h1 h2
theorem mem_rAdr {rs : List WRow} {y : Addr} : y ∈ rAdr rs ↔ ∃ r ∈ rs, y = r.ma ∨ y = r.sa := by
  simp [rAdr, List.mem_flatMap]
theorem WebAt.keep {C : Addr} {S S' : DH} {w : Addr} {W : Wb} {F : List Addr} (h : WebAt C S w W F) (k : ∀ y ∈ F, ∀ o, S y = some o → S' y = some o) : WebAt C S' w W F := by
  obtain ⟨a, b, c, rs, rfl, h⟩ := h
  refine ⟨a, b, c, rs, rfl, h.ks, k w (by simp) _ h.ins, k a (by simp) _ h.sm, k b (by simp) _ h.st, k c (by simp) _ h.ss, fun r hr => k _ (by simp [mem_rAdr]; exact .inr (.inr (.inr (.inr ⟨r, hr, .inl rfl⟩)))) _ (h.rm r hr), fun r hr => ?_, h.nd, h.ok⟩
  obtain ⟨h1, h2⟩ := h.rt r hr
  exact ⟨k _ (by simp [mem_rAdr]; exact .inr (.inr (.inr (.inr ⟨r, hr, .inr rfl⟩)))) _ h1, h2⟩
theorem WebAt.ext {C : Addr} {S S' : DH} {w : Addr} {W : Wb} {F : List Addr} (h : WebAt C S w W F) (e : Ext S S') : WebAt C S' w W F := h.keep fun y _ o h => e y o h
/-- rows by names -/
theorem row_at {rs : List WRow} {W : Wb} (h : rs.map (fun r => (r.name, r.marks)) = W.ks) {x : Str} : x ∈ W.names ↔ ∃ r ∈ rs, r.name = x := by
  simp [Wb.names, ← h]
theorem lk_rows {f : WRow → D} : ∀ {rs : List WRow}, (rs.map (·.name)).Nodup → ∀ r ∈ rs, lk (rs.map fun r => ((.inr r.name : Key), f r)) (.inr r.name) = some (f r)
  | q :: rs, nd, r, hr => by
    simp only [List.map_cons, List.nodup_cons] at nd
    rcases List.mem_cons.mp hr with rfl | hr
    · simp [lk]
    · have ne : q.name ≠ r.name := fun e => nd.1 (e ▸ List.mem_map.mpr ⟨r, hr, rfl⟩)
      simp [lk, ne]
      exact lk_rows nd.2 r hr
theorem lk_rows_none {f : WRow → D} {x : Str} : ∀ {rs : List WRow}, (∀ r ∈ rs, r.name ≠ x) → lk (rs.map fun r => ((.inr r.name : Key), f r)) (.inr x) = none
  | [], _ => rfl
  | q :: rs, h => by
    have := h q (List.mem_cons_self ..)
    simp [lk, this]
    exact lk_rows_none fun r hr => h r (List.mem_cons_of_mem _ hr)
theorem WebR.names {C : Addr} {S : DH} {w a b c : Addr} {W : Wb} {rs : List WRow} (h : WebR C S w a b c W rs) : rs.map (·.name) = W.names := by
  simp [Wb.names, ← h.ks]
theorem WebR.len {C : Addr} {S : DH} {w a b c : Addr} {W : Wb} {rs : List WRow} (h : WebR C S w a b c W rs) : rs.length = W.ks.length := by
  rw [← h.ks, List.length_map]
def wMarks (W : Wb) (x : Str) : List Str := ((W.ks.find? fun k => k.1 = x).map (·.2)).getD []
theorem WebR.marks {C : Addr} {S : DH} {w a b c : Addr} {W : Wb} {rs : List WRow} (h : WebR C S w a b c W rs) {r : WRow} (hr : r ∈ rs) : wMarks W r.name = r.marks := by
  have nd : (rs.map (·.name)).Nodup := h.names ▸ h.ok.nd
  unfold wMarks
  rw [← h.ks]
  clear h
  induction rs with
  | nil => cases hr
  | cons q rs ih =>
    simp only [List.map_cons, List.nodup_cons] at nd
    rcases List.mem_cons.mp hr with rfl | hr
    · simp
    · have ne : q.name ≠ r.name := fun e => nd.1 (e ▸ List.mem_map.mpr ⟨r, hr, rfl⟩)
      simp [ne] at ih ⊢
      exact ih hr nd.2
end Sh
set_option maxRecDepth 100000
set_option maxHeartbeats 4000000
namespace Sh
open PySem PySem.Spec L2 Dt Sh
section
variable (C : Addr)
def sp_Web_init : DSp := fun ds S Q _ => ∃ w : Addr, ds = [.ref w] ∧ S w = some (.ins C []) ∧ ∀ S' F, WebAt C S' w ⟨[], []⟩ F → Fr S [w] S' F → Q .non S'
def sp_Web_ask_knot : DSp := fun ds S Q _ => ∃ (w : Addr) (W : Wb) (F : List Addr) (x : Str), ds = [.ref w, .str x] ∧ WebAt C S w W F ∧ x ∈ W.names ∧ Q .non S
def sp_Web_lay_knot : DSp := fun ds S Q _ => ∃ (w : Addr) (W : Wb) (F : List Addr) (x : Str) (d : D) (ms : List Str), ds = [.ref w, .str x, d] ∧ WebAt C S w W F ∧ (d = .tup (strsD ms) ∨ seqD S d = some (strsD ms)) ∧ OkWb ⟨W.ks ++ [(x, ms)], W.ts⟩ ∧
  ∀ S' F', WebAt C S' w ⟨W.ks ++ [(x, ms)], W.ts⟩ F' → Fr S F S' F' → Q .non S'
def sp_Web_put_knot : DSp := fun ds S Q _ => ∃ (w : Addr) (W : Wb) (F : List Addr) (x : Str) (d : D) (ms : List Str), ds = [.ref w, .str x, d] ∧ WebAt C S w W F ∧ (d = .tup (strsD ms) ∨ seqD S d = some (strsD ms)) ∧ OkWb ⟨W.ks ++ [(x, ms)], W.ts⟩ ∧ W.ks.length < 40 ∧
  ∀ S' F', WebAt C S' w ⟨W.ks ++ [(x, ms)], W.ts⟩ F' → Fr S F S' F' → Q .non S'
def sp_Web_lay_tie : DSp := fun ds S Q _ => ∃ (w : Addr) (W : Wb) (F : List Addr) (t : T3), ds = [.ref w, triD t] ∧ WebAt C S w W F ∧ OkWb ⟨W.ks, W.ts ++ [t]⟩ ∧
  ∀ S', WebAt C S' w ⟨W.ks, W.ts ++ [t]⟩ F → Fr S F S' F → Q .non S'
def sp_Web_put_tie : DSp := fun ds S Q _ => ∃ (w : Addr) (W : Wb) (F : List Addr) (t : T3), ds = [.ref w, .str t.1, .str t.2.1, .str t.2.2] ∧ WebAt C S w W F ∧ OkWb ⟨W.ks, W.ts ++ [t]⟩ ∧ W.ts.length < 300 ∧
  ∀ S', WebAt C S' w ⟨W.ks, W.ts ++ [t]⟩ F → Fr S F S' F → Q .non S'
/-- texts, sorted -/
def sortS (xs : List Str) : List D := srtD (strsD xs)
def sp_Web_knots : DSp := fun ds S Q _ => ∃ (w : Addr) (W : Wb) (F : List Addr), ds = [.ref w] ∧ WebAt C S w W F ∧ (Q (.rol (sortS W.names)) S ∨ ∀ q, S q = none → Q (.ref q) (upo S q (.lst (sortS W.names))))
def sp_Web_marks : DSp := fun ds S Q _ => ∃ (w : Addr) (W : Wb) (F : List Addr) (x : Str), ds = [.ref w, .str x] ∧ WebAt C S w W F ∧ x ∈ W.names ∧ (Q (.rol (sortS (wMarks W x))) S ∨ ∀ q, S q = none → Q (.ref q) (upo S q (.lst (sortS (wMarks W x)))))
def sp_Web_has_tie : DSp := fun ds S Q _ => ∃ (w : Addr) (W : Wb) (F : List Addr) (t : T3), ds = [.ref w, .str t.1, .str t.2.1, .str t.2.2] ∧ WebAt C S w W F ∧ Q (.bl (decide (t ∈ W.ts))) S
/-- the steps from a knot, each once, sorted -/
structure StepsOf (W : Wb) (x : Str) (st : List T3) : Prop where
  nd : st.Nodup
  mem : ∀ t, t ∈ st ↔ IsSt W x t
  srt : (st.map triD).Pairwise fun a b => ltD a b = true
def sp_Web_steps : DSp := fun ds S Q _ => ∃ (w : Addr) (W : Wb) (F : List Addr) (x : Str), ds = [.ref w, .str x] ∧ WebAt C S w W F ∧ x ∈ W.names ∧ ((∀ st, StepsOf W x st → Q (.rol (st.map triD)) S) ∨ ∀ st q, StepsOf W x st → S q = none → Q (.ref q) (upo S q (.lst (st.map triD))))
/-- a web's rows -/
structure RowsOf (W : Wb) (d : D) : Prop where
  ex : ∃ (ns : List Str) (ts : List T3), ns.Perm W.names ∧ ts.Perm W.ts ∧ sortS W.names = strsD ns ∧ srtD (W.ts.map triD) = ts.map triD ∧
    d = .tup [.tup (ns.map fun x => .tup [.str x, .tup (sortS (wMarks W x))]), .tup (ts.map triD)]
def sp_Web_rows : DSp := fun ds S Q _ => ∃ (w : Addr) (W : Wb) (F : List Addr), ds = [.ref w] ∧ WebAt C S w W F ∧ ∀ d, RowsOf W d → Q d S
end
def t_Web_init (C_Web : Addr) : DTS := (dSeq (dPutF C_Web "web_marks" (dVar 0) dDnK)
    (dSeq (dPutF C_Web "web_ties" (dVar 0) dDnN)
    (dPutF C_Web "web_steps" (dVar 0) dDnK)))
abbrev N_Web_init : List Str := ["self"]
def t_Web_ask_knot (C_Web : Addr) : DTS := (dIf (dTest (dOp (dIn true) (dVar 1) (dFld C_Web "web_marks" (dVar 0))))
      dNever
      dNx)
abbrev N_Web_ask_knot : List Str := ["self", "name"]
def t_Web_lay_knot (C_Web : Addr) : DTS := (dSeq (dPut (dFld C_Web "web_marks" (dVar 0)) (dVar 1) (dCB cListA (dCons (dVar 2) dNil)))
    (dPut (dFld C_Web "web_steps" (dVar 0)) (dVar 1) dDnN))
abbrev N_Web_lay_knot : List Str := ["self", "name", "marks"]
def t_Web_lay_tie (C_Web : Addr) : DTS := (dSeq (dAsg (dVar 1) (dGTupA 3 (dGCons (dGN 2) (dGCons (dGN 3) (dGCons (dGN 4) dGNil)))))
    (dSeq (dPut (dFld C_Web "web_ties" (dVar 0)) (dVar 1) (dC (.bl true)))
    (dSeq (dPut (dOp dIxS (dFld C_Web "web_steps" (dVar 0)) (dVar 2)) (dTup (dCons (dC (.str "on")) (dCons (dVar 3) (dCons (dVar 4) dNil)))) (dC (.bl true)))
    (dPut (dOp dIxS (dFld C_Web "web_steps" (dVar 0)) (dVar 4)) (dTup (dCons (dC (.str "back")) (dCons (dVar 3) (dCons (dVar 2) dNil)))) (dC (.bl true))))))
abbrev N_Web_lay_tie : List Str := ["self", "tie", "one", "word", "other"]
def t_Web_knots (C_Web : Addr) : DTS := (dRet (dCB cSortA (dCons (dFld C_Web "web_marks" (dVar 0)) dNil)))
abbrev N_Web_knots : List Str := ["self"]
def t_Web_has_tie (C_Web : Addr) : DTS := (dRet (dOp (dIn false) (dTup (dCons (dVar 1) (dCons (dVar 2) (dCons (dVar 3) dNil)))) (dFld C_Web "web_ties" (dVar 0))))
abbrev N_Web_has_tie : List Str := ["self", "one", "word", "other"]
def t_Web_put_knot (C_Web : Addr) : DTS := (dSeq (dIf (dTest (dOp (dIn false) (dVar 1) (dFld C_Web "web_marks" (dVar 0))))
      dNever
      dNx)
    (dSeq (dIf (dTest (dOp rGe (dCB cLen (dCons (dFld C_Web "web_marks" (dVar 0)) dNil)) (dC (.int 40))))
      dNever
      dNx)
    (dDrop (dMeth C_Web "lay_knot" (sp_Web_lay_knot C_Web) (dVar 0) (dCons (dVar 1) (dCons (dVar 2) dNil))))))
abbrev N_Web_put_knot : List Str := ["self", "name", "marks"]
def t_Web_put_tie (C_Web : Addr) : DTS := (dSeq (dDrop (dMeth C_Web "ask_knot" (sp_Web_ask_knot C_Web) (dVar 0) (dCons (dVar 1) dNil)))
    (dSeq (dDrop (dMeth C_Web "ask_knot" (sp_Web_ask_knot C_Web) (dVar 0) (dCons (dVar 3) dNil)))
    (dSeq (dIf (dTest (dMeth C_Web "has_tie" (sp_Web_has_tie C_Web) (dVar 0) (dCons (dVar 1) (dCons (dVar 2) (dCons (dVar 3) dNil)))))
      dNever
      dNx)
    (dSeq (dIf (dTest (dOp rGe (dCB cLen (dCons (dFld C_Web "web_ties" (dVar 0)) dNil)) (dC (.int 300))))
      dNever
      dNx)
    (dDrop (dMeth C_Web "lay_tie" (sp_Web_lay_tie C_Web) (dVar 0) (dCons (dTup (dCons (dVar 1) (dCons (dVar 2) (dCons (dVar 3) dNil)))) dNil)))))))
abbrev N_Web_put_tie : List Str := ["self", "one", "word", "other"]
def t_Web_marks (C_Web : Addr) : DTS := (dSeq (dDrop (dMeth C_Web "ask_knot" (sp_Web_ask_knot C_Web) (dVar 0) (dCons (dVar 1) dNil)))
    (dRet (dCB cSortA (dCons (dOp dIxS (dFld C_Web "web_marks" (dVar 0)) (dVar 1)) dNil))))
abbrev N_Web_marks : List Str := ["self", "knot"]
def t_Web_steps (C_Web : Addr) : DTS := (dSeq (dDrop (dMeth C_Web "ask_knot" (sp_Web_ask_knot C_Web) (dVar 0) (dCons (dVar 1) dNil)))
    (dRet (dCB cSortA (dCons (dOp dIxS (dFld C_Web "web_steps" (dVar 0)) (dVar 1)) dNil))))
abbrev N_Web_steps : List Str := ["self", "knot"]
def t_Web_rows (C_Web : Addr) : DTS := (dSeq (dAsg (dFz (dLc (dSeqI (dMeth C_Web "knots" (sp_Web_knots C_Web) (dVar 0) dNil)) (dGN 2) dYes (dTup (dCons (dVar 2) (dCons (dCB cTuple (dCons (dMeth C_Web "marks" (sp_Web_marks C_Web) (dVar 0) (dCons (dVar 2) dNil)) dNil)) dNil))) [2])) (dGN 1))
    (dRet (dTup (dCons (dCB cTuple (dCons (dVar 1) dNil)) (dCons (dCB cTuple (dCons (dCB cSortAF (dCons (dFld C_Web "web_ties" (dVar 0)) dNil)) dNil)) dNil)))))
abbrev N_Web_rows : List Str := ["self", "knots", "name"]
@[simp] theorem fw1 (a b c : D) : List.lookup (Str.ofString "web_marks") [(Str.ofString "web_marks", a), (Str.ofString "web_ties", b), (Str.ofString "web_steps", c)] = some a := by simp [List.lookup]
@[simp] theorem fw2 (a b c : D) : List.lookup (Str.ofString "web_ties") [(Str.ofString "web_marks", a), (Str.ofString "web_ties", b), (Str.ofString "web_steps", c)] = some b := by
  have e : (Str.ofString "web_ties" == Str.ofString "web_marks") = false := by decide +kernel
  simp [List.lookup, e]
@[simp] theorem fw3 (a b c : D) : List.lookup (Str.ofString "web_steps") [(Str.ofString "web_marks", a), (Str.ofString "web_ties", b), (Str.ofString "web_steps", c)] = some c := by
  have e : (Str.ofString "web_steps" == Str.ofString "web_marks") = false := by decide +kernel
  have e2 : (Str.ofString "web_steps" == Str.ofString "web_ties") = false := by decide +kernel
  simp [List.lookup, e, e2]
theorem fwn {m : Str} (a b c : D) (h1 : (m == Str.ofString "web_marks") = false) (h2 : (m == Str.ofString "web_ties") = false) (h3 : (m == Str.ofString "web_steps") = false) : List.lookup m [(Str.ofString "web_marks", a), (Str.ofString "web_ties", b), (Str.ofString "web_steps", c)] = none := by simp [List.lookup, h1, h2, h3]
@[simp] theorem fwn_ask_knot (a b c : D) : List.lookup (Str.ofString "ask_knot") [(Str.ofString "web_marks", a), (Str.ofString "web_ties", b), (Str.ofString "web_steps", c)] = none := fwn a b c (by decide +kernel) (by decide +kernel) (by decide +kernel)
@[simp] theorem fwn_lay_knot (a b c : D) : List.lookup (Str.ofString "lay_knot") [(Str.ofString "web_marks", a), (Str.ofString "web_ties", b), (Str.ofString "web_steps", c)] = none := fwn a b c (by decide +kernel) (by decide +kernel) (by decide +kernel)
@[simp] theorem fwn_lay_tie (a b c : D) : List.lookup (Str.ofString "lay_tie") [(Str.ofString "web_marks", a), (Str.ofString "web_ties", b), (Str.ofString "web_steps", c)] = none := fwn a b c (by decide +kernel) (by decide +kernel) (by decide +kernel)
@[simp] theorem fwn_cut_tie (a b c : D) : List.lookup (Str.ofString "cut_tie") [(Str.ofString "web_marks", a), (Str.ofString "web_ties", b), (Str.ofString "web_steps", c)] = none := fwn a b c (by decide +kernel) (by decide +kernel) (by decide +kernel)
@[simp] theorem fwn_put_knot (a b c : D) : List.lookup (Str.ofString "put_knot") [(Str.ofString "web_marks", a), (Str.ofString "web_ties", b), (Str.ofString "web_steps", c)] = none := fwn a b c (by decide +kernel) (by decide +kernel) (by decide +kernel)
@[simp] theorem fwn_take_knot (a b c : D) : List.lookup (Str.ofString "take_knot") [(Str.ofString "web_marks", a), (Str.ofString "web_ties", b), (Str.ofString "web_steps", c)] = none := fwn a b c (by decide +kernel) (by decide +kernel) (by decide +kernel)
@[simp] theorem fwn_ties_at (a b c : D) : List.lookup (Str.ofString "ties_at") [(Str.ofString "web_marks", a), (Str.ofString "web_ties", b), (Str.ofString "web_steps", c)] = none := fwn a b c (by decide +kernel) (by decide +kernel) (by decide +kernel)
@[simp] theorem fwn_put_tie (a b c : D) : List.lookup (Str.ofString "put_tie") [(Str.ofString "web_marks", a), (Str.ofString "web_ties", b), (Str.ofString "web_steps", c)] = none := fwn a b c (by decide +kernel) (by decide +kernel) (by decide +kernel)
@[simp] theorem fwn_take_tie (a b c : D) : List.lookup (Str.ofString "take_tie") [(Str.ofString "web_marks", a), (Str.ofString "web_ties", b), (Str.ofString "web_steps", c)] = none := fwn a b c (by decide +kernel) (by decide +kernel) (by decide +kernel)
@[simp] theorem fwn_put_mark (a b c : D) : List.lookup (Str.ofString "put_mark") [(Str.ofString "web_marks", a), (Str.ofString "web_ties", b), (Str.ofString "web_steps", c)] = none := fwn a b c (by decide +kernel) (by decide +kernel) (by decide +kernel)
@[simp] theorem fwn_take_mark (a b c : D) : List.lookup (Str.ofString "take_mark") [(Str.ofString "web_marks", a), (Str.ofString "web_ties", b), (Str.ofString "web_steps", c)] = none := fwn a b c (by decide +kernel) (by decide +kernel) (by decide +kernel)
@[simp] theorem fwn_knots (a b c : D) : List.lookup (Str.ofString "knots") [(Str.ofString "web_marks", a), (Str.ofString "web_ties", b), (Str.ofString "web_steps", c)] = none := fwn a b c (by decide +kernel) (by decide +kernel) (by decide +kernel)
@[simp] theorem fwn_marks (a b c : D) : List.lookup (Str.ofString "marks") [(Str.ofString "web_marks", a), (Str.ofString "web_ties", b), (Str.ofString "web_steps", c)] = none := fwn a b c (by decide +kernel) (by decide +kernel) (by decide +kernel)
@[simp] theorem fwn_has_tie (a b c : D) : List.lookup (Str.ofString "has_tie") [(Str.ofString "web_marks", a), (Str.ofString "web_ties", b), (Str.ofString "web_steps", c)] = none := fwn a b c (by decide +kernel) (by decide +kernel) (by decide +kernel)
@[simp] theorem fwn_steps (a b c : D) : List.lookup (Str.ofString "steps") [(Str.ofString "web_marks", a), (Str.ofString "web_ties", b), (Str.ofString "web_steps", c)] = none := fwn a b c (by decide +kernel) (by decide +kernel) (by decide +kernel)
@[simp] theorem fwn_rows (a b c : D) : List.lookup (Str.ofString "rows") [(Str.ofString "web_marks", a), (Str.ofString "web_ties", b), (Str.ofString "web_steps", c)] = none := fwn a b c (by decide +kernel) (by decide +kernel) (by decide +kernel)
@[simp] theorem fwn_like (a b c : D) : List.lookup (Str.ofString "like") [(Str.ofString "web_marks", a), (Str.ofString "web_ties", b), (Str.ofString "web_steps", c)] = none := fwn a b c (by decide +kernel) (by decide +kernel) (by decide +kernel)
section
variable {C : Addr}
theorem IsSt.ok {W : Wb} (ok : OkWb W) {x : Str} {t : T3} (hx : okS x) (h : IsSt W x t) : okT3 t := by
  obtain ⟨t1, t2, t3⟩ := t
  rcases h with ⟨h1, h2⟩ | ⟨h1, h2⟩
  · simp at h1 h2; subst h1
    have a1 := ok.ot _ h2
    exact ⟨ok_lit _, a1, ok.on _ (ok.tn _ h2).2⟩
  · simp at h1 h2; subst h1
    have a1 := ok.ot _ h2
    exact ⟨ok_lit _, a1, ok.on _ (ok.tn _ h2).1⟩
theorem rAdr_cons (r : WRow) (rs : List WRow) : rAdr (r :: rs) = r.ma :: r.sa :: rAdr rs := rfl
theorem rAdr_ms : ∀ {rs : List WRow}, (rAdr rs).Nodup → ∀ r ∈ rs, ∀ q ∈ rs, r.ma ≠ q.sa
  | s :: rs, nd, r, hr, q, hq => by
    rw [rAdr_cons] at nd
    simp [mem_rAdr] at nd
    rcases List.mem_cons.mp hr with e1 | hr' <;> rcases List.mem_cons.mp hq with e2 | hq'
    · rw [e1, e2]; exact nd.1.1
    · rw [e1]; exact (nd.1.2 q hq').2
    · rw [e2]; exact fun e => (nd.2.1 r hr').1 e.symm
    · exact rAdr_ms nd.2.2 r hr' q hq'
theorem name_inj : ∀ {rs : List WRow}, (rs.map (·.name)).Nodup → ∀ r ∈ rs, ∀ q ∈ rs, r.name = q.name → r = q
  | s :: rs, nd, r, hr, q, hq, e => by
    simp only [List.map_cons, List.nodup_cons] at nd
    rcases List.mem_cons.mp hr with e1 | hr' <;> rcases List.mem_cons.mp hq with e2 | hq'
    · rw [e1, e2]
    · exact absurd (List.mem_map.mpr ⟨q, hq', by rw [← e, e1]⟩) nd.1
    · exact absurd (List.mem_map.mpr ⟨r, hr', by rw [e, e2]⟩) nd.1
    · exact name_inj nd.2 r hr' q hq' e
theorem WebR.ms {S : DH} {w a b c : Addr} {W : Wb} {rs : List WRow} (h : WebR C S w a b c W rs) (x : Str) : (lk (rMarks rs) (.inr x)).isSome = decide (x ∈ W.names) := by
  have nd : (rs.map (·.name)).Nodup := h.names ▸ h.ok.nd
  by_cases hx : x ∈ W.names
  · obtain ⟨r, hr, rfl⟩ := (row_at h.ks).mp hx
    rw [lk_rows nd r hr]; simp [hx]
  · rw [lk_rows_none fun r hr e => hx ((row_at h.ks).mpr ⟨r, hr, e⟩)]; simp [hx]
end
section
variable {C : Addr}
end
end Sh
set_option maxRecDepth 100000
set_option maxHeartbeats 4000000
namespace Sh
open PySem PySem.Spec L2 Dt Sh
/-! marks put on and taken off -/
def Wb.setM (W : Wb) (x : Str) (ms : List Str) : Wb := ⟨W.ks.map fun k => if k.1 = x then (k.1, ms) else k, W.ts⟩
theorem Wb.setM_names (W : Wb) (x : Str) (ms : List Str) : (W.setM x ms).names = W.names := by
  simp only [Wb.names, Wb.setM, List.map_map]
  exact List.map_congr_left fun k _ => by simp only [Function.comp]; split <;> rfl
theorem OkWb.setM {W : Wb} (h : OkWb W) (x : Str) {ms : List Str} (hm : ∀ m ∈ ms, okS m) : OkWb (W.setM x ms) := by
  have e := W.setM_names x ms
  refine ⟨by rw [e]; exact h.nd, h.nt, fun t ht => by rw [e]; exact h.tn t ht, fun y hy => h.on y (by rwa [e] at hy), fun k hk m hmk => ?_, h.ot, by simpa [Wb.setM] using h.lk, h.lt⟩
  obtain ⟨k', hk', rfl⟩ := List.mem_map.mp hk
  split at hmk
  · exact hm m hmk
  · exact h.om k' hk' m hmk
theorem rAdr_ma : ∀ {rs : List WRow}, (rAdr rs).Nodup → ∀ r ∈ rs, ∀ q ∈ rs, r.ma = q.ma → r = q
  | s :: rs, nd, r, hr, q, hq, e => by
    rw [rAdr_cons] at nd
    simp [mem_rAdr] at nd
    rcases List.mem_cons.mp hr with e1 | hr' <;> rcases List.mem_cons.mp hq with e2 | hq'
    · rw [e1, e2]
    · exact absurd (e1 ▸ e) (nd.1.2 q hq').1
    · exact absurd (e2 ▸ e).symm (nd.1.2 r hr').1
    · exact rAdr_ma nd.2.2 r hr' q hq' e
def rSetM (rs : List WRow) (x : Str) (ms : List Str) : List WRow := rs.map fun q => if q.name = x then { q with marks := ms } else q
theorem rSetM_adr (rs : List WRow) (x : Str) (ms : List Str) : rAdr (rSetM rs x ms) = rAdr rs := by
  induction rs with
  | nil => rfl
  | cons q rs ih =>
    show rAdr ((if q.name = x then { q with marks := ms } else q) :: rSetM rs x ms) = _
    rw [rAdr_cons, rAdr_cons, ih]
    split <;> rfl
theorem WebR.setM {C : Addr} {S : DH} {w a b c : Addr} {W : Wb} {rs : List WRow} (h : WebR C S w a b c W rs) {r : WRow} (hr : r ∈ rs) {ms : List Str} (hm : ∀ m ∈ ms, okS m) :
    WebR C (upo S r.ma (.lst (strsD ms))) w a b c (W.setM r.name ms) (rSetM rs r.name ms) := by
  have nd : (rs.map (·.name)).Nodup := h.names ▸ h.ok.nd
  have na : (rAdr rs).Nodup := by
    have := h.nd
    simp only [List.nodup_cons] at this
    exact this.2.2.2.2
  have hma : r.ma ∈ rAdr rs := mem_rAdr.mpr ⟨r, hr, .inl rfl⟩
  have nw : w ≠ r.ma := fun e => by have := h.nd; simp only [List.nodup_cons, List.mem_cons] at this; exact this.1 (.inr (.inr (.inr (e ▸ hma))))
  have nA : a ≠ r.ma := fun e => by have := h.nd; simp only [List.nodup_cons, List.mem_cons] at this; exact this.2.1 (.inr (.inr (e ▸ hma)))
  have nB : b ≠ r.ma := fun e => by have := h.nd; simp only [List.nodup_cons, List.mem_cons] at this; exact this.2.2.1 (.inr (e ▸ hma))
  have nC : c ≠ r.ma := fun e => by have := h.nd; simp only [List.nodup_cons, List.mem_cons] at this; exact this.2.2.2.1 (e ▸ hma)
  refine ⟨?_, ?_, ?_, ?_, ?_, ?_, ?_, ?_, h.ok.setM _ hm⟩
  · show _ = W.ks.map _
    rw [← h.ks, rSetM, List.map_map, List.map_map]
    exact List.map_congr_left fun q _ => by simp only [Function.comp]; split <;> rfl
  · rw [upo_ne nw]; exact h.ins
  · rw [upo_ne nA, h.sm, rMarks, rMarks, rSetM, List.map_map]
    refine congrArg (fun z => some (Ob.dK z)) (List.map_congr_left fun q _ => ?_)
    simp only [Function.comp]; split <;> rfl
  · rw [upo_ne nB]; exact h.st
  · rw [upo_ne nC, h.ss, rSteps, rSteps, rSetM, List.map_map]
    refine congrArg (fun z => some (Ob.dK z)) (List.map_congr_left fun q _ => ?_)
    simp only [Function.comp]; split <;> rfl
  · intro q' hq'
    obtain ⟨q, hq, rfl⟩ := List.mem_map.mp hq'
    split
    · rename_i e
      have := name_inj nd q hq r hr e
      subst this
      exact upo_same
    · rename_i e
      rw [upo_ne fun z => e (by rw [rAdr_ma na q hq r hr z])]
      exact h.rm q hq
  · intro q' hq'
    obtain ⟨q, hq, rfl⟩ := List.mem_map.mp hq'
    have e0 : (if q.name = r.name then { q with marks := ms } else q : WRow).sa = q.sa := by split <;> rfl
    have e1 : (if q.name = r.name then { q with marks := ms } else q : WRow).st = q.st := by split <;> rfl
    have e2 : (if q.name = r.name then { q with marks := ms } else q : WRow).name = q.name := by split <;> rfl
    rw [e0, e1, e2, upo_ne fun z => rAdr_ms na r hr q hq z.symm]
    exact h.rt q hq
  · rw [rSetM_adr]; exact h.nd
section
variable (C : Addr)
def sp_Web_put_mark : DSp := fun ds S Q _ => ∃ (w : Addr) (W : Wb) (F : List Addr) (x m : Str), ds = [.ref w, .str x, .str m] ∧ WebAt C S w W F ∧ x ∈ W.names ∧ m ∉ wMarks W x ∧ (wMarks W x).length < 5 ∧ okS m ∧
  ∀ S', WebAt C S' w (W.setM x (wMarks W x ++ [m])) F → Fr S F S' F → Q .non S'
def sp_Web_take_mark : DSp := fun ds S Q _ => ∃ (w : Addr) (W : Wb) (F : List Addr) (x m : Str), ds = [.ref w, .str x, .str m] ∧ WebAt C S w W F ∧ x ∈ W.names ∧ m ∈ wMarks W x ∧
  ∀ S', WebAt C S' w (W.setM x ((wMarks W x).erase m)) F → Fr S F S' F → Q .non S'
end
def t_Web_put_mark (C_Web : Addr) : DTS := (dSeq (dDrop (dMeth C_Web "ask_knot" (sp_Web_ask_knot C_Web) (dVar 0) (dCons (dVar 1) dNil)))
    (dSeq (dIf (dTest (dOp (dIn false) (dVar 2) (dOp dIxS (dFld C_Web "web_marks" (dVar 0)) (dVar 1))))
      dNever
      dNx)
    (dSeq (dIf (dTest (dOp rGe (dCB cLen (dCons (dOp dIxS (dFld C_Web "web_marks" (dVar 0)) (dVar 1)) dNil)) (dC (.int 5))))
      dNever
      dNx)
    (dDrop (dBM "list" mAppend (dOp dIxS (dFld C_Web "web_marks" (dVar 0)) (dVar 1)) (dCons (dVar 2) dNil))))))
abbrev N_Web_put_mark : List Str := ["self", "knot", "mark"]
def t_Web_take_mark (C_Web : Addr) : DTS := (dSeq (dDrop (dMeth C_Web "ask_knot" (sp_Web_ask_knot C_Web) (dVar 0) (dCons (dVar 1) dNil)))
    (dSeq (dIf (dTest (dOp (dIn true) (dVar 2) (dOp dIxS (dFld C_Web "web_marks" (dVar 0)) (dVar 1))))
      dNever
      dNx)
    (dDrop (dBM "list" mRemove (dOp dIxS (dFld C_Web "web_marks" (dVar 0)) (dVar 1)) (dCons (dVar 2) dNil)))))
abbrev N_Web_take_mark : List Str := ["self", "knot", "mark"]
section
variable {C : Addr}
theorem Fr.row {S : DH} {w a b c : Addr} {rs : List WRow} {r : WRow} (hr : r ∈ rs) {o : Ob} : Fr S (w :: a :: b :: c :: rAdr rs) (upo S r.ma o) (w :: a :: b :: c :: rAdr rs) := fun y u hy e =>
  ⟨hy, by rw [upo_ne fun z => hy (by rw [z]; simp [mem_rAdr]; exact .inr (.inr (.inr (.inr ⟨r, hr, .inl rfl⟩))))]; exact e⟩
end
end Sh
set_option maxRecDepth 100000
set_option maxHeartbeats 4000000
namespace Sh
open PySem PySem.Spec L2 Dt Sh
/-! ties taken out -/
def atKnot (x : Str) (t : T3) : Bool := decide (x = t.1) || decide (x = t.2.2)
section
variable (C : Addr)
def sp_Web_ties_at : DSp := fun ds S Q _ => ∃ (w : Addr) (W : Wb) (F : List Addr) (x : Str), ds = [.ref w, .str x] ∧ WebAt C S w W F ∧ Q (.rol ((W.ts.filter (atKnot x)).map triD)) S
end
def t_Web_ties_at (C_Web : Addr) : DTS := (dRet (dFz (dLcK (dFld C_Web "web_ties" (dVar 0)) (dGN 2) (dTest (dOp (dIn false) (dVar 1) (dTup (dCons (dOp dIxS (dVar 2) (dC (.int 0))) (dCons (dOp dIxS (dVar 2) (dC (.int 2))) dNil))))) (dVar 2) [2])))
abbrev N_Web_ties_at : List Str := ["self", "name", "tie"]
section
variable {C : Addr}
def atD (x : Str) (d : D) : Bool := match d with | .tup [.str u, _, .str v] => decide (x = u) || decide (x = v) | _ => false
end
end Sh
set_option maxRecDepth 100000
set_option maxHeartbeats 4000000
namespace Sh
open PySem PySem.Spec L2 Dt Sh
/-! a tie fewer -/
def rm3 (x : T3) (l : List T3) : List T3 := l.filter fun y => decide (y ≠ x)
theorem mem_rm3 {x y : T3} {l : List T3} : y ∈ rm3 x l ↔ y ∈ l ∧ y ≠ x := by simp [rm3]
theorem rm3_nodup {x : T3} {l : List T3} (h : l.Nodup) : (rm3 x l).Nodup := h.sublist List.filter_sublist
def Wb.cut (W : Wb) (t : T3) : Wb := ⟨W.ks, rm3 t W.ts⟩
theorem OkWb.cut {W : Wb} (h : OkWb W) (t : T3) : OkWb (W.cut t) :=
  ⟨h.nd, rm3_nodup h.nt, fun y hy => h.tn y (mem_rm3.mp hy).1, h.on, h.om, fun y hy => h.ot y (mem_rm3.mp hy).1, h.lk, Nat.le_trans (List.length_filter_le _ _) h.lt⟩
section
variable (C : Addr)
def sp_Web_cut_tie : DSp := fun ds S Q _ => ∃ (w : Addr) (W : Wb) (F : List Addr) (t : T3), ds = [.ref w, triD t] ∧ WebAt C S w W F ∧ t ∈ W.ts ∧ ∀ S', WebAt C S' w (W.cut t) F → Fr S F S' F → Q .non S'
end
def t_Web_cut_tie (C_Web : Addr) : DTS := (dSeq (dAsg (dVar 1) (dGTupA 3 (dGCons (dGN 2) (dGCons (dGN 3) (dGCons (dGN 4) dGNil)))))
    (dSeq (dDrop (dBM "dict" mDPop (dFld C_Web "web_ties" (dVar 0)) (dCons (dVar 1) dNil)))
    (dSeq (dDrop (dBM "dict" mDPop (dOp dIxS (dFld C_Web "web_steps" (dVar 0)) (dVar 2)) (dCons (dTup (dCons (dC (.str "on")) (dCons (dVar 3) (dCons (dVar 4) dNil)))) dNil)))
    (dDrop (dBM "dict" mDPop (dOp dIxS (dFld C_Web "web_steps" (dVar 0)) (dVar 4)) (dCons (dTup (dCons (dC (.str "back")) (dCons (dVar 3) (dCons (dVar 2) dNil)))) dNil))))))
abbrev N_Web_cut_tie : List Str := ["self", "tie", "one", "word", "other"]
section
variable {C : Addr}
end
end Sh
set_option maxRecDepth 100000
set_option maxHeartbeats 4000000
namespace Sh
open PySem PySem.Spec L2 Dt Sh
/-! ShA: rows, webs, steps of the laws k02 to k15 and k90 to k97. -/
def rowsD (R : Wb) : D := .tup [.rol (R.ks.map fun k => .tup [.str k.1, .rol (strsD k.2)]), .rol (R.ts.map triD)]
/-- rows by draws -/
structure DrawnR (ks ws ms : List Str) (m : Nat) (R : Wb) : Prop where
  ok : OkWb R
  k1 : 1 ≤ R.ks.length
  km : R.ks.length ≤ m
  names : R.names = ks.take R.ks.length
  marks : ∀ k ∈ R.ks, ∀ x ∈ k.2, x ∈ ms
  ml : ∀ k ∈ R.ks, k.2.length ≤ ms.length
  mn : ∀ k ∈ R.ks, k.2.Nodup
  words : ∀ t ∈ R.ts, t.2.1 ∈ ws
  tm : R.ts.length ≤ 3 * m
def costR (ms : List Str) (m : Nat) : Nat := 2 + m * (ms.length + 1) + 12 * m
def sp_l_rows : DSp := fun ds S Q _ => ∃ (p : Addr) (ks ws ms : List Str) (m n : Nat) (o : Ob), ds = [.ref p, .rol [.rol (strsD ks), .rol (strsD ws), .rol (strsD ms)], .int m] ∧ (∀ x ∈ ks, Nm x) ∧ ks.Nodup ∧ m ≤ ks.length ∧ 1 ≤ m ∧ m ≤ 1000 ∧ (∀ x ∈ ws, Nm x) ∧ 1 ≤ ws.length ∧ ws.length ≤ 1000 ∧ (∀ x ∈ ms, Nm x) ∧ ms.Nodup ∧ ms.length ≤ 1000 ∧
  S p = some o ∧ FeedOb n o ∧ n + costR ms m < 2 ^ 90 ∧ ∀ R o', DrawnR ks ws ms m R → FeedOb (n + costR ms m) o' → Q (rowsD R) (upo S p o')
section
variable (C : Addr)
def sp_l_web : DSp := fun ds S Q _ => ∃ R : Wb, ds = [rowsD R] ∧ OkWb R ∧ R.ks.length ≤ 40 ∧ R.ts.length ≤ 300 ∧ ∀ w S' F, WebAt C S' w R F → Fr S [] S' F → Q (.ref w) S'
end
def sp_l_steps : DSp := fun ds S Q _ => ∃ (R : Wb) (x : Str), ds = [rowsD R, .str x] ∧ OkWb R ∧ okS x ∧ ∀ st, StepsOf R x st → Q (.rol (st.map triD)) S
def t_l_steps : DTS := (dSeq (dAsg (dFz (dLc (dSeqI (dOp dIxS (dVar 0) (dC (.int 1)))) (dGN 4) (dTest (dOp (dEq false) (dOp dIxS (dVar 4) (dC (.int 0))) (dVar 1))) (dTup (dCons (dC (.str "on")) (dCons (dOp dIxS (dVar 4) (dC (.int 1))) (dCons (dOp dIxS (dVar 4) (dC (.int 2))) dNil)))) [4])) (dGN 2))
    (dSeq (dAsg (dFz (dLc (dSeqI (dOp dIxS (dVar 0) (dC (.int 1)))) (dGN 4) (dTest (dOp (dEq false) (dOp dIxS (dVar 4) (dC (.int 2))) (dVar 1))) (dVar 4) [4])) (dGN 3))
    (dRet (dCB cSortAF (dCons (dOp dAddF (dVar 2) (dFz (dLc (dSeqI (dVar 3)) (dGN 4) dYes (dTup (dCons (dC (.str "back")) (dCons (dOp dIxS (dVar 4) (dC (.int 1))) (dCons (dOp dIxS (dVar 4) (dC (.int 0))) dNil)))) [4]))) dNil)))))
abbrev N_l_steps : List Str := ["_law_rows_here", "_law_knot", "_law_found", "_law_ties", "_law_tie"]
def t_l_rows : DTS := (dSeq (dAsg (dLst dNil) (dGN 3))
    (dSeq (dFor (dRng1 (dCons (dOp dAddF (dC (.int 1)) (dCall sp_l_next (dCons (dVar 0) (dCons (dVar 2) dNil)))) dNil)) (dGN 4)
      (dSeq (dAsg (dFz (dLc (dSeqI (dOp dIxS (dVar 1) (dC (.int 2)))) (dGN 10) (dTest (dOp (dEq false) (dCall sp_l_next (dCons (dVar 0) (dCons (dC (.int 3)) dNil))) (dC (.int 0)))) (dVar 10) [10])) (dGN 5))
    (dDrop (dBM "list" mAppend (dVar 3) (dCons (dTup (dCons (dOp dIxS (dOp dIxS (dVar 1) (dC (.int 0))) (dVar 4)) (dCons (dVar 5) dNil))) dNil)))))
    (dSeq (dAsg (dLst dNil) (dGN 6))
    (dSeq (dFor (dRng1 (dCons (dCall sp_l_next (dCons (dVar 0) (dCons (dOp dMul (dC (.int 3)) (dVar 2)) dNil))) dNil)) (dGN 4)
      (dSeq (dAsg (dOp dIxS (dOp dIxS (dVar 3) (dCall sp_l_next (dCons (dVar 0) (dCons (dCB cLen (dCons (dVar 3) dNil)) dNil)))) (dC (.int 0))) (dGN 7))
    (dSeq (dAsg (dOp dIxS (dOp dIxS (dVar 1) (dC (.int 1))) (dCall sp_l_next (dCons (dVar 0) (dCons (dCB cLen (dCons (dOp dIxS (dVar 1) (dC (.int 1))) dNil)) dNil)))) (dGN 8))
    (dSeq (dAsg (dTup (dCons (dVar 7) (dCons (dVar 8) (dCons (dOp dIxS (dOp dIxS (dVar 3) (dCall sp_l_next (dCons (dVar 0) (dCons (dCB cLen (dCons (dVar 3) dNil)) dNil)))) (dC (.int 0))) dNil)))) (dGN 9))
    (dIf (dTest (dOp (dIn true) (dVar 9) (dVar 6)))
      (dDrop (dBM "list" mAppend (dVar 6) (dCons (dVar 9) dNil)))
      dNx)))))
    (dRet (dTup (dCons (dVar 3) (dCons (dVar 6) dNil))))))))
abbrev N_l_rows : List Str := ["_law_feed_here", "_law_names_here", "_law_most", "_law_knots", "_law_k", "_law_marks", "_law_ties", "_law_one", "_law_word", "_law_tie", "_law_mark"]
def t_l_web (C_Web : Addr) : DTS := (dSeq (dAsg (dMake C_Web (sp_Web_init C_Web) dNil) (dGN 1))
    (dSeq (dFor (dSeqI (dOp dIxS (dVar 0) (dC (.int 0)))) (dGTup 2 (dGCons (dGN 2) (dGCons (dGN 3) dGNil)))
      (dDrop (dMeth C_Web "put_knot" (sp_Web_put_knot C_Web) (dVar 1) (dCons (dVar 2) (dCons (dCB cListAF (dCons (dVar 3) dNil)) dNil)))))
    (dSeq (dFor (dSeqI (dOp dIxS (dVar 0) (dC (.int 1)))) (dGTup 3 (dGCons (dGN 4) (dGCons (dGN 5) (dGCons (dGN 6) dGNil))))
      (dDrop (dMeth C_Web "put_tie" (sp_Web_put_tie C_Web) (dVar 1) (dCons (dVar 4) (dCons (dVar 5) (dCons (dVar 6) dNil))))))
    (dRet (dVar 1)))))
abbrev N_l_web : List Str := ["_law_rows_here", "_law_web_here", "_law_name", "_law_marks", "_law_one", "_law_word", "_law_other"]
section
variable {C : Addr}
end
end Sh
set_option maxRecDepth 100000
set_option maxHeartbeats 4000000
namespace Sh
open PySem PySem.Spec L2 Dt Sh
section
variable (C : Addr)
def sp_Web_take_tie : DSp := fun ds S Q _ => ∃ (w : Addr) (W : Wb) (F : List Addr) (t : T3), ds = [.ref w, .str t.1, .str t.2.1, .str t.2.2] ∧ WebAt C S w W F ∧ t ∈ W.ts ∧ ∀ S', WebAt C S' w (W.cut t) F → Fr S F S' F → Q .non S'
/-- rows as web_of takes them -/
def rowT (W : Wb) : D := .tup [.tup (W.ks.map fun k => .tup [.str k.1, .tup (strsD k.2)]), .tup (W.ts.map triD)]
def sp_web_of : DSp := fun ds S Q _ => ∃ W : Wb, ds = [rowT W] ∧ OkWb W ∧ ∀ w S' F, WebAt C S' w W F → Fr S [] S' F → Q (.ref w) S'
end
def t_Web_take_tie (C_Web : Addr) : DTS := (dSeq (dDrop (dMeth C_Web "ask_knot" (sp_Web_ask_knot C_Web) (dVar 0) (dCons (dVar 1) dNil)))
    (dSeq (dDrop (dMeth C_Web "ask_knot" (sp_Web_ask_knot C_Web) (dVar 0) (dCons (dVar 3) dNil)))
    (dSeq (dIf (dNot (dTest (dMeth C_Web "has_tie" (sp_Web_has_tie C_Web) (dVar 0) (dCons (dVar 1) (dCons (dVar 2) (dCons (dVar 3) dNil))))))
      dNever
      dNx)
    (dDrop (dMeth C_Web "cut_tie" (sp_Web_cut_tie C_Web) (dVar 0) (dCons (dTup (dCons (dVar 1) (dCons (dVar 2) (dCons (dVar 3) dNil)))) dNil))))))
abbrev N_Web_take_tie : List Str := ["self", "one", "word", "other"]
def t_web_of (C_Web : Addr) : DTS := (dSeq (dAsg (dMake C_Web (sp_Web_init C_Web) dNil) (dGN 1))
    (dSeq (dFor (dSeqI (dOp dIxS (dVar 0) (dC (.int 0)))) (dGTup 2 (dGCons (dGN 2) (dGCons (dGN 3) dGNil)))
      (dDrop (dMeth C_Web "lay_knot" (sp_Web_lay_knot C_Web) (dVar 1) (dCons (dVar 2) (dCons (dVar 3) dNil)))))
    (dSeq (dFor (dSeqI (dOp dIxS (dVar 0) (dC (.int 1)))) (dGN 4)
      (dDrop (dMeth C_Web "lay_tie" (sp_Web_lay_tie C_Web) (dVar 1) (dCons (dVar 4) dNil))))
    (dRet (dVar 1)))))
abbrev N_web_of : List Str := ["rows", "web", "name", "marks", "tie"]
section
variable {C : Addr}
end
end Sh
set_option maxRecDepth 100000
set_option maxHeartbeats 4000000
namespace Sh
open PySem PySem.Spec L2 Dt Sh
/-! a web of its own -/
def sortStr (xs : List Str) : List Str := (sortS xs).map fun d => match d with | .str s => s | _ => ""
/-- W2 has the rows of W -/
structure Alike (W W2 : Wb) : Prop where
  names : W2.names.Perm W.names
  ties : W2.ts.Perm W.ts
  rows : RowsOf W (rowT W2)
  ok : OkWb W2
section
variable (C : Addr)
def sp_Web_like : DSp := fun ds S Q _ => ∃ (w : Addr) (W : Wb) (F : List Addr), ds = [.ref w] ∧ WebAt C S w W F ∧ ∀ w2 W2 S' F2, WebAt C S' w2 W2 F2 → Alike W W2 → Fr S [] S' F2 → Q (.ref w2) S'
end
def t_Web_like (C_Web : Addr) : DTS := (dRet (dCall (sp_web_of C_Web) (dCons (dMeth C_Web "rows" (sp_Web_rows C_Web) (dVar 0) dNil) dNil)))
abbrev N_Web_like : List Str := ["self"]
section
variable {C : Addr}
end
end Sh
set_option maxRecDepth 100000
set_option maxHeartbeats 4000000
namespace Sh
open PySem PySem.Spec L2 Dt Sh
/-! a knot fewer -/
def Wb.cuts (W : Wb) : List T3 → Wb
  | [] => W
  | t :: L => (W.cut t).cuts L
def Wb.dropK (W : Wb) (x : Str) : Wb := ⟨W.ks.filter fun k => decide (k.1 ≠ x), W.ts.filter fun t => !atKnot x t⟩
section
variable (C : Addr)
def sp_Web_take_knot : DSp := fun ds S Q _ => ∃ (w : Addr) (W : Wb) (F : List Addr) (x : Str), ds = [.ref w, .str x] ∧ WebAt C S w W F ∧ x ∈ W.names ∧ ∀ S' F', WebAt C S' w (W.dropK x) F' → Fr S F S' F' → Q .non S'
end
def t_Web_take_knot (C_Web : Addr) : DTS := (dSeq (dDrop (dMeth C_Web "ask_knot" (sp_Web_ask_knot C_Web) (dVar 0) (dCons (dVar 1) dNil)))
    (dSeq (dFor (dSeqI (dMeth C_Web "ties_at" (sp_Web_ties_at C_Web) (dVar 0) (dCons (dVar 1) dNil))) (dGN 2)
      (dDrop (dMeth C_Web "cut_tie" (sp_Web_cut_tie C_Web) (dVar 0) (dCons (dVar 2) dNil))))
    (dSeq (dDrop (dBM "dict" mDPop (dFld C_Web "web_marks" (dVar 0)) (dCons (dVar 1) dNil)))
    (dDrop (dBM "dict" mDPop (dFld C_Web "web_steps" (dVar 0)) (dCons (dVar 1) dNil))))))
abbrev N_Web_take_knot : List Str := ["self", "name", "tie"]
section
variable {C : Addr}
theorem OkWb.dropK {W : Wb} (h : OkWb W) (x : Str) : OkWb (W.dropK x) := by
  have en : (W.dropK x).names = W.names.filter fun n => decide (n ≠ x) := by
    simp only [Wb.names, Wb.dropK, List.filter_map]
    rfl
  refine ⟨by rw [en]; exact h.nd.sublist List.filter_sublist, h.nt.sublist List.filter_sublist, fun t ht => ?_, fun n hn => h.on n (by rw [en] at hn; exact (List.mem_filter.mp hn).1), fun k hk => h.om k (List.mem_filter.mp hk).1, fun t ht => h.ot t (List.mem_filter.mp ht).1, Nat.le_trans (List.length_filter_le _ _) h.lk, Nat.le_trans (List.length_filter_le _ _) h.lt⟩
  obtain ⟨h1, h2⟩ := List.mem_filter.mp ht
  have := h.tn t h1
  rw [en]
  simp [atKnot] at h2
  exact ⟨List.mem_filter.mpr ⟨this.1, by simpa using fun e => h2.1 e.symm⟩, List.mem_filter.mpr ⟨this.2, by simpa using fun e => h2.2 e.symm⟩⟩
end
end Sh
set_option maxRecDepth 100000
set_option maxHeartbeats 4000000
namespace Sh
open PySem PySem.Spec L2 Dt Sh
/-! ShX: the refusals: what each one's __init__ does. -/
/-- what may be borne: a text, a whole number, a tuple of data -/
def Brn (d : D) : Prop := match d with
  | .str x => x.length ≤ 100000
  | .int i => i.natAbs.log2 < 1900
  | .tup xs => Rp (.tup xs) ∧ (toP (.tup xs)).shown.length ≤ 1000000
  | _ => False
/-- an __init__ that keeps one thing -/
def spX1 (C : Addr) (f : Str) : DSp := fun ds S Q _ => ∃ (a : Addr) (d : D), ds = [.ref a, d] ∧ S a = some (.ex0 C) ∧ Brn d ∧ ∀ dx, S dx = none → dx ≠ a → Q .non (upo (upo S dx (.xm [(f, d)])) a (.ex1 C dx))
def tX1 (C : Addr) (f m : Str) : DTS := (dSeq (dDrop (dVeI C (dCons (dVar 0) (dCons (dOp dAddF (dC (.str m)) (dCB cStrG (dCons (dVar 1) dNil))) dNil)))) (dPutX C f (dVar 0) (dVar 1)))
abbrev sp_NoKnot_init (C : Addr) : DSp := spX1 C "name"
def t_NoKnot_init (C_NoKnot : Addr) : DTS := (dSeq (dDrop (dVeI C_NoKnot (dCons (dVar 0) (dCons (dOp dAddF (dC (.str "no such knot: ")) (dCB cStrG (dCons (dVar 1) dNil))) dNil))))
    (dPutX C_NoKnot "name" (dVar 0) (dVar 1)))
abbrev N_NoKnot_init : List Str := ["self", "name"]
abbrev sp_NoMark_init (C : Addr) : DSp := spX1 C "name"
def t_NoMark_init (C_NoMark : Addr) : DTS := (dSeq (dDrop (dVeI C_NoMark (dCons (dVar 0) (dCons (dOp dAddF (dC (.str "no such mark: ")) (dCB cStrG (dCons (dVar 1) dNil))) dNil))))
    (dPutX C_NoMark "name" (dVar 0) (dVar 1)))
abbrev N_NoMark_init : List Str := ["self", "name"]
abbrev sp_NoName_init (C : Addr) : DSp := spX1 C "name"
def t_NoName_init (C_NoName : Addr) : DTS := (dSeq (dDrop (dVeI C_NoName (dCons (dVar 0) (dCons (dOp dAddF (dC (.str "no pattern of that name: ")) (dCB cStrG (dCons (dVar 1) dNil))) dNil))))
    (dPutX C_NoName "name" (dVar 0) (dVar 1)))
abbrev N_NoName_init : List Str := ["self", "name"]
abbrev sp_Twice_init (C : Addr) : DSp := spX1 C "name"
def t_Twice_init (C_Twice : Addr) : DTS := (dSeq (dDrop (dVeI C_Twice (dCons (dVar 0) (dCons (dOp dAddF (dC (.str "there already: ")) (dCB cStrG (dCons (dVar 1) dNil))) dNil))))
    (dPutX C_Twice "name" (dVar 0) (dVar 1)))
abbrev N_Twice_init : List Str := ["self", "name"]
abbrev sp_TooMany_init (C : Addr) : DSp := spX1 C "word"
def t_TooMany_init (C_TooMany : Addr) : DTS := (dSeq (dDrop (dVeI C_TooMany (dCons (dVar 0) (dCons (dOp dAddF (dC (.str "too many ")) (dCB cStrG (dCons (dVar 1) dNil))) dNil))))
    (dPutX C_TooMany "word" (dVar 0) (dVar 1)))
abbrev N_TooMany_init : List Str := ["self", "word"]
abbrev sp_NoTie_init (C : Addr) : DSp := spX1 C "tie"
def t_NoTie_init (C_NoTie : Addr) : DTS := (dSeq (dDrop (dVeI C_NoTie (dCons (dVar 0) (dCons (dOp dAddF (dC (.str "no such tie: ")) (dCB cStrG (dCons (dVar 1) dNil))) dNil))))
    (dPutX C_NoTie "tie" (dVar 0) (dVar 1)))
abbrev N_NoTie_init : List Str := ["self", "tie"]
abbrev sp_NoMeet_init (C : Addr) : DSp := spX1 C "knot"
def t_NoMeet_init (C_NoMeet : Addr) : DTS := (dSeq (dDrop (dVeI C_NoMeet (dCons (dVar 0) (dCons (dOp dAddF (dC (.str "the way ahead does not end at ")) (dCB cStrG (dCons (dVar 1) dNil))) dNil))))
    (dPutX C_NoMeet "knot" (dVar 0) (dVar 1)))
abbrev N_NoMeet_init : List Str := ["self", "knot"]
abbrev sp_NoText_init (C : Addr) : DSp := spX1 C "at"
def t_NoText_init (C_NoText : Addr) : DTS := (dSeq (dDrop (dVeI C_NoText (dCons (dVar 0) (dCons (dOp dAddF (dC (.str "wrong from word ")) (dCB cStrG (dCons (dVar 1) dNil))) dNil))))
    (dPutX C_NoText "at" (dVar 0) (dVar 1)))
abbrev N_NoText_init : List Str := ["self", "at"]
abbrev sp_NoLine_init (C : Addr) : DSp := spX1 C "at"
def t_NoLine_init (C_NoLine : Addr) : DTS := (dSeq (dDrop (dVeI C_NoLine (dCons (dVar 0) (dCons (dOp dAddF (dC (.str "no line: ")) (dCB cStrG (dCons (dVar 1) dNil))) dNil))))
    (dPutX C_NoLine "at" (dVar 0) (dVar 1)))
abbrev N_NoLine_init : List Str := ["self", "at"]
abbrev sp_NoWay_init (C : Addr) : DSp := spX1 C "count"
def t_NoWay_init (C_NoWay : Addr) : DTS := (dSeq (dDrop (dVeI C_NoWay (dCons (dVar 0) (dCons (dOp dAddF (dC (.str "there are so many ways: ")) (dCB cStrG (dCons (dVar 1) dNil))) dNil))))
    (dPutX C_NoWay "count" (dVar 0) (dVar 1)))
abbrev N_NoWay_init : List Str := ["self", "count"]
abbrev sp_TooLong_init (C : Addr) : DSp := spX1 C "count"
def t_TooLong_init (C_TooLong : Addr) : DTS := (dSeq (dDrop (dVeI C_TooLong (dCons (dVar 0) (dCons (dOp dAddF (dC (.str "too many steps: ")) (dCB cStrG (dCons (dVar 1) dNil))) dNil))))
    (dPutX C_TooLong "count" (dVar 0) (dVar 1)))
abbrev N_TooLong_init : List Str := ["self", "count"]
abbrev sp_NoSuch_init (C : Addr) : DSp := spX1 C "number"
def t_NoSuch_init (C_NoSuch : Addr) : DTS := (dSeq (dDrop (dVeI C_NoSuch (dCons (dVar 0) (dCons (dOp dAddF (dC (.str "no pattern of that number: ")) (dCB cStrG (dCons (dVar 1) dNil))) dNil))))
    (dPutX C_NoSuch "number" (dVar 0) (dVar 1)))
abbrev N_NoSuch_init : List Str := ["self", "number"]
end Sh
set_option maxRecDepth 100000
set_option maxHeartbeats 4000000
namespace Sh
open PySem PySem.Spec L2 Dt Sh
/-! an exception as a value -/
def HasX (S : DH) (a C : Addr) (fs : List (Str × D)) : Prop := ∃ dx, S a = some (.exc C dx) ∧ S dx = some (.xd fs)
theorem HasX.ext {S S' : DH} {a C : Addr} {fs : List (Str × D)} (h : HasX S a C fs) (e : Ext S S') : HasX S' a C fs := let ⟨dx, h1, h2⟩ := h; ⟨dx, e _ _ h1, e _ _ h2⟩
def mkXK (C : Addr) (sp : DSp) (Q : DK) (ds : List D) (S1 : DH) : Prop := ds.length ≤ 1000 ∧ ∀ a, S1 a = none → sp (.ref a :: ds) (upo S1 a (.ex0 C))
  (fun d S' => d = .non ∧ ∃ dx fs, dx ≠ a ∧ S' a = some (.ex1 C dx) ∧ S' dx = some (.xm fs) ∧ Q (.ref a) (upo (upo (delo (delo S' a) dx) dx (.xd fs)) a (.exc C dx))) fun _ _ _ => False
theorem dMakeX_eq (C : Addr) (sp : DSp) (t : DTA) : dMakeX C sp t = fun E τ S Q => t E τ S (mkXK C sp Q) := rfl
def sp_GoesRound_init (C : Addr) : DSp := fun ds S Q _ => ∃ (a : Addr) (d : D) (xs : List Str), ds = [.ref a, d] ∧ S a = some (.ex0 C) ∧ seqD S d = some (xs.map .str) ∧ xs.length ≤ 1000 ∧ (∀ x ∈ xs, x.length ≤ 100) ∧
  ∀ dx, S dx = none → dx ≠ a → Q .non (upo (upo S dx (.xm [("ring", .rol (xs.map .str))])) a (.ex1 C dx))
theorem sp_GoesRound_init_mono (C : Addr) : SpMono (sp_GoesRound_init C) := fun ds S Q Q' E E' k _ ⟨a, d, xs, h1, h2, h3, h4, h5, h⟩ => ⟨a, d, xs, h1, h2, h3, h4, h5, fun dx x y => k _ _ (h dx x y)⟩
def t_GoesRound_init (C_GoesRound : Addr) : DTS := (dSeq (dDrop (dVeI C_GoesRound (dCons (dVar 0) (dCons (dOp dAddF (dC (.str "the rules go round: ")) (dBM "str" mJoin (dC (.str " ")) (dCons (dVar 1) dNil))) dNil))))
    (dPutX C_GoesRound "ring" (dVar 0) (dCB cListAF (dCons (dVar 1) dNil))))
abbrev N_GoesRound_init : List Str := ["self", "ring"]
theorem sum_short : ∀ xs : List Str, (∀ x ∈ xs, x.length ≤ 100) → (xs.map (·.length)).sum ≤ 100 * xs.length
  | [], _ => by simp
  | x :: xs, h => by
    have := sum_short xs fun y hy => h y (List.mem_cons_of_mem _ hy)
    have := h x List.mem_cons_self
    simp only [List.map_cons, List.sum_cons, List.length_cons]
    omega
theorem r_GoesRound_init {C : Addr} (ds S Q E) (h : sp_GoesRound_init C ds S Q E) : t_GoesRound_init C (dEnd Q E) (dstart N_GoesRound_init ds) S := by
  obtain ⟨a, d, xs, rfl, ea, sq, h4, h5, h⟩ := h
  unfold t_GoesRound_init
  have hs := sum_short xs h5
  refine dSeq_gen fun R hR => ?_
  simp [dstart]
  refine ⟨" ", d, xs, rfl, rfl, .inl sq, ?_, ?_⟩
  · rw [show (Str.ofString " ").length = 1 from rfl]
    omega
  simp [ea]
  have hj : (Txt.join (Str.ofString " ") xs).length = (xs.map (·.length)).sum + (xs.length - 1) * (Str.ofString " ").length := PySem.size_glued _ _
  rw [show (Str.ofString " ").length = 1 from rfl] at hj
  have hm : (Str.ofString "the rules go round: ").length ≤ 100 := by decide +kernel
  refine ⟨by omega, ?_⟩
  subst hR
  have fin : newO S (Ob.xm [("ring", D.rol (xs.map .str))]) fun dx S3 => Rt Q D.non (upo S3 a (Ob.ex1 C dx)) := fun p hp => .same (h p hp fun e => by rw [e, ea] at hp; cases hp)
  simp only [dPutX, dCB, dCons, dVar, dNil, dPutXK, ea, dEnd, List.getElem?_cons_zero, List.getElem?_cons_succ]
  simp [dPutXK, ea]
  cases d with
  | rol ys => simp at sq; subst sq; exact .inl (by simpa using fin)
  | ref l => simp only [seqD_ref] at sq; left; simp [sq]; exact fin
  | _ => cases sq
def sp_NoPair_init (C : Addr) : DSp := fun ds S Q _ => ∃ (a : Addr) (x y : Str), ds = [.ref a, .str x, .str y] ∧ S a = some (.ex0 C) ∧ x.length ≤ 1000 ∧ y.length ≤ 1000 ∧
  ∀ dx, S dx = none → dx ≠ a → Q .non (upo (upo (upo S dx (.xm [("one", .str x)])) a (.ex1 C dx)) dx (.xm [("other", .str y), ("one", .str x)]))
def t_NoPair_init (C_NoPair : Addr) : DTS := (dSeq (dDrop (dVeI C_NoPair (dCons (dVar 0) (dCons (dOp dAddF (dOp dAddF (dOp dAddF (dC (.str "no way from ")) (dCB cStrG (dCons (dVar 1) dNil))) (dC (.str " to "))) (dCB cStrG (dCons (dVar 2) dNil))) dNil))))
    (dSeq (dPutX C_NoPair "one" (dVar 0) (dVar 1))
    (dPutX C_NoPair "other" (dVar 0) (dVar 2))))
abbrev N_NoPair_init : List Str := ["self", "one", "other"]
theorem dIsEK_at {subs : List (Addr × Bool)} {Q : DK} {S : DH} {a C : Addr} {fs : List (Str × D)} {b : Bool} (i : Nat) (h : HasX S a C fs) (e : subs[i]? = some (C, b)) (q : Q (.bl b) S) : dIsEK subs Q (.ref a) S := by
  obtain ⟨dx, h1, h2⟩ := h
  unfold dIsEK
  simp only [h1]
  exact ⟨⟨fs, h2⟩, b, List.mem_of_getElem? e, q⟩
theorem dFldXK_at {Cs : List Addr} {f : Str} {Q : DK} {S : DH} {a C : Addr} {fs : List (Str × D)} {v : D} (i : Nat) (h : HasX S a C fs) (e : Cs[i]? = some C) (l : fs.lookup f = some v) (q : Q v S) : dFldXK Cs f Q (.ref a) S := by
  obtain ⟨dx, h1, h2⟩ := h
  unfold dFldXK
  simp only [h1, h2, l]
  exact ⟨List.mem_of_getElem? e, q⟩
end Sh
set_option maxRecDepth 100000
set_option maxHeartbeats 4000000
namespace Dt
open PySem PySem.Spec L2 PyProof.Rows PySem.W
/-! DatH: d.items(): sorted, walked. -/
section
variable {X : Cx} {pins : List (Addr × Obj)} {σ : L2.St} {H : Hp} {s : Shared}
open L2.DX (itemsO itemsO_ok takeT)
def pairD (q : Key × D) : D := .tup [keyD q.1, q.2]
def tItems (te : TE) : TE := fun σ H Q => te σ H fun x H1 => ∃ (a : Addr) (kvs : List (Key × V)), x = .ref a ∧ H1 a = some (.dK kvs) ∧ ∀ p, H1 p = none → Q (.ref p) (upd H1 p (itemsO p a))
theorem RKs.at_ {K : PySem.W.Frag} {H : Hp} {κ : Type} : ∀ {kvs : List (κ × D)} {ws : List (κ × V)} {i : Nat} {q : κ × V}, RKs K H kvs ws → ws[i]? = some q → ∃ d, kvs[i]? = some (q.1, d) ∧ RD K H d q.2
  | [], _, i, q, h, e => by cases h; simp at e
  | (k, d) :: r, _, i, q, h, e => by
    obtain ⟨v, s, rfl, h1, h2⟩ := h
    cases i with
    | zero => simp at e; subst e; exact ⟨d, rfl, h1⟩
    | succ i => exact RKs.at_ (kvs := r) (ws := s) (i := i) (q := q) h2 (by simpa using e)
def rSortV (w : World) (K : PySem.W.Frag) : List V → Hp → VK → Prop := fun vs H Q => ∃ (p a : Addr) (kvs : List (Key × D)) (S : DH), vs = [.ref p] ∧ H p = some (itemsO p a) ∧ S a = some (.dK kvs) ∧ Rep w K S H ∧ (∃ t, sortTy t = true ∧ ∀ d ∈ kvs.map pairD, hasTy t d = true) ∧
  ∀ q H', S q = none → LeH H H' → Rep w K (upo S q (.lst (srtD (kvs.map pairD)))) H' → Q (.ref q) H'
/-- sorted(e.items()) -/
def dSortItems (t : DTE) : DTE := fun E τ S Q => t E τ S fun d S1 => match d with
  | .ref a => (match S1 a with
    | some (.dK kvs) => cSrt (kvs.map pairD) fun ys => newO S1 (.lst ys) fun p S' => Q (.ref p) S'
    | _ => False)
  | _ => False
@[simp] def dSortItemsF (t : DTE) : DTE := fun E τ S Q => t E τ S fun d S1 => match d with
  | .ref a => (match S1 a with
    | some (.dK kvs) => cSrt (kvs.map pairD) fun ys => Q (.rol ys) S1
    | _ => False)
  | _ => False
def dSortItemsK (Q : DK) : DK := fun d S1 => match d with
  | .ref a => (match S1 a with
    | some (.dK kvs) => cSrt (kvs.map pairD) fun ys => Q (.rol ys) S1
    | _ => False)
  | _ => False
theorem dSortItems_eq {t : DTE} {E : DW} {τ : DSt} {S : DH} {Q : DK} : dSortItemsF t E τ S Q = t E τ S (dSortItemsK Q) := rfl
end
section
variable {X : Cx}
/-! ### len(set(e)) -/
def rLenSet (w : World) : List V → Hp → VK → Prop := fun vs H Q => ∃ (p : Addr) (ks : List Key), vs = [.ref p] ∧ H p = some (setHO w p ks) ∧ Q (.int (ks.length : Nat)) H
theorem cr_lenSet : CallR X (.builtin "len") (rLenSet X.w) := by
  intro pins s σ H vs us Q I r ⟨p, ks, e, hp, q⟩
  subst e
  obtain rfl := Vals.ref1 r
  obtain ⟨o, es, ep, t, l, ho, hex, hd, pe, re, nd, hb, hf, hr, hl⟩ := setHO_at I.hok hp
  have hn : es.size = ks.length := by
    rw [← re.length, ← pe.length_eq, Array.length_toList]
  exact call_len_set ho hex hd hf (by have := hb; unfold scanBound at this; omega) ⟨.int (ks.length : Nat), H, I.tok _, ⟨_, by rw [hn]⟩, q⟩
@[simp] def dLenSet (t : DTE) : DTE := fun E τ S Q => t E τ S fun d S1 => ∃ all : List Key, seqD S1 d = some (all.map keyD) ∧ all.length + 1 < scanBound ∧ Q (.int ((firstK all).length : Nat)) S1
theorem de_lenSet {e : Expr} {t : DTE} {p p' pos pos' : Pos} (hc : X.calm = true) (hgs : Gl X "len") (hms : X.mg "len" = none) (hgt : Gl X "set") (hmt : X.mg "set" = none) (hbs : bootBuiltins "len" = some (.builtin "len")) (hbt : bootBuiltins "set" = some (.type "set")) (he : DE X e t)
    (h1 : starEach [e] X.env = (false, eval e X.env) :: starEach [] X.env := by rfl) (h2 : starEach [Expr.Call (.Name "set" p') [e] [] pos'] X.env = (false, eval (Expr.Call (.Name "set" p') [e] [] pos') X.env) :: starEach [] X.env := by rfl) :
    DE X (.Call (.Name "len" p) [.Call (.Name "set" p') [e] [] pos'] [] pos) (dLenSet t) := by
  refine ⟨fun E E' τ S Q Q' hE k q => he.mono _ _ _ _ _ _ hE (fun d S1 ⟨all, a1, a2, a3⟩ => ⟨all, a1, a2, k _ _ a3⟩) q, pE_imp (pe_callB cr_lenSet hgs hms hbs (pa_cons (pe_callTy (cr_setKs hc) hgt hmt hbt (pa_cons he.run pa_nil h1) (by decide) (by decide) h1 rfl) pa_nil h2) (by decide) (by decide) h2 rfl) fun σ H Q ⟨E, τ, S, w, rl, q⟩ => ?_⟩
  refine he.to w rl q fun d S1 v H1 le w1 r1 rd ⟨all, hd, hb, h⟩ => ?_
  obtain ⟨a, xs, rfl, sq, rs⟩ := seqD_rd r1.rep rd hd
  refine ⟨a, all, rfl, by rw [← rds_keys rs]; exact sq.l, hb, fun p hp => ⟨p, firstK all, rfl, upd_same, ?_⟩⟩
  exact h _ _ (le.trans (LeH.new hp)) (r1.rep.garb (u := setHO X.w p (firstK all)) hp) rfl
theorem first_go : ∀ {all acc : List Key}, (acc ++ all).Nodup → all.foldl addK acc = acc ++ all
  | [], acc, _ => by simp
  | k :: all, acc, h => by
    have hk : k ∉ acc := fun z => by
      rw [List.nodup_append] at h
      exact h.2.2 k z k (List.mem_cons_self ..) rfl
    have e : addK acc k = acc ++ [k] := by simp [addK, hk]
    rw [List.foldl_cons, e, first_go (by simpa using h)]
    simp
theorem first_len : ∀ (all acc : List Key), acc.Nodup → (all.foldl addK acc).Nodup ∧ (all.foldl addK acc).length ≤ acc.length + all.length ∧ (¬ (acc ++ all).Nodup → (all.foldl addK acc).length < acc.length + all.length)
  | [], acc, h => ⟨h, by simp, fun z => absurd (by simpa using h) z⟩
  | k :: all, acc, h => by
    rw [List.foldl_cons]
    by_cases hk : k ∈ acc
    · have e : addK acc k = acc := by simp [addK, hk]
      rw [e]
      obtain ⟨a, b, c⟩ := first_len all acc h
      exact ⟨a, by simp; omega, fun _ => by simp; omega⟩
    · have e : addK acc k = acc ++ [k] := by simp [addK, hk]
      rw [e]
      obtain ⟨a, b, c⟩ := first_len all (acc ++ [k]) (by rw [List.nodup_append]; exact ⟨h, by simp, fun x hx y hy z => by rw [List.mem_singleton.mp hy] at z; exact hk (z ▸ hx)⟩)
      refine ⟨a, by simp at b ⊢; omega, fun z => ?_⟩
      have := c (by simpa using z)
      simp at this ⊢
      omega
/-- as many unlike ones as there are just where none stands twice -/
theorem firstK_nodup (all : List Key) : (firstK all).length = all.length ↔ all.Nodup := by
  constructor
  · intro h
    refine Decidable.byContradiction fun z => ?_
    have := (first_len all [] .nil).2.2 (by simpa using z)
    simp at this
    unfold firstK at h
    omega
  · intro h
    unfold firstK
    rw [first_go (by simpa using h)]
    simp
end
/-! list(reversed(x)), x a list -/
section
variable {prog : Program} {w : World} {A : Around} {E : Value → Shared → Prop} {s : Shared} {R : Result → Shared → Prop}
end
section
variable {X : Cx} {l : Expr} {tl : DTE} {te : TE} {p p2 pos pos2 : Pos}
def tLstRevL (K : PySem.W.Frag) (te : TE) : TE := fun σ H Q => te σ H fun v H1 => ∃ (a : Addr) (xs : List V), v = .ref a ∧ SqL K H1 a xs ∧ ∀ q, H1 q = none → Q (.ref q) (upd H1 q (.lst xs.reverse))
@[simp] def dLstRevL (tl : DTE) : DTE := fun E τ S Q => tl E τ S fun d S1 => opt (seqD S1 d) fun xs => newO S1 (.lst xs.reverse) fun p S' => Q (.ref p) S'
@[simp] def dLstRevLF (tl : DTE) : DTE := fun E τ S Q => tl E τ S fun d S1 => opt (seqD S1 d) fun xs => Q (.rol xs.reverse) S1
end
end Dt
set_option maxRecDepth 100000
set_option maxHeartbeats 4000000
namespace Dt
open PySem PySem.Spec L2 PySem.W PyProof.Rows
/-! DatFz: a dict is walked, and read in the meantime: it is locked. -/
@[simp] def lockO : Ob → Option Ob
  | .dK kvs => some (.fK kvs)
  | .dN kvs => some (.fN kvs)
  | _ => none
theorem lockO_mut {w : World} {K : PySem.W.Frag} {H : Hp} {a : Addr} {ob of : Ob} (r : ROb w K H a ob) (e : lockO ob = some of) : ∃ u, H a = some u ∧ Mut (some u) ∧ (∀ xs, u ≠ .lst xs) ∧
    (∀ {H' : Hp} {o : Obj}, LeH H H' → H' a = some (.frz o u) → ROb w K H' a of) ∧ ∀ {H' : Hp}, H' a = some u → ∀ {H0 : Hp} {o : Obj}, H0 a = some (.frz o u) → LeW H0 H' → LeH H H0 → ROb w K H' a ob := by
  cases ob with
  | dK kvs =>
    cases e
    obtain ⟨ws, e0, rk⟩ := id r
    exact ⟨_, e0, trivial, (by intro _ z; cases z), fun le z => ⟨ws, ⟨_, z⟩, rk.le le⟩, fun z H0 o _ lw le => ⟨ws, z, (rk.le le).leW lw⟩⟩
  | dN kvs =>
    cases e
    obtain ⟨ws, e0, l, n, rk⟩ := id r
    exact ⟨_, e0, trivial, (by intro _ z; cases z), fun le z => ⟨ws, ⟨_, z⟩, l, n, rk.le le⟩, fun z H0 o _ lw le => ⟨ws, z, l, n, (rk.le le).leW lw⟩⟩
  | _ => cases e
/-- the ends behind a lock -/
def thA (A : DEnds) (a : Addr) (ob of : Ob) : DEnds where
  nx := fun τ S => S a = some of ∧ A.nx τ (upo S a ob)
  rt := fun d S => S a = some of ∧ A.rt d (upo S a ob)
  bk := fun τ S => S a = some of ∧ A.bk τ (upo S a ob)
  ct := fun τ S => S a = some of ∧ A.ct τ (upo S a ob)
  xe := A.xe
@[simp] theorem thA_nx (A : DEnds) (a : Addr) (ob of : Ob) (τ : DSt) (S : DH) : (thA A a ob of).nx τ S = (S a = some of ∧ A.nx τ (upo S a ob)) := rfl
@[simp] theorem thA_rt (A : DEnds) (a : Addr) (ob of : Ob) (d : D) (S : DH) : (thA A a ob of).rt d S = (S a = some of ∧ A.rt d (upo S a ob)) := rfl
@[simp] theorem thA_bk (A : DEnds) (a : Addr) (ob of : Ob) (τ : DSt) (S : DH) : (thA A a ob of).bk τ S = (S a = some of ∧ A.bk τ (upo S a ob)) := rfl
@[simp] theorem thA_ct (A : DEnds) (a : Addr) (ob of : Ob) (τ : DSt) (S : DH) : (thA A a ob of).ct τ S = (S a = some of ∧ A.ct τ (upo S a ob)) := rfl
@[simp] theorem thA_xe (A : DEnds) (a : Addr) (ob of : Ob) : (thA A a ob of).xe = A.xe := rfl
/-- a statement, a dict locked in the meantime -/
def dLock (t : DTS) : DTS := fun A τ S => ∃ a ob of, S a = some ob ∧ lockO ob = some of ∧ t (thA A a ob of) τ (upo S a of)
section
variable {X : Cx} {st : Stmt} {t : DTS}
theorem RSt.leW {K : PySem.W.Frag} {H H' : Hp} {τ : DSt} {σ : L2.St} (le : LeW H H') (r : RSt K H τ σ) : RSt K H' τ σ := ⟨r.len, fun i d e => by
  obtain ⟨v, q, rv⟩ := r.get i d e
  exact ⟨v, q, rv.leW le⟩⟩
theorem ds_lock (h : DS X st t) : DS X st (dLock t) := by
  refine ⟨fun A B τ S le ⟨a, ob, of, e1, e2, q⟩ => ⟨a, ob, of, e1, e2, h.mono (thA A a ob of) (thA B a ob of) _ _ ⟨fun τ S z => ⟨z.1, le.nx _ _ z.2⟩, fun d S z => ⟨z.1, le.rt _ _ z.2⟩, fun τ S z => ⟨z.1, le.bk _ _ z.2⟩, fun τ S z => ⟨z.1, le.ct _ _ z.2⟩, le.xe⟩ q⟩,
    pS_imp (ps_lock h.run) fun D σ H ⟨E, τ, S, w, r, a, ob, of, e1, e2, q⟩ => ?_⟩
  have rb := r.rep a ob e1
  obtain ⟨u, eu, mu, nl, fwd, back⟩ := lockO_mut rb e2
  refine ⟨a, u, eu, mu, fun od => ?_⟩
  have leF : LeH H (upd H a (.frz od u)) := LeH.put eu mu
  have rF : Rep X.w X.K (upo S a of) (upd H a (.frz od u)) := fun b o hb => by
    by_cases z : b = a
    · subst z
      rw [upo_same] at hb
      cases hb
      exact fwd leF upd_same
    · rw [upo_ne z] at hb
      exact (r.rep b o hb).at leF (upd_ne z)
  refine ⟨E, τ, upo S a of, w.le leF, ⟨r.st.le leF, rF⟩, h.mono _ _ _ _ ?_ q⟩
  have frz : ∀ {H' : Hp}, LeH (upd H a (.frz od u)) H' → H' a = some (.frz od u) := fun le => le.fz _ _ _ upd_same
  have lw : ∀ {H' : Hp}, H' a = some (.frz od u) → LeW H' (upd H' a u) := fun e => LeW.thaw e mu nl
  have lt : ∀ {H' : Hp}, LeH (upd H a (.frz od u)) H' → LeH H (upd H' a u) := fun le => (leF.trans le).thaw eu mu
  have rep' : ∀ {H' : Hp} {S' : DH}, LeH (upd H a (.frz od u)) H' → Rep X.w X.K S' H' → Rep X.w X.K (upo S' a ob) (upd H' a u) := fun {H' S'} le rp => rep_thaw rp (frz le) (lw (frz le)) (back upd_same (frz le) (lw (frz le)) (leF.trans le))
  refine ⟨fun τ' S' z σ' H' le r' => ⟨frz le, z.2 σ' _ (lt le) ⟨r'.st.leW (lw (frz le)), rep' le r'.rep⟩⟩, fun d S' z v H' le rp rd => ⟨frz le, z.2 v _ (lt le) (rep' le rp) (rd.leW (lw (frz le)))⟩,
    fun τ' S' z σ' H' le r' => ⟨frz le, z.2 σ' _ (lt le) ⟨r'.st.leW (lw (frz le)), rep' le r'.rep⟩⟩, fun τ' S' z σ' H' le r' => ⟨frz le, z.2 σ' _ (lt le) ⟨r'.st.leW (lw (frz le)), rep' le r'.rep⟩⟩, fun _ _ _ _ z => z⟩
end
/-! the keys of a locked dict -/
section
variable {X : Cx} {pins : List (Addr × Obj)} {σ : L2.St} {H : Hp} {s : Shared} {a : Addr}
theorem dn_openF {kvs : List (D × D)} (I : Inv X pins σ H s) (r : ROb X.w X.K H a (.fN kvs)) : ∃ xs, s.heap.DictOfH (nestedKind X.prog X.w) a xs ∧ RX X.K H kvs xs ∧ (a == sysModules) = false ∧ kvs.length ≤ sizeLine ∧ (kvs.map (·.1)).Nodup := by
  obtain ⟨rows, ⟨of, e⟩, hl, nd, rr⟩ := r
  have x : ObjOk X.prog X.w H s.heap a (.ext (RawRows X.w rows a)) := (I.hok a _ e).2
  obtain ⟨⟨hs, o, es, ep, ho, hx, hd, pr⟩, _⟩ := x
  have go : ∀ {kvs : List (D × D)} {rows : List (NestedKey × Addr × V)} {es : List DictEntry}, RRows X.K H kvs rows → Paired (fun (r : NestedKey × Addr × V) (e : DictEntry) => e.hash = r.1.hash X.w ∧ e.key = .ref r.2.1 ∧ RelV r.2.2 e.val) rows es →
      ∃ xs, RX X.K H kvs xs ∧ es = xs.map (entryOfKey (nestedKind X.prog X.w)) ∧ ∀ x ∈ xs, (nestedKind X.prog X.w).is s.heap x.1 x.2.1 := by
    intro kvs
    induction kvs with
    | nil =>
      intro rows es h p
      cases h
      cases p
      exact ⟨[], rfl, rfl, fun _ z => nomatch z⟩
    | cons q kvs ih =>
      obtain ⟨k, d⟩ := q
      rintro rows es ⟨nk, b, v, s', e, e1, e2, r1, r2, h⟩ p
      subst e
      cases p with
      | @cons _ en _ es' p1 p2 =>
        obtain ⟨xs, h1, h2, h3⟩ := ih h p2
        obtain ⟨hsh, ky, vl⟩ := en
        obtain ⟨q1, q2, q3⟩ := p1
        refine ⟨(nk, b, vl) :: xs, ⟨nk, b, vl, xs, rfl, ⟨e1, e2, r1, v, q3, r2⟩, h1⟩, ?_, fun x hx => ?_⟩
        · rw [List.map_cons, ← h2]
          simp only at q1 q2
          rw [q1, q2]
          rfl
        · rcases List.mem_cons.mp hx with rfl | hx
          · exact ⟨rd_nested I k nk (.ref b) (.ref b) e1 r1 rfl, e2⟩
          · exact h3 x hx
  obtain ⟨xs, h1, h2, h3⟩ := go rr pr
  exact ⟨xs, ⟨o, es, ep, ho, hx, hd, h2, h3, h1.nodup nd⟩, h1, hs, hl, nd⟩
@[simp] def keysF : Ob → Option (List D)
  | .fK kvs => some (kvs.map fun q => keyD q.1)
  | .fN kvs => some (kvs.map (·.1))
  | _ => none
theorem keys_rawF (I : Inv X pins σ H s) {ob : Ob} {ks : List D} (r : ROb X.w X.K H a ob) (e : keysF ob = some ks) :
    ∃ o u es ep xs, H a = some (.frz o u) ∧ s.heap.get? a = some o ∧ o.ExactDict ∧ o.data = .dict es ep ∧ (a == sysModules) = false ∧ es.size ≤ sizeLine ∧ Vals xs (es.toList.map (·.key)) ∧ RDs X.K H ks xs := by
  cases ob with
  | fK kvs =>
    cases e
    obtain ⟨ws, ⟨of, e0⟩, rk⟩ : ∃ ws, (∃ o, H a = some (.frz o (.dK ws))) ∧ RKs X.K H kvs ws := r
    have hgo : s.heap.get? a = some of := (I.hok a _ e0).1
    obtain ⟨z, lo, vs, kv, o, es, ep, h1, h2, h3, h4, h5, h6⟩ := dk_rd I.hok (.inr ⟨of, e0⟩)
    have eo : o = of := Option.some.inj (h1.symm.trans hgo)
    subst eo
    have hl : kvs.length = ws.length := rk.length
    have hl2 : ws.length = vs.length := Paired.length kv
    have hl3 : es.toList.length = vs.length := h5.length
    have e1 : (kvs.map fun q => keyD q.1) = (vs.map fun p => p.1).map keyD := by
      have go : ∀ {kvs : List (Key × D)} {ws : List (Key × V)} {vs : List (Key × Value)}, RKs X.K H kvs ws → KV ws vs → (kvs.map fun q => keyD q.1) = (vs.map fun p => p.1).map keyD := by
        intro kvs
        induction kvs with
        | nil => intro ws vs r k; cases r; cases k; rfl
        | cons q kvs ih =>
          intro ws vs r k
          obtain ⟨v, s', rfl, _, r2⟩ := r
          cases k with
          | cons a b => rw [List.map_cons, List.map_cons, List.map_cons, ih r2 b, ← a.1]
      exact go rk kv
    refine ⟨o, _, es, ep, _, e0, h1, h2, h3, lo, by simp at hl3; omega, pairs_vals h5, ?_⟩
    rw [e1]
    have e2 : (vs.map fun p => kV p.1) = (vs.map fun p => p.1).map kV := by rw [List.map_map]; rfl
    rw [e2]
    exact keys_rds _
  | fN kvs =>
    cases e
    obtain ⟨xs, ⟨o, es, ep, h1, h2, h3, h4, h5, h6⟩, rx, hs, hz, _⟩ := dn_openF I r
    obtain ⟨rows, ⟨of, e0⟩, _⟩ := id r
    have eo : o = of := Option.some.inj (h1.symm.trans (I.hok a _ e0).1)
    subst eo
    have go : ∀ {kvs : List (D × D)} {xs : List (NestedKey × Addr × Value)}, RX X.K H kvs xs → ∃ ys, Vals ys (xs.map fun x => Value.ref x.2.1) ∧ RDs X.K H (kvs.map (·.1)) ys := by
      intro kvs
      induction kvs with
      | nil => intro xs r; cases r; exact ⟨[], .nil, .nil⟩
      | cons q kvs ih =>
        intro xs r
        obtain ⟨nk, b, u, s', rfl, ⟨_, _, r1, _⟩, r2⟩ := r
        obtain ⟨ys, g1, g2⟩ := ih r2
        exact ⟨.ref b :: ys, .cons rfl g1, RDs.cons r1 g2⟩
    obtain ⟨ys, g1, g2⟩ := go rx
    have hl : es.size = xs.length := by
      have := congrArg List.length h4
      simpa using this
    refine ⟨o, _, es, ep, ys, e0, h1, h2, h3, hs, by rw [hl, ← rx.length]; exact hz, ?_, g2⟩
    rw [h4, List.map_map]
    exact g1
  | _ => cases e
/-- for x in d: d is locked -/
def iF (X : Cx) (td : TE) : TI := fun σ H R => td σ H fun x H1 => ∃ d ob ks, x = .ref d ∧ ROb X.w X.K H1 d ob ∧ keysF ob = some ks ∧ ∀ o u xs, H1 d = some (.frz o u) → RDs X.K H1 ks xs → R (Itz d o u xs) H1
theorem pi_f {tg e : Expr} {td : TE} (he : PE X e td) : PI X tg e (iF X td) := by
  refine ⟨fun pins s σ H R I h => ?_⟩
  refine thn (he.run pins s σ H _ I h) fun v s1 ⟨x, H1, I1, rx, d, ob, ks, ex, r, ek, q⟩ => ?_
  subst ex
  obtain rfl : v = Value.ref d := rx
  obtain ⟨o, u, es, ep, xs, eu, h1, h2, h3, lo, hz, hv, rd⟩ := keys_rawF I1 r ek
  have hsz : es.size = xs.length := by have := hv.length; simpa using this.symm
  refine iter_keys lo h1 h2 h3 (pi_one (tk := s1.toks) I1 _ (turn_z _ h3 hv) ⟨_, Heap.get?_push_size _ rfl, rfl, ?_⟩ (q o u xs eu rd))
  rw [hsz] <;> rfl
end
/-- the keys of a locked dict -/
@[simp] def dKeyI (tl : DTE) : DTI := fun E τ S R => tl E τ S fun d S1 => match d with
  | .ref a => opt (S1 a) fun ob => opt (keysF ob) fun ks => R (fun _ => True) ks S1
  | _ => False
theorem feeds_z {w : World} {K : PySem.W.Frag} {H0 : Hp} {d : Addr} {o : Obj} {u : HO} {xs : List V} {ds : List D} {G : DH → Prop} (e : H0 d = some (.frz o u)) (r : RDs K H0 ds xs) : Feeds w K H0 (Itz d o u xs) G ds where
  go := fun i S H le rp g hi => ⟨le.fz _ _ _ e, by rw [← r.length]; exact hi⟩
  yld := fun i S H x H' le rp g hi ⟨e1, y⟩ => by
    subst e1
    obtain ⟨d, e2, r2⟩ := (r.le le).got y
    exact ⟨LeH.refl _, rp, d, e2, r2⟩
  stop := fun S H le rp g => ⟨le.fz _ _ _ e, by rw [r.length]; exact Nat.le_refl _⟩
section
variable {X : Cx} {tg l : Expr} {tl : DTE}
theorem di_keys (hl : DE X l tl) : DI X tg l (dKeyI tl) := by
  refine ⟨fun E E' τ S Q Q' he k q => hl.mono _ _ _ _ _ _ he (fun d S1 z => ?_) q, pI_imp (pi_f hl.run) fun σ H R ⟨E, τ, S, w, r, q⟩ => ?_⟩
  · cases d with
    | ref a => exact opt_mono (fun ob z => opt_mono (fun ks z => k _ _ _ z) z) z
    | _ => exact z
  · refine hl.to w r q fun d S1 x H1 le w1 r1 rd z => ?_
    cases d with
    | ref a =>
      obtain ⟨ob, ea, z⟩ := opt_ex z
      obtain ⟨ks, ek, z⟩ := opt_ex z
      obtain rfl : x = V.ref a := rd
      exact ⟨a, ob, ks, rfl, r1.rep a _ ea, ek, fun o u xs eu rk => z _ H1 le r1.rep (feeds_z eu rk)⟩
    | _ => exact z.elim
end
/-! what a locked dict is asked -/
@[simp] def lkF (ob : Ob) (k : D) : Option (Option D) := match ob with
  | .fK kvs => (dkey k).map fun kk => lk kvs kk
  | .fN kvs => if okT k = true then some (lk kvs k) else none
  | _ => none
/-- d[k], d locked or not -/
@[simp] def dIxU : R2D := fun d e S Q => match d with
  | .ref a => (match S a with
    | some (.fK kvs) => opt (dkey e) fun k => opt (lk kvs k) fun x => Q x S
    | some (.fN kvs) => okT e = true ∧ opt (lk kvs e) fun x => Q x S
    | _ => dIxS d e S Q)
  | _ => dIxS d e S Q
section
variable {X : Cx}
theorem ixD_u (hu : X.A.units + 120 < cLine) : IxD X dIxU := by
  refine ⟨fun x y S Q Q' k h => ?_, fun value slice pins s σ H x y v u Q I rx ry ⟨d, e, S, rep, rd, re, h⟩ hs => ?_⟩
  · cases x with
    | ref a =>
      revert h
      show (match S a with | some (.fK kvs) => _ | some (.fN kvs) => _ | _ => _) → (match S a with | some (.fK kvs) => _ | some (.fN kvs) => _ | _ => _)
      split
      · exact fun h => opt_mono (fun _ z => opt_mono (fun _ z => k _ _ z) z) h
      · exact fun h => ⟨h.1, opt_mono (fun _ z => k _ _ z) h.2⟩
      · exact fun h => (ixD_any hu).1 _ _ _ _ _ k h
    | non => exact (ixD_any hu).1 (.non) y S Q Q' k h
    | bl b => exact (ixD_any hu).1 (.bl b) y S Q Q' k h
    | int i => exact (ixD_any hu).1 (.int i) y S Q Q' k h
    | str z => exact (ixD_any hu).1 (.str z) y S Q Q' k h
    | tup z => exact (ixD_any hu).1 (.tup z) y S Q Q' k h
    | rol z => exact (ixD_any hu).1 (.rol z) y S Q Q' k h
  · cases d with
    | ref a =>
      revert h
      show (match S a with | some (.fK kvs) => _ | some (.fN kvs) => _ | _ => _) → _
      split
      · rename_i kvs ea
        intro h
        cases rd
        obtain ⟨ws, ⟨o, e0⟩, rk⟩ : ∃ ws, (∃ o, H a = some (.frz o (.dK ws))) ∧ RKs X.K H kvs ws := rep a _ ea
        obtain ⟨k, ek, h⟩ := opt_ex h
        obtain ⟨z, el, q⟩ := opt_ex h
        obtain ⟨w, ew, rw2⟩ := rk.ss el
        have ey := dkey_rd ek re
        subst ey
        cases rx
        have g : DGet H a (kV k) (some w) := ew ▸ .inl ⟨_, k, .inr ⟨o, e0⟩, rfl, rfl⟩
        exact PyProof.Rows.tail_any (dict_typeIs I g) PySem.F.slot_dict_getitem.lookup (d_getItem (by omega) I g ry fun w' s3 I3 r3 => ⟨w, H, I3, r3, q w H (LeH.refl H) rep rw2⟩) hs
      · rename_i kvs ea
        rintro ⟨hk, h⟩
        cases rd
        obtain ⟨z, el, q⟩ := opt_ex h
        obtain ⟨xs, dd, rx', hsys, hl, nd⟩ := dn_openF I (rep a _ ea)
        obtain ⟨nk, b, ek, _, rfl, rfl, his⟩ := okT_key I hk re ry
        obtain ⟨p, hp, w, rw1, rw2⟩ := rx'.ss ek el
        cases rx
        exact PyProof.Rows.tail_any dd.typeIs PySem.F.slot_dict_getitem.lookup (wpAny_getItem_heap (show X.A.units + 1 + 8 < cLine by omega) his dd hp ⟨w, H, I.tok _, rw1, q w H (LeH.refl H) rep rw2⟩) hs
      · exact fun h => (ixD_any hu).2 value slice pins s σ H x y v u Q I rx ry ⟨_, e, S, rep, rd, re, h⟩ hs
    | _ => exact (ixD_any hu).2 value slice pins s σ H x y v u Q I rx ry ⟨_, e, S, rep, rd, re, h⟩ hs
end
end Dt
set_option maxRecDepth 100000
set_option maxHeartbeats 4000000
namespace L67
open PySem PySem.Spec L2
open Rc
open Sh hiding N_l_feed N_l_leaf N_l_names N_l_pattern deeps_le deeps_mem r_l_feed r_l_leaf r_l_names r_l_pattern sp_l_leaf sp_l_leaf_mono sp_l_names sp_l_names_mono sp_l_pattern sp_l_pattern_mono t_l_feed t_l_leaf t_l_names t_l_pattern
open Dt hiding nkeys sp_l_feed sp_l_feed_mono
/-! K67p: rules, their words, orders and rings: the plain law. -/
abbrev Rl := List (Str × Pt)
def rulD (R : Rl) : List D := R.map fun r => .tup [.str r.1, ptD r.2]
theorem strs_of7 {ds : List D} (h : ∀ d ∈ ds, ∃ x : Str, d = .str x) : ∃ xs : List Str, ds = strsD xs := by
  induction ds with
  | nil => exact ⟨[], rfl⟩
  | cons d ds ih =>
    obtain ⟨x, rfl⟩ := h d List.mem_cons_self
    obtain ⟨xs, rfl⟩ := ih fun d hd => h d (List.mem_cons_of_mem _ hd)
    exact ⟨x :: xs, rfl⟩
theorem strs_mem7 {x : Str} {xs : List Str} : D.str x ∈ strsD xs ↔ x ∈ xs := by simp [strsD]
theorem nodup_strs7 {xs : List Str} (h : (strsD xs).Nodup) : xs.Nodup := by
  unfold strsD at h
  exact (List.pairwise_map.mp h).imp fun a e => a (by rw [e])
theorem nodup_len7 {α : Type} : ∀ {xs ys : List α}, xs.Nodup → (∀ x ∈ xs, x ∈ ys) → xs.length ≤ ys.length := by
  classical
  intro xs
  induction xs with
  | nil => intro ys _ _; exact Nat.zero_le _
  | cons x xs ih =>
    intro ys nd h
    obtain ⟨n1, n2⟩ := List.nodup_cons.mp nd
    have hx := h x List.mem_cons_self
    have := ih (ys := ys.erase x) n2 fun z hz => (List.mem_erase_of_ne (fun e => n1 (by rw [← e]; exact hz))).mpr (h z (List.mem_cons_of_mem _ hz))
    have e := List.length_erase_of_mem hx
    have := List.length_pos_of_mem hx
    rw [List.length_cons]
    omega
theorem ex_HR (R : Rl) : ∃ A : List Str, ssD (strsD (R.map (·.1))) = strsD A := strs_of7 fun d hd => by
  obtain ⟨x, _, rfl⟩ := List.mem_map.mp (ss_mem.mp hd)
  exact ⟨x, rfl⟩
/-- the rules' words -/
noncomputable def HR (R : Rl) : List Str := Classical.choose (ex_HR R)
theorem HR_D (R : Rl) : ssD (strsD (R.map (·.1))) = strsD (HR R) := Classical.choose_spec (ex_HR R)
theorem HR_mem {R : Rl} {x : Str} : x ∈ HR R ↔ x ∈ R.map (·.1) := by
  rw [← strs_mem7 (xs := HR R), ← HR_D, ss_mem, strs_mem7]
theorem HR_nd (R : Rl) : (HR R).Nodup := nodup_strs7 (HR_D R ▸ ss_nodup _)
theorem HR_len (R : Rl) : (HR R).length ≤ R.length := by
  have h := ss_len (strsD (R.map (·.1)))
  rw [HR_D] at h
  simpa [strsD] using h
/-- the words of steps, the star among them -/
def sw (p : Pt) : List Str := p.all.filterMap Pt.word?
theorem sw_seq (b : Bool) (ps : List Pt) : sw (.seq b ps) = ps.flatMap sw := by
  unfold sw
  rw [Pt.all_seq, Pt.alls_flat, List.filterMap_cons, List.filterMap_flatMap]
  rfl
theorem sw_many (p : Pt) : sw (.many p) = sw p := by
  unfold sw
  rw [Pt.all_many, List.filterMap_cons]
  rfl
theorem sw_step (b : Bool) (w : Str) : sw (.step b w) = [w] := rfl
theorem sw_stay : sw .stay = [] := rfl
theorem sw_mark (b : Bool) (w : Str) : sw (.mark b w) = [] := rfl
theorem sw_len (p : Pt) : (sw p).length ≤ p.all.length := List.length_filterMap_le _ _
/-- what a word stands for, by its steps' words -/
def sws (R : Rl) (w : Str) : List Str := (R.filter fun r => decide (r.1 = w)).flatMap fun r => sw r.2
noncomputable def led (R : Rl) (w : Str) : List Str := (HR R).filter fun x => decide (x ∈ sws R w) || decide (Str.ofString "*" ∈ sws R w)
theorem led_sub {R : Rl} {w x : Str} (h : x ∈ led R w) : x ∈ HR R := (List.mem_filter.mp h).1
structure Good (R : Rl) (od : List Str) : Prop where
  nd : od.Nodup
  sub : ∀ x ∈ od, x ∈ HR R
  be : ∀ i (h : i < od.length), ∀ y ∈ led R od[i], y ∈ od.take i
structure Ring (R : Rl) (rg : List Str) : Prop where
  ne : rg ≠ []
  nd : rg.Nodup
  sub : ∀ x ∈ rg, x ∈ HR R
  go : ∀ i (h : i < rg.length), rg.getD ((i + 1) % rg.length) (Str.ofString "") ∈ led R rg[i]
structure Trail (R : Rl) (tr : List Str) (w : Str) : Prop where
  nd : tr.Nodup
  sub : ∀ x ∈ tr, x ∈ HR R
  go : ∀ i (h : i + 1 < tr.length), tr[i + 1] ∈ led R tr[i]
  la : ∀ i (h : i < tr.length), i + 1 = tr.length → w ∈ led R tr[i]
theorem good_nil (R : Rl) : Good R [] := ⟨.nil, (fun _ h => nomatch h), fun i h => by simp at h⟩
theorem good_ext {R : Rl} {od : List Str} {w : Str} (g : Good R od) (hn : w ∉ od) (hw : w ∈ HR R) (hl : ∀ y ∈ led R w, y ∈ od) : Good R (od ++ [w]) := by
  refine ⟨List.nodup_append.mpr ⟨g.nd, by simp, fun a ha b hb e => hn ?_⟩, fun x hx => ?_, fun i h y hy => ?_⟩
  · rw [List.mem_singleton.mp hb] at e
    exact e ▸ ha
  · rcases List.mem_append.mp hx with hx | hx
    · exact g.sub x hx
    · rw [List.mem_singleton.mp hx]; exact hw
  · by_cases c : i < od.length
    · rw [List.getElem_append_left c] at hy
      rw [List.take_append_of_le_length (by omega)]
      exact g.be i c y hy
    · have e : i = od.length := by simp at h; omega
      subst e
      rw [List.getElem_append_right (by omega)] at hy
      simp at hy
      rw [List.take_left']
      · exact hl y hy
      · rfl
theorem trail_nil (R : Rl) (w : Str) : Trail R [] w := ⟨.nil, (fun _ h => nomatch h), (fun i h => by simp at h), fun i h => by simp at h⟩
theorem trail_ext {R : Rl} {tr : List Str} {w y : Str} (t : Trail R tr w) (hn : w ∉ tr) (hw : w ∈ HR R) (hy : y ∈ led R w) : Trail R (tr ++ [w]) y := by
  refine ⟨List.nodup_append.mpr ⟨t.nd, by simp, fun a ha b hb e => hn ?_⟩, fun x hx => ?_, fun i h => ?_, fun i h e => ?_⟩
  · rw [List.mem_singleton.mp hb] at e
    exact e ▸ ha
  · rcases List.mem_append.mp hx with hx | hx
    · exact t.sub x hx
    · rw [List.mem_singleton.mp hx]; exact hw
  · simp at h
    by_cases c : i + 1 < tr.length
    · rw [List.getElem_append_left c, List.getElem_append_left (by omega)]
      exact t.go i c
    · have e : i + 1 = tr.length := by omega
      rw [List.getElem_append_right (show tr.length ≤ i + 1 by omega), List.getElem_append_left (show i < tr.length by omega)]
      simp
      exact t.la i (by omega) e
  · have e : i = tr.length := by simp at e; omega
    subst e
    rw [List.getElem_append_right (by omega)]
    simpa using hy
theorem ring_of {R : Rl} {tr : List Str} {w : Str} {j : Nat} (t : Trail R tr w) (hj : tr[j]? = some w) : Ring R (tr.drop j) := by
  obtain ⟨hlt, hjw⟩ := List.getElem?_eq_some_iff.mp hj
  refine ⟨fun e => ?_, t.nd.sublist (List.drop_sublist _ _), fun x hx => t.sub x (List.mem_of_mem_drop hx), fun i h => ?_⟩
  · have := congrArg List.length e
    simp at this
    omega
  · rw [List.length_drop] at h
    rw [List.getElem_drop]
    by_cases c : i + 1 < tr.length - j
    · rw [List.length_drop, Nat.mod_eq_of_lt c, List.getD_eq_getElem?_getD, List.getElem?_drop, List.getElem?_eq_getElem (by omega)]
      exact t.go (j + i) (by omega)
    · have e : i + 1 = tr.length - j := by omega
      rw [List.length_drop, e, Nat.mod_self, List.getD_eq_getElem?_getD, List.getElem?_drop]
      simp only [Nat.add_zero, hj, Option.getD_some]
      exact t.la (j + i) (by omega) (by omega)
/-- where there is an order nothing goes round -/
theorem good_none {R : Rl} {od X : List Str} (g : Good R od) (hX : ∀ x ∈ X, x ∈ od) (h : ∀ x ∈ X, ∃ y ∈ led R x, y ∈ X) : X = [] := by
  have go : ∀ n i, i ≤ n → ∀ (hi : i < od.length), od[i] ∉ X := by
    intro n
    induction n with
    | zero =>
      intro i hin hi hx
      obtain ⟨y, hy, _⟩ := h _ hx
      have := g.be i hi y hy
      rw [show i = 0 by omega] at this
      simp at this
    | succ n ih =>
      intro i hin hi hx
      obtain ⟨y, hy, hyX⟩ := h _ hx
      obtain ⟨k, hk, e⟩ := List.mem_iff_getElem.mp (g.be i hi y hy)
      rw [List.getElem_take] at e
      simp at hk
      exact ih k (by omega) (by omega) (e ▸ hyX)
  rcases X with _ | ⟨x, X⟩
  · rfl
  · obtain ⟨i, hi, e⟩ := List.mem_iff_getElem.mp (hX x (by simp))
    exact absurd (by simp : x ∈ x :: X) (e ▸ go i i (Nat.le_refl _) hi)
/-- a word that leads to none of the rest is in no ring of it -/
theorem ring_out {R : Rl} {rg X : List Str} {w : Str} (r : Ring R rg) (hX : ∀ x ∈ rg, x ∈ X) (h : ∀ y ∈ led R w, y ∉ X) : w ∉ rg := fun hw => by
  obtain ⟨i, hi, rfl⟩ := List.mem_iff_getElem.mp hw
  refine h _ (r.go i hi) (hX _ ?_)
  have hm : (i + 1) % rg.length < rg.length := Nat.mod_lt _ (by omega)
  rw [List.getD_eq_getElem?_getD, List.getElem?_eq_getElem hm]
  exact List.getElem_mem hm
theorem good_at {R : Rl} {od : List Str} {w y : Str} {i j : Nat} (g : Good R od) (hi : od[i]? = some w) (hj : od[j]? = some y) (hy : y ∈ led R w) : j < i := by
  obtain ⟨h1, rfl⟩ := List.getElem?_eq_some_iff.mp hi
  obtain ⟨h2, rfl⟩ := List.getElem?_eq_some_iff.mp hj
  obtain ⟨k, hk, e⟩ := List.mem_iff_getElem.mp (g.be i h1 _ hy)
  rw [List.getElem_take] at e
  simp at hk
  have := (List.getElem_inj g.nd).mp e
  omega
end L67
set_option maxRecDepth 100000
set_option maxHeartbeats 4000000
namespace L67
open PySem PySem.Spec L2
open Rc
open Sh hiding N_l_feed N_l_leaf N_l_names N_l_pattern deeps_le deeps_mem r_l_feed r_l_leaf r_l_names r_l_pattern sp_l_leaf sp_l_leaf_mono sp_l_names sp_l_names_mono sp_l_pattern sp_l_pattern_mono t_l_feed t_l_leaf t_l_names t_l_pattern
open Dt hiding nkeys sp_l_feed sp_l_feed_mono
/-! K67q: orders. -/
structure OkR (R : Rl) : Prop where
  len : R.length ≤ 4
  r : ∀ r ∈ R, Nm r.1 ∧ r.2.okP Nm ∧ r.2.deep ≤ 5 ∧ r.2.all.length ≤ 100
theorem OkR.nm {R : Rl} (h : OkR R) {x : Str} (hx : x ∈ HR R) : Nm x := by
  obtain ⟨r, hr, rfl⟩ := List.mem_map.mp (HR_mem.mp hx)
  exact (h.r r hr).1
theorem OkR.hl {R : Rl} (h : OkR R) : (HR R).length ≤ 4 := Nat.le_trans (HR_len R) h.len
theorem sw_ok {p : Pt} (h : p.okP Nm) : ∀ w ∈ sw p, okS w := fun w hw => by
  obtain ⟨q, hq, e⟩ := List.mem_filterMap.mp hw
  cases q with
  | step b w' =>
    cases e
    rcases h _ hq with rfl | h
    · exact okS_star
    · exact nm_ok h
  | _ => cases e
def sp_parts_by : DSp := fun ds S Q _ => ∃ p : Pt, ds = [ptD p] ∧ Q (.rol (ptDs p.kids)) S
theorem sp_parts_by_mono : SpMono sp_parts_by := fun ds S Q Q' E E' k _ ⟨d, h1, h⟩ => ⟨d, h1, k _ _ h⟩
def sp_step_words (k : Nat) : DSp := fun ds S Q _ => ∃ p : Pt, ds = [ptD p] ∧ p.deep ≤ k + 1 ∧ p.all.length ≤ 1000 ∧ Q (.rol (strsD (sw p))) S
theorem sp_step_words_mono (k : Nat) : SpMono (sp_step_words k) := fun ds S Q Q' E E' kk _ ⟨d, h1, h2, h3, h⟩ => ⟨d, h1, h2, h3, kk _ _ h⟩
def sp_led_to : DSp := fun ds S Q _ => ∃ (R : Rl) (w : Str), ds = [.rol (strsD (HR R)), .rol (rulD R), .str w] ∧ OkR R ∧ w ∈ HR R ∧ Q (.rol (strsD (led R w))) S
theorem sp_led_to_mono : SpMono sp_led_to := fun ds S Q Q' E E' kk _ ⟨R, w, h1, h2, h3, h⟩ => ⟨R, w, h1, h2, h3, kk _ _ h⟩
def rgX (rg : List Str) : List (Str × D) := [("ring", .rol (strsD rg))]
def sp_lay_order (CG : Addr) (k : Nat) : DSp := fun ds S Q E => ∃ (R : Rl) (w : Str) (tr od : List Str) (a : Addr), ds = [.rol (strsD (HR R)), .rol (rulD R), .str w, .rol (strsD tr), .ref a] ∧ OkR R ∧ w ∈ HR R ∧ Trail R tr w ∧ Good R od ∧
  S a = some (.lst (strsD od)) ∧ (HR R).length ≤ tr.length + k ∧ k ≤ 6 ∧ (∀ od', Good R od' → (∀ x ∈ od, x ∈ od') → w ∈ od' → (∀ x ∈ tr, x ∉ od → x ∉ od') → Q .non (upo S a (.lst (strsD od')))) ∧ ∀ od' rg, Ring R rg → E CG (rgX rg) (upo S a (.lst (strsD od')))
theorem sp_lay_order_mono (CG : Addr) (k : Nat) : SpMono (sp_lay_order CG k) := fun ds S Q Q' E E' kk ke ⟨R, w, tr, od, a, h1, h2, h3, h4, h5, h6, h7, h8, h, hx⟩ => ⟨R, w, tr, od, a, h1, h2, h3, h4, h5, h6, h7, h8, fun od' a b c d => kk _ _ (h od' a b c d), fun od' rg r => ke _ _ _ (hx od' rg r)⟩
def sp_order_of (CG : Addr) : DSp := fun ds S Q E => ∃ R : Rl, ds = [.rol (rulD R)] ∧ OkR R ∧ (∀ od, Good R od → (∀ x ∈ HR R, x ∈ od) → Q (.rol (strsD od)) S) ∧ ∀ rg, Ring R rg → E CG (rgX rg) S
theorem sp_order_of_mono (CG : Addr) : SpMono (sp_order_of CG) := fun ds S Q Q' E E' kk ke ⟨R, h1, h2, h, hx⟩ => ⟨R, h1, h2, fun od a b => kk _ _ (h od a b), fun rg r => ke _ _ _ (hx rg r)⟩
theorem raise_ring {C : Addr} {S : DH} {d : D} {xs : List Str} {E : DXK} (sq : seqD S d = some (xs.map .str)) (h4 : xs.length ≤ 1000) (h5 : ∀ x ∈ xs, x.length ≤ 100) (w : E C [("ring", .rol (xs.map .str))] S) :
    ∀ a, S a = none → sp_GoesRound_init C [.ref a, d] (upo S a (.ex0 C)) (fun d' S' => d' = .non ∧ ∃ dx, ¬dx = a ∧ S' a = some (.ex1 C dx) ∧ ∃ x, S' dx = some (.xm x) ∧ ∃ S'', Dt.Sub S'' (delo (delo S' a) dx) ∧ E C x S'') (fun _ _ _ => False) := by
  refine fun a ha => ⟨a, d, xs, rfl, upo_same, ?_, h4, h5, fun dx hd ne => ⟨rfl, dx, ne, upo_same, _, by rw [upo_ne ne, upo_same], S, fun b o hb => ?_, w⟩⟩
  · cases d with
    | rol ys => exact sq
    | ref l =>
      have la : l ≠ a := fun z => by rw [seqD_ref, z, ha] at sq; cases sq
      rw [seqD_ref, upo_ne la]
      exact sq
    | _ => cases sq
  rw [upo_ne ne] at hd
  have ba : b ≠ a := fun z => by rw [z, ha] at hb; cases hb
  have bd : b ≠ dx := fun z => by rw [z, hd] at hb; cases hb
  simp [delo, ba, bd]
  rw [upo_ne ba, upo_ne bd, upo_ne ba, hb]
def t_parts_by : DTS := (dSeq (dIf (dTest (dOp (dEq false) (dOp dIxS (dVar 0) (dC (.int 0))) (dC (.str "many"))))
      (dRet (dLstF (dCons (dOp dIxS (dVar 0) (dC (.int 1))) dNil)))
      dNx)
    (dSeq (dIf (dTest (dOp (dIn false) (dOp dIxS (dVar 0) (dC (.int 0))) (dTup (dCons (dC (.str "then")) (dCons (dC (.str "either")) dNil)))))
      (dRet (dCB cListAF (dCons (dOp dIxS (dVar 0) (dC (.int 1))) dNil)))
      dNx)
    (dRet (dLstF dNil))))
abbrev N_parts_by : List Str := ["pattern"]
def t_step_words (spR : DSp) : DTS := (dSeq (dIf (dTest (dOp (dEq false) (dOp dIxS (dVar 0) (dC (.int 0))) (dC (.str "step"))))
      (dRet (dLstF (dCons (dOp dIxS (dVar 0) (dC (.int 2))) dNil)))
      dNx)
    (dSeq (dAsg (dLst dNil) (dGN 1))
    (dSeq (dFor (dSeqI (dCall sp_parts_by (dCons (dVar 0) dNil))) (dGN 2)
      (dDrop (dBM "list" mExtend (dVar 1) (dCons (dCall spR (dCons (dVar 2) dNil)) dNil))))
    (dRet (dVar 1)))))
abbrev N_step_words : List Str := ["pattern", "found", "one"]
theorem r_parts_by (ds S Q E) (h : sp_parts_by ds S Q E) : t_parts_by (dEnd Q E) (dstart N_parts_by ds) S := by
  obtain ⟨p, rfl, h⟩ := h
  cases p with
  | stay => simp [t_parts_by, dstart, ptD, inF]; exact .same h
  | step b w => simp [t_parts_by, dstart, ptD, inF]; exact .same h
  | mark b m => cases b <;> simp [t_parts_by, dstart, ptD, inF] <;> exact .same h
  | many q => simp [t_parts_by, dstart, ptD, inF]; exact .same h
  | seq b ps => cases b <;> simp [t_parts_by, dstart, ptD, inF] <;> exact .same h
theorem sw_kids {p : Pt} (h : ∀ b w, p ≠ .step b w) : sw p = p.kids.flatMap sw := by
  cases p with
  | stay => rfl
  | step b w => exact absurd rfl (h b w)
  | mark b m => rfl
  | seq b ps => exact sw_seq b ps
  | many q => rw [sw_many]; simp [Pt.kids]
theorem kid_dp {p q : Pt} (h : q ∈ p.kids) : q.deep + 1 ≤ p.deep ∧ q.all.length + 1 ≤ p.all.length := by
  refine ⟨kid_deep h, ?_⟩
  rw [Pt.all_kids p, List.length_cons]
  have : q.all.length ≤ (p.kids.flatMap Pt.all).length := by
    obtain ⟨a, c, e⟩ := List.append_of_mem h
    rw [e]
    simp
    omega
  omega
theorem r_step_words (k : Nat) (ds S Q E) (h : sp_step_words k ds S Q E) : t_step_words (prevSp sp_step_words k) (dEnd Q E) (dstart N_step_words ds) S := by
  obtain ⟨p, rfl, hd, ha, h⟩ := h
  have lp : 1 ≤ p.deep := by cases p <;> simp [Pt.deep]
  have go : (∀ b w, p ≠ .step b w) → ∀ l, S l = none → dSeq (dFor (dSeqI (dCall sp_parts_by (dCons (dVar 0) dNil))) (dGN 2) (dDrop (dBM "list" mExtend (dVar 1) (dCons (dCall (prevSp sp_step_words k) (dCons (dVar 2) dNil)) dNil)))) (dRet (dVar 1)) (dEnd Q E) [some (ptD p), some (.ref l), none] (upo S l (.lst [])) := by
    intro hns l hl
    rw [sw_kids hns] at h
    have hlen : (p.kids.flatMap sw).length ≤ 1000 := by rw [← sw_kids hns]; exact Nat.le_trans (sw_len p) ha
    refine dSeqFor_gen fun B R hB hR => ?_
    simp
    refine ⟨p, rfl, ?_⟩
    simp
    refine loop_inv (fun i τ S' => ∃ x2 : Option D, τ = [some (ptD p), some (.ref l), x2] ∧ S' = upo S l (.lst (strsD ((p.kids.take i).flatMap sw)))) ⟨none, rfl, rfl⟩ (fun _ _ _ _ _ => trivial) ?_ ?_
    · rintro i d τ S1 N hd' ⟨x2, rfl, rfl⟩ hN
      have hi : i < p.kids.length := by
        have h1 := (List.getElem?_eq_some_iff.mp hd').1
        rwa [ptDs_len] at h1
      rw [ptDs_at hi] at hd'
      cases hd'
      obtain ⟨q1, q2⟩ := kid_dp (List.getElem_mem hi)
      have tk : (p.kids.take (i + 1)).flatMap sw = (p.kids.take i).flatMap sw ++ sw p.kids[i] := by
        rw [List.take_succ, List.getElem?_eq_getElem hi, List.flatMap_append]
        simp
      have hle : ((p.kids.take (i + 1)).flatMap sw).length ≤ (p.kids.flatMap sw).length := by
        conv => rhs; rw [← List.take_append_drop (i + 1) p.kids, List.flatMap_append, List.length_append]
        omega
      have lq : 1 ≤ p.kids[i].deep := by cases p.kids[i] <;> simp [Pt.deep]
      obtain ⟨k, rfl⟩ : ∃ j, k = j + 1 := ⟨k - 1, by omega⟩
      subst hB
      simp [prevSp]
      refine ⟨p.kids[i], rfl, by omega, by omega, ?_⟩
      rw [tk, List.length_append] at hle
      generalize (p.kids.take i).flatMap sw = A at *
      have := hN [some (ptD p), some (.ref l), some (ptD p.kids[i])] (upo S l (.lst (strsD (A ++ sw p.kids[i])))) ⟨_, rfl, by rw [tk]⟩
      simp [strsD] at this ⊢
      exact ⟨by omega, this⟩
    · rintro τ S1 ⟨x2, rfl, rfl⟩
      rw [ptDs_len, List.take_length]
      subst hR
      simp
      exact .rol (by simp) hl (Sub.new hl) h
  unfold t_step_words
  cases p with
  | step b w => cases b <;> (simp [dstart, ptD]; exact .same h)
  | stay =>
    refine dSeqIf_gen fun A1 B1 R hA hB hR => ?_
    simp [-prevSp, dstart, ptD]
    subst hB
    simp
    subst hR
    refine dSeq_gen fun R hR => ?_
    simp
    intro l hl
    subst hR
    exact go (fun _ _ e => by cases e) l hl
  | mark b w =>
    refine dSeqIf_gen fun A1 B1 R hA hB hR => ?_
    cases b
    all_goals
      simp [-prevSp, dstart, ptD]
      subst hB
      simp
      subst hR
      refine dSeq_gen fun R hR => ?_
      simp
      intro l hl
      subst hR
      exact go (fun _ _ e => by cases e) l hl
  | seq b w =>
    refine dSeqIf_gen fun A1 B1 R hA hB hR => ?_
    cases b
    all_goals
      simp [-prevSp, dstart, ptD]
      subst hB
      simp
      subst hR
      refine dSeq_gen fun R hR => ?_
      simp
      intro l hl
      subst hR
      exact go (fun _ _ e => by cases e) l hl
  | many q =>
    refine dSeqIf_gen fun A1 B1 R hA hB hR => ?_
    simp [-prevSp, dstart, ptD]
    subst hB
    simp
    subst hR
    refine dSeq_gen fun R hR => ?_
    simp
    intro l hl
    subst hR
    exact go (fun _ _ e => by cases e) l hl
end L67
set_option maxRecDepth 100000
set_option maxHeartbeats 4000000
namespace L67
open PySem PySem.Spec L2
open Rc
open Sh hiding N_l_feed N_l_leaf N_l_names N_l_pattern deeps_le deeps_mem r_l_feed r_l_leaf r_l_names r_l_pattern sp_l_leaf sp_l_leaf_mono sp_l_names sp_l_names_mono sp_l_pattern sp_l_pattern_mono t_l_feed t_l_leaf t_l_names t_l_pattern
open Dt hiding nkeys sp_l_feed sp_l_feed_mono
def t_led_to : DTS := (dSeq (dAsg (dLst dNil) (dGN 3))
    (dSeq (dFor (dSeqI (dVar 1)) (dGTup 2 (dGCons (dGN 4) (dGCons (dGN 5) dGNil)))
      (dIf (dTest (dOp (dEq false) (dVar 4) (dVar 2)))
      (dDrop (dBM "list" mExtend (dVar 3) (dCons (dCall (sp_step_words 5) (dCons (dVar 5) dNil)) dNil)))
      dNx))
    (dSeq (dIf (dTest (dOp (dIn false) (dC (.str "*")) (dVar 3)))
      (dRet (dCB cListAF (dCons (dVar 0) dNil)))
      dNx)
    (dRet (dFz (dLc (dSeqI (dVar 0)) (dGN 6) (dTest (dOp (dIn false) (dVar 6) (dVar 3))) (dVar 6) [6]))))))
abbrev N_led_to : List Str := ["words", "rules", "word", "found", "head", "pattern", "one"]
def t_lay_order (C_GoesRound : Addr) (spR : DSp) : DTS := (dSeq (dIf (dTest (dOp (dIn false) (dVar 2) (dVar 3)))
      (dRaise C_GoesRound (sp_GoesRound_init C_GoesRound) (dCons (dSlF (dVar 3) (dSoP (dBM "list" mIndex (dVar 3) (dCons (dVar 2) dNil))) dNoP) dNil))
      dNx)
    (dIf (dTest (dOp (dIn true) (dVar 2) (dVar 4)))
      (dSeq (dFor (dSeqI (dCall sp_led_to (dCons (dVar 0) (dCons (dVar 1) (dCons (dVar 2) dNil))))) (dGN 5)
      (dDrop (dCall spR (dCons (dVar 0) (dCons (dVar 1) (dCons (dVar 5) (dCons (dOp dAddF (dVar 3) (dLstF (dCons (dVar 2) dNil))) (dCons (dVar 4) dNil))))))))
    (dDrop (dBM "list" mAppend (dVar 4) (dCons (dVar 2) dNil))))
      dNx))
abbrev N_lay_order : List Str := ["words", "rules", "word", "trail", "order", "one"]
def t_order_of (C_GoesRound : Addr) : DTS := (dSeq (dAsg (dSortSetAF (dFz (dLc (dSeqI (dVar 0)) (dGN 4) dYes (dOp dIxS (dVar 4) (dC (.int 0))) [4]))) (dGN 1))
    (dSeq (dAsg (dLst dNil) (dGN 2))
    (dSeq (dFor (dSeqI (dVar 1)) (dGN 3)
      (dDrop (dCall (sp_lay_order C_GoesRound 6) (dCons (dVar 1) (dCons (dVar 0) (dCons (dVar 3) (dCons (dLstF dNil) (dCons (dVar 2) dNil))))))))
    (dRet (dVar 2)))))
abbrev N_order_of : List Str := ["rules", "words", "order", "word", "rule"]
/-! K67r: what words lead to, orders. -/
theorem sws_take {R : Rl} {w : Str} {i : Nat} (h : i < R.length) : sws (R.take (i + 1)) w = sws (R.take i) w ++ (if R[i].1 = w then sw R[i].2 else []) := by
  unfold sws
  rw [List.take_succ, List.getElem?_eq_getElem h, List.filter_append, List.flatMap_append]
  by_cases c : R[i].1 = w <;> simp [c]
theorem sws_ok {R : Rl} {w : Str} (h : OkR R) : ∀ x ∈ sws R w, okS x := fun x hx => by
  obtain ⟨r, hr, hx⟩ := List.mem_flatMap.mp hx
  exact sw_ok (h.r r (List.mem_filter.mp hr).1).2.1 x hx
theorem sws_len {R : Rl} {w : Str} (h : OkR R) : (sws R w).length ≤ 400 := by
  have go : ∀ l : Rl, (∀ r ∈ l, r.2.all.length ≤ 100) → (l.flatMap fun r => sw r.2).length ≤ 100 * l.length := fun l => by
    induction l with
    | nil => simp
    | cons r l ih =>
      intro hl
      have h1 := ih fun r hr => hl r (by simp [hr])
      have h2 := sw_len r.2
      have h3 := hl r (by simp)
      rw [List.flatMap_cons, List.length_append, List.length_cons]
      omega
  have h1 := go (R.filter fun r => decide (r.1 = w)) fun r hr => (h.r r (List.mem_filter.mp hr).1).2.2.2
  have h2 := List.length_filter_le (fun r : Str × Pt => decide (r.1 = w)) R
  have := h.len
  unfold sws
  omega
theorem rul_at {R : Rl} {i : Nat} {d : D} (h : (rulD R)[i]? = some d) : ∃ hi : i < R.length, d = .tup [.str R[i].1, ptD R[i].2] := by
  have hi : i < R.length := by
    have := (List.getElem?_eq_some_iff.mp h).1
    simpa [rulD] using this
  refine ⟨hi, ?_⟩
  simp [rulD, hi] at h
  exact h.symm
theorem hr_sm {R : Rl} (h : OkR R) : ∀ x ∈ HR R, okS x := fun x hx => nm_ok (h.nm hx)
/-- those of a row that are among some -/
theorem in_lc {v s : Nat} {X Y : List Str} {τ : DSt} {S : DH} {Q : DK} (hv : v < τ.length) {l : Addr} (hs : τ[s]? = some (some (.ref l))) (hne : v ≠ s) (hl : S l = some (.lst (strsD Y))) (hX : X.length ≤ 1000) (oX : ∀ x ∈ X, okS x) (oY : ∀ x ∈ Y, okS x) (h : Q (.rol (strsD (X.filter fun x => decide (x ∈ Y)))) S) :
    newO S (.lst []) fun q S1 => dLcL (dGN v) (dTest (dOp (dIn false) (dVar v) (dVar s))) (dVar v) DW0 τ (fun _ => True) q (fzK Q (.ref q)) (strsD X) S1 := by
  refine lcF_inv (G := fun _ => True) (fun i acc S1 => acc = strsD ((X.take i).filter fun x => decide (x ∈ Y)) ∧ S1 = S) ⟨rfl, rfl⟩ (fun _ _ _ _ _ _ _ => trivial) ?_ (by simp [strsD]; omega) ?_
  · rintro i d acc S1 q N hd ⟨rfl, rfl⟩ hq ha hN
    have hi : i < X.length := by
      have := (List.getElem?_eq_some_iff.mp hd).1
      simpa [strsD] using this
    obtain rfl : d = .str X[i] := by simp [strsD, hi] at hd; exact hd.symm
    have lq : l ≠ q := fun z => by rw [← z, hl] at hq; cases hq
    have e0 : (List.set τ v (some (D.str X[i])))[s]? = some (some (.ref l)) := by rw [List.getElem?_set_ne hne]; exact hs
    simp [hv]
    rw [e0]
    have tk : (X.take (i + 1)).filter (fun x => decide (x ∈ Y)) = (X.take i).filter (fun x => decide (x ∈ Y)) ++ (if X[i] ∈ Y then [X[i]] else []) := by
      rw [List.take_succ, List.getElem?_eq_getElem hi, List.filter_append]
      by_cases c : X[i] ∈ Y <;> simp [c]
    have hin : decide (D.str X[i] ∈ strsD Y) = decide (X[i] ∈ Y) := decide_eq_decide.mpr strs_mem7
    simp [upo_ne lq, hl]
    refine dInQ_sm (Sm_str.mpr (oX _ (List.getElem_mem hi))) (fun e he => by
      obtain ⟨y, hy, rfl⟩ := List.mem_map.mp he
      exact Sm_str.mpr (oY y hy)) ?_
    rw [hin]
    by_cases c : X[i] ∈ Y
    · simp [c]
      have := hN (strsD ((X.take (i + 1)).filter fun x => decide (x ∈ Y))) S1 hq ⟨rfl, rfl⟩ (by rw [tk]; simp [c, strsD])
      rw [tk] at this
      exact ⟨by simpa using ha, by simpa [c, strsD] using this⟩
    · simp [c]
      have := hN (strsD ((X.take (i + 1)).filter fun x => decide (x ∈ Y))) S1 hq ⟨rfl, rfl⟩ (by rw [tk]; simp [c, strsD])
      rw [tk] at this
      simpa [c] using this
  · rintro acc S1 ⟨rfl, rfl⟩
    rw [List.take_of_length_le (by simp [strsD])]
    exact h
theorem r_led_to (ds S Q E) (h : sp_led_to ds S Q E) : t_led_to (dEnd Q E) (dstart N_led_to ds) S := by
  obtain ⟨R, w, rfl, ok, hw, h⟩ := h
  have hsl := sws_len (w := w) ok
  unfold t_led_to
  refine dSeq_gen fun R1 hR => ?_
  simp [dstart]
  intro l hl
  subst hR
  refine dSeqFor_gen fun B R1 hB hR => ?_
  simp
  refine loop_inv (fun i τ S' => ∃ x4 x5 : Option D, τ = [some (.rol (strsD (HR R))), some (.rol (rulD R)), some (.str w), some (.ref l), x4, x5, none] ∧ S' = upo S l (.lst (strsD (sws (R.take i) w)))) ⟨none, none, rfl, rfl⟩ (fun _ _ _ _ _ => trivial) ?_ ?_
  · rintro i d τ S1 N hd' ⟨x4, x5, rfl, rfl⟩ hN
    obtain ⟨hi, rfl⟩ := rul_at hd'
    have hr := ok.r _ (List.getElem_mem hi)
    have tk := sws_take (w := w) hi
    have hle : (sws (R.take i) w).length ≤ 400 := sws_len ⟨by have := ok.len; rw [List.length_take]; omega, fun r hr => ok.r r (List.mem_of_mem_take hr)⟩
    have hsw := sw_len R[i].2
    subst hB
    simp
    by_cases c : R[i].1 = w
    · simp [c]
      refine ⟨R[i].2, rfl, by omega, by omega, ?_⟩
      have := hN [some (.rol (strsD (HR R))), some (.rol (rulD R)), some (.str w), some (.ref l), some (.str w), some (ptD R[i].2), none] (upo S l (.lst (strsD (sws (R.take i) w ++ sw R[i].2)))) ⟨_, _, rfl, by rw [tk, if_pos c]⟩
      simp [strsD] at this ⊢
      exact ⟨by omega, this⟩
    · simp [c]
      exact hN _ _ ⟨_, _, rfl, by rw [tk, if_neg c, List.append_nil]⟩
  · rintro τ S1 ⟨x4, x5, rfl, rfl⟩
    have eR : R.take (rulD R).length = R := by rw [show (rulD R).length = R.length by simp [rulD], List.take_length]
    rw [eR]
    subst hR
    dsimp only
    refine dSeqIf_gen fun A1 B1 R1 hA hB hR => ?_
    have hin : decide (D.str (Str.ofString "*") ∈ strsD (sws R w)) = decide (Str.ofString "*" ∈ sws R w) := decide_eq_decide.mpr strs_mem7
    simp
    refine dInQ_sm (Sm_str.mpr okS_star) (fun e he => by
      obtain ⟨y, hy, rfl⟩ := List.mem_map.mp he
      exact Sm_str.mpr (sws_ok ok y hy)) ?_
    rw [hin]
    by_cases c : Str.ofString "*" ∈ sws R w
    · have e : led R w = HR R := by unfold led; simp [c]
      rw [e] at h
      simp [c]
      subst hA
      simp
      exact .keep (S := S) (Sub.new hl) h
    · have e : led R w = (HR R).filter fun x => decide (x ∈ sws R w) := by unfold led; simp [c]
      rw [e] at h
      simp [c]
      subst hB
      simp
      subst hR
      simp
      refine in_lc (s := 3) (l := l) (Y := sws R w) (by simp) rfl (by decide) (by rw [upo_same]) (by have := ok.hl; omega) (hr_sm ok) (sws_ok ok) ?_
      exact .keep (S := S) (Sub.new hl) h
theorem dIf_gen7 {c : DTT} {a b : DTS} {A : DEnds} {τ : DSt} {S : DH} (h : ∀ A1 B1, A1 = a → B1 = b → dIf c A1 B1 A τ S) : dIf c a b A τ S := h a b rfl rfl
theorem nm_len {x : Str} (h : Nm x) : x.length ≤ 100 := by have := h.2.1; omega
theorem r_lay_order {CG : Addr} (k : Nat) (ds S Q E) (h : sp_lay_order CG k ds S Q E) : t_lay_order CG (prevSp (sp_lay_order CG) k) (dEnd Q E) (dstart N_lay_order ds) S := by
  obtain ⟨R, w, tr, od, a, rfl, ok, hw, t, g, ha, hk, hk6, h, hx⟩ := h
  have smH : ∀ {l : List Str}, (∀ x ∈ l, x ∈ HR R) → ∀ e ∈ strsD l, Sm 60 e := fun {l} hl e he => by
    obtain ⟨y, hy, rfl⟩ := List.mem_map.mp he
    exact Sm_str.mpr (nm_ok (ok.nm (hl y hy)))
  have smw : Sm 60 (.str w) := Sm_str.mpr (nm_ok (ok.nm hw))
  have trl : tr.length ≤ 4 := Nat.le_trans (nodup_len7 t.nd t.sub) ok.hl
  have odl : od.length ≤ 4 := Nat.le_trans (nodup_len7 g.nd g.sub) ok.hl
  have h0 := hx od
  rw [upo_id ha] at h0
  unfold t_lay_order
  refine dSeqIf_gen fun A1 B1 R1 hA hB hR => ?_
  have hin : decide (D.str w ∈ strsD tr) = decide (w ∈ tr) := decide_eq_decide.mpr strs_mem7
  simp [-prevSp, dstart]
  refine dInQ_sm smw (smH t.sub) ?_
  rw [hin]
  by_cases c : w ∈ tr
  · simp [c]
    subst hA
    obtain ⟨j, hj, ej⟩ := List.mem_iff_getElem.mp c
    have hj1 : tr[j]? = some w := by rw [List.getElem?_eq_getElem hj, ej]
    simp
    refine ⟨.str w, strsD tr, j, rfl, rfl, smw, smH t.sub, by simp [strsD, hj1], fun m hm e => ?_, ?_⟩
    · simp [strsD] at e
      obtain ⟨hm1, e3⟩ := List.getElem?_eq_some_iff.mp e
      have := (List.getElem_inj t.nd).mp (e3.trans ej.symm)
      omega
    · have e : cutD (strsD tr) (some (j : Int)) none = strsD (tr.drop j) := by rw [cutD_drop]; simp [strsD]
      intro b hb
      rw [e]
      exact raise_ring rfl (by rw [List.length_drop]; omega) (fun x hx => nm_len (ok.nm (t.sub x (List.mem_of_mem_drop hx)))) (h0 _ (ring_of t hj1)) b hb
  · simp [c]
    subst hB
    simp
    subst hR
    refine dIf_gen7 fun A2 B2 hA2 hB2 => ?_
    have hin2 : decide (D.str w ∈ strsD od) = decide (w ∈ od) := decide_eq_decide.mpr strs_mem7
    simp [-prevSp, ha]
    refine dInQ_sm smw (smH g.sub) ?_
    rw [hin2]
    by_cases c2 : w ∈ od
    · simp [c2]
      subst hB2
      simp
      have := h od g (fun _ h => h) c2 (fun _ _ h => h)
      rw [upo_id ha] at this
      exact .same this
    · simp [c2]
      subst hA2
      refine dSeqFor_gen fun B R1 hB hR => ?_
      simp [-prevSp]
      refine ⟨R, w, rfl, ok, hw, ?_⟩
      simp
      have hwl : (led R w).length ≤ 4 := Nat.le_trans (List.length_filter_le _ _) ok.hl
      refine loop_inv (fun i τ S' => ∃ (od' : List Str) (x5 : Option D), τ = [some (.rol (strsD (HR R))), some (.rol (rulD R)), some (.str w), some (.rol (strsD tr)), some (.ref a), x5] ∧ S' = upo S a (.lst (strsD od')) ∧ Good R od' ∧ (∀ x ∈ od, x ∈ od') ∧ (∀ y ∈ (led R w).take i, y ∈ od') ∧
        (∀ x ∈ tr, x ∉ od → x ∉ od') ∧ w ∉ od') ⟨od, none, rfl, (upo_id ha).symm, g, (fun _ h => h), (by simp), (fun _ _ h => h), c2⟩ (fun _ _ _ _ _ => trivial) ?_ ?_
      · rintro i d τ S1 N hd' ⟨od', x5, rfl, rfl, g', s', f', n', w'⟩ hN
        have hi : i < (led R w).length := by
          have := (List.getElem?_eq_some_iff.mp hd').1
          simpa [strsD] using this
        obtain rfl : d = .str (led R w)[i] := by simp [strsD, hi] at hd'; exact hd'.symm
        have hy : (led R w)[i] ∈ led R w := List.getElem_mem hi
        obtain ⟨k, rfl⟩ : ∃ j, k = j + 1 := ⟨k - 1, by
          have : tr.length < (HR R).length := by
            have := nodup_len7 (xs := w :: tr) (List.nodup_cons.mpr ⟨c, t.nd⟩) (ys := HR R) (fun x hx => by
              rcases List.mem_cons.mp hx with rfl | hx
              · exact hw
              · exact t.sub x hx)
            rw [List.length_cons] at this
            omega
          omega⟩
        subst hB
        simp [prevSp, catD]
        refine ⟨by first | omega | (simp [strsD]; omega), R, (led R w)[i], tr ++ [w], od', a, by simp [strsD], ok, led_sub hy, trail_ext t c hw hy, g', by simp, by simp; omega, by omega, fun o2 g2 s2 w2 n2 => ?_, fun o2 rg r => ?_⟩
        · simp
          refine hN _ _ ⟨o2, _, rfl, rfl, g2, fun x hx => s2 x (s' x hx), fun y hy => ?_, fun x hx hn => ?_, ?_⟩
          · rw [List.take_succ, List.getElem?_eq_getElem hi] at hy
            rcases List.mem_append.mp hy with hy | hy
            · exact s2 y (f' y hy)
            · rw [List.mem_singleton.mp hy]; exact w2
          · exact n2 x (List.mem_append_left _ hx) (n' x hx hn)
          · exact n2 w (List.mem_append_right _ (by simp)) w'
        · rw [upo_upo]
          exact ⟨_, fun _ _ h => h, hx o2 rg r⟩
      · rintro τ S1 ⟨od', x5, rfl, rfl, g', s', f', n', w'⟩
        have ol : od'.length ≤ 4 := Nat.le_trans (nodup_len7 g'.nd g'.sub) ok.hl
        rw [show (strsD (led R w)).length = (led R w).length by simp [strsD], List.take_length] at f'
        subst hR
        simp
        have := h (od' ++ [w]) (good_ext g' w' hw f') (fun x hx => List.mem_append_left _ (s' x hx)) (by simp) fun x hx hn hm => by
          rcases List.mem_append.mp hm with hm | hm
          · exact n' x hx hn hm
          · rw [List.mem_singleton.mp hm] at hx; exact c hx
        simp [strsD] at this ⊢
        exact ⟨by omega, .same this⟩
theorem r_order_of {CG : Addr} (ds S Q E) (h : sp_order_of CG ds S Q E) : t_order_of CG (dEnd Q E) (dstart N_order_of ds) S := by
  obtain ⟨R, rfl, ok, h, hx⟩ := h
  unfold t_order_of
  refine dSeq_gen fun R1 hR => ?_
  simp [dstart]
  refine lcF_map (G := fun _ => True) (fun d => match d with | .tup (x :: _) => x | _ => .non) (fun _ _ _ => trivial) (fun d hd acc p N hp hl hN => ?_) (by simp [rulD]; have := ok.len; omega) ?_
  · obtain ⟨r, hr, rfl⟩ := List.mem_map.mp hd
    simp
    exact ⟨by simpa using hl, hN⟩
  have e1 : (rulD R).map (fun d => match d with | .tup (x :: _) => x | _ => .non) = strsD (R.map (·.1)) := by simp [rulD, strsD]
  rw [e1]
  simp
  have hlen := ok.len
  refine ⟨.inl fun d x y hy e => ?_, ?_, ?_⟩
  · subst e
    exact nm_ok (ok.r _ hy).1
  · exact Nat.lt_of_le_of_lt (show R.length + 1 ≤ 5 by omega) (by decide)
  rw [show List.map (D.str ∘ fun x : Str × Pt => x.1) R = strsD (R.map (·.1)) by simp [strsD], HR_D]
  subst hR
  refine dSeq_gen fun R1 hR => ?_
  simp
  intro l hl
  subst hR
  refine dSeqFor_gen fun B R1 hB hR => ?_
  simp
  refine loop_inv (fun i τ S' => ∃ (od : List Str) (x3 : Option D), τ = [some (.rol (rulD R)), some (.rol (strsD (HR R))), some (.ref l), x3, none] ∧ S' = upo S l (.lst (strsD od)) ∧ Good R od ∧ ∀ x ∈ (HR R).take i, x ∈ od) ⟨[], none, rfl, rfl, good_nil R, by simp⟩ (fun _ _ _ _ _ => trivial) ?_ ?_
  · rintro i d τ S1 N hd' ⟨od, x3, rfl, rfl, g, f⟩ hN
    have hi : i < (HR R).length := by
      have := (List.getElem?_eq_some_iff.mp hd').1
      simpa [strsD] using this
    obtain rfl : d = .str (HR R)[i] := by simp [strsD, hi] at hd'; exact hd'.symm
    subst hB
    simp
    refine ⟨R, (HR R)[i], [], od, l, rfl, ok, List.getElem_mem hi, trail_nil _ _, g, by simp, by have := ok.hl; simp; omega, by decide, fun o2 g2 s2 w2 n2 => ?_, fun o2 rg r => ?_⟩
    · simp
      refine hN _ _ ⟨o2, _, rfl, rfl, g2, fun y hy => ?_⟩
      rw [List.take_succ, List.getElem?_eq_getElem hi] at hy
      rcases List.mem_append.mp hy with hy | hy
      · exact s2 y (f y hy)
      · rw [List.mem_singleton.mp hy]; exact w2
    · rw [upo_upo]
      exact ⟨S, Sub.new hl, hx rg r⟩
  · rintro τ S1 ⟨od, x3, rfl, rfl, g, f⟩
    rw [show (strsD (HR R)).length = (HR R).length by simp [strsD], List.take_length] at f
    subst hR
    simp
    exact .rol (by simp) hl (Sub.new hl) (h od g f)
end L67
set_option maxRecDepth 100000
set_option maxHeartbeats 4000000
namespace L63
open PySem PySem.Spec L2
open Rc
open Sh hiding N_l_feed N_l_leaf N_l_names N_l_pattern deeps_le deeps_mem r_l_feed r_l_leaf r_l_names r_l_pattern sp_l_leaf sp_l_leaf_mono sp_l_names sp_l_names_mono sp_l_pattern sp_l_pattern_mono t_l_feed t_l_leaf t_l_names t_l_pattern
open Dt hiding nkeys sp_l_feed sp_l_feed_mono
/-! K63: the plain law. -/
theorem pt_ind {P : Pt → Prop} (h1 : P .stay) (h2 : ∀ b w, P (.step b w)) (h3 : ∀ b m, P (.mark b m)) (h4 : ∀ b ps, (∀ p ∈ ps, P p) → P (.seq b ps)) (h5 : ∀ p, P p → P (.many p)) : ∀ p : Pt, P p := by
  intro p
  induction hn : p.all.length using Nat.strongRecOn generalizing p with
  | ind n ih =>
    subst hn
    cases p with
    | stay => exact h1
    | step b w => exact h2 b w
    | mark b m => exact h3 b m
    | seq b ps =>
      refine h4 b ps fun q hq => ih q.all.length ?_ q rfl
      rw [Pt.all_seq, List.length_cons, Pt.alls_flat]
      have : q.all.length ≤ (ps.flatMap Pt.all).length := by
        obtain ⟨a, c, rfl⟩ := List.append_of_mem hq
        simp
        omega
      omega
    | many q => exact h5 q (ih q.all.length (by rw [Pt.all_many, List.length_cons]; omega) q rfl)
theorem bk_bk : ∀ p : Pt, bk (bk p) = p := by
  refine pt_ind rfl (fun b w => by simp [bk]) (fun _ _ => rfl) (fun b ps ih => ?_) (fun p ih => by simp [bk, ih])
  have e : (ps.map bk).map bk = ps := by
    rw [List.map_map]
    exact (List.map_congr_left (g := id) fun p hp => ih p hp).trans (List.map_id _)
  cases b
  · simp only [bk, bks_map, Bool.false_eq_true, ↓reduceIte, e]
  · simp only [bk, bks_map, ↓reduceIte, ← List.map_reverse]
    rw [List.reverse_reverse, e]
def hd (p : Pt) : Str := match p with | .stay => "stay" | .step _ _ => "step" | .mark b _ => if b then "at" else "off" | .seq b _ => if b then "then" else "either" | .many _ => "many"
theorem flat_perm {α β : Type} {f g : α → List β} : ∀ {ps : List α}, (∀ p ∈ ps, (f p).Perm (g p)) → (ps.flatMap f).Perm (ps.flatMap g)
  | [], _ => .nil
  | p :: ps, h => by
    rw [List.flatMap_cons, List.flatMap_cons]
    exact (h p List.mem_cons_self).append (flat_perm fun q hq => h q (List.mem_cons_of_mem _ hq))
theorem bk_all : ∀ p : Pt, (bk p).all.Perm (p.all.map bk) := by
  refine pt_ind (.refl _) (fun b w => .refl _) (fun _ _ => .refl _) (fun b ps ih => ?_) (fun p ih => ?_)
  · have e : ((ps.map bk).flatMap Pt.all).Perm ((ps.flatMap Pt.all).map bk) := by
      rw [List.flatMap_map, List.map_flatMap]
      exact flat_perm ih
    have e2 : ∀ qs : List Pt, qs.Perm (ps.map bk) → (Pt.all (.seq b qs)).Perm ((Pt.all (.seq b ps)).map bk) → True := fun _ _ _ => trivial
    have e3 : bk (.seq b ps) = .seq b (if b then (ps.map bk).reverse else ps.map bk) := by rw [bk, bks_map]
    rw [e3, Pt.all_seq, Pt.all_seq, List.map_cons, e3, Pt.alls_flat, Pt.alls_flat]
    refine List.Perm.cons _ ?_
    refine List.Perm.trans ?_ e
    cases b
    · exact .refl _
    · exact (List.reverse_perm _).flatMap_right _
  · rw [bk, Pt.all_many, Pt.all_many, List.map_cons, bk]
    exact ih.cons _
theorem bk_deep : ∀ p : Pt, (bk p).deep = p.deep := by
  have le : ∀ p : Pt, (bk p).deep ≤ p.deep := by
    refine pt_ind (Nat.le_refl _) (fun b w => Nat.le_refl _) (fun _ _ => Nat.le_refl _) (fun b ps ih => ?_) (fun p ih => ?_)
    · rw [bk, bks_map, Pt.deep_seq, Pt.deep_seq]
      have : Pt.deeps (if b = true then (ps.map bk).reverse else ps.map bk) ≤ Pt.deeps ps := deeps_le fun t ht => by
        have ht : t ∈ ps.map bk := by
          cases b
          · exact ht
          · exact List.mem_reverse.mp ht
        obtain ⟨q, hq, rfl⟩ := List.mem_map.mp ht
        exact Nat.le_trans (ih q hq) (deeps_mem hq)
      omega
    · rw [bk, Pt.deep_many, Pt.deep_many]
      omega
  intro p
  have := le p
  have h2 := le (bk p)
  rw [bk_bk] at h2
  omega
theorem bk_kids (p : Pt) : (bk p).kids.length = p.kids.length := by
  cases p with
  | seq b ps => rw [bk, bks_map]; cases b <;> simp [Pt.kids]
  | _ => rfl
theorem okc_okp {ws ms : List Str} {p : Pt} (h : OkC ws ms p) (hw : ∀ w ∈ ws, Nm w) (hm : ∀ m ∈ ms, Nm m) : p.okP Nm := fun q hq => by
  have h1 := h q hq
  cases q with
  | step b w => exact h1.imp id (hw w)
  | mark b m => exact hm m h1
  | _ => trivial
theorem okc_few {ws ms : List Str} {p : Pt} (h : OkC ws ms p) : ∀ q ∈ p.all, q.kids.length ≤ 4 := fun q hq => by
  have h1 := h q hq
  cases q with
  | seq b ps => exact h1
  | many p => simp [Pt.kids]
  | _ => simp [Pt.kids]
/-- so often as one will -/
inductive St (R : Nat → Nat → Prop) : Nat → Nat → Prop
  | nil (i : Nat) : St R i i
  | cons {i k j : Nat} : R i k → St R k j → St R i j
theorem St.app {R : Nat → Nat → Prop} {i k j : Nat} (h : St R i k) (h2 : St R k j) : St R i j := by
  induction h with
  | nil => exact h2
  | cons a _ ih => exact .cons a (ih h2)
theorem St.snoc {R : Nat → Nat → Prop} {i k j : Nat} (h : St R i k) (h2 : R k j) : St R i j := h.app (.cons h2 (.nil _))
/-- a line: marks at each place, steps between -/
abbrev Ln := List (List Str) × List (Bool × Str)
mutual
/-- the pattern goes from the i-th place of a line to the j-th -/
def F (L : Ln) : Pt → Nat → Nat → Prop
  | .stay, i, j => i = j
  | .mark b m, i, j => i = j ∧ (decide (m ∈ L.1.getD i []) = b)
  | .step b w, i, j => j = i + 1 ∧ ∃ t, L.2[i]? = some t ∧ t.1 = b ∧ (w = "*" ∨ w = t.2)
  | .seq true ps, i, j => Fs L ps i j
  | .seq false ps, i, j => Fo L ps i j
  | .many p, i, j => St (F L p) i j
def Fs (L : Ln) : List Pt → Nat → Nat → Prop
  | [], i, j => i = j
  | p :: ps, i, j => ∃ k, F L p i k ∧ Fs L ps k j
def Fo (L : Ln) : List Pt → Nat → Nat → Prop
  | [], _, _ => False
  | p :: ps, i, j => F L p i j ∨ Fo L ps i j
end
def OkL (L : Ln) : Prop := L.1.length = L.2.length + 1
def flp (t : Bool × Str) : Bool × Str := (!t.1, t.2)
def bkL (L : Ln) : Ln := (L.1.reverse, L.2.reverse.map flp)
/-- the whole line -/
def Wh (L : Ln) (p : Pt) : Prop := F L p 0 L.2.length
end L63
set_option maxRecDepth 100000
set_option maxHeartbeats 4000000
namespace L67
open PySem PySem.Spec L2
open L63
open Rc
open Sh hiding N_l_feed N_l_leaf N_l_names N_l_pattern deeps_le deeps_mem r_l_feed r_l_leaf r_l_names r_l_pattern sp_l_leaf sp_l_leaf_mono sp_l_names sp_l_names_mono sp_l_pattern sp_l_pattern_mono t_l_feed t_l_leaf t_l_names t_l_pattern
open Dt hiding nkeys sp_l_feed sp_l_feed_mono
/-! K67s: unfolded: that it tells a pattern. -/
/-- what the rules' words mean so far: each word's patterns, no deeper than d, no more than four in a row -/
structure OkMt (d : Nat) (kv : List (Str × List Pt)) : Prop where
  len : kv.length ≤ 4
  e : ∀ e ∈ kv, e.2.length ≤ 4 ∧ ∀ p ∈ e.2, p.deep ≤ d ∧ ∀ q ∈ p.all, q.kids.length ≤ 200
def mtL (kv : List (Str × List Pt)) : List (Key × D) := kv.map fun e => (.inr e.1, .rol (ptDs e.2))
/-- the dict, walked or not -/
def MtAt (S : DH) (m : Addr) (kv : List (Str × List Pt)) : Prop := S m = some (.dK (mtL kv)) ∨ S m = some (.fK (mtL kv))
def sp_ways_for (k : Nat) : DSp := fun ds S Q _ => ∃ (m : Addr) (b : Bool) (w : Str) (kv : List (Str × List Pt)) (d : Nat), ds = [.ref m, .str (if b then "on" else "back"), .str w] ∧ MtAt S m kv ∧ OkMt d kv ∧ d ≤ 21 ∧ okS w ∧ (w = "*" → 1 ≤ k ∧ S m = some (.dK (mtL kv)) ∧ ∀ e ∈ kv, Nm e.1) ∧ (w ≠ "*" → (lk (mtL kv) (.inr w)).isSome) ∧
  (∀ ps : List Pt, (w ≠ "*" → ps.length ≤ 4) → ps.length ≤ 20 → (∀ p ∈ ps, p.deep ≤ max d 1 ∧ ∀ q ∈ p.all, q.kids.length ≤ 200) → Q (.rol (ptDs ps)) S)
theorem sp_ways_for_mono (k : Nat) : SpMono (sp_ways_for k) := fun ds S Q Q' E E' kk _ ⟨m, b, w, kv, d, h1, h2, h3, h4, h5, h6, h7, h⟩ => ⟨m, b, w, kv, d, h1, h2, h3, h4, h5, h6, h7, fun ps a c e => kk _ _ (h ps a c e)⟩
def sp_put_for (k : Nat) : DSp := fun ds S Q _ => ∃ (m : Addr) (p : Pt) (kv : List (Str × List Pt)) (d : Nat), ds = [ptD p, .ref m] ∧ S m = some (.dK (mtL kv)) ∧ OkMt d kv ∧ d ≤ 21 ∧ (∀ e ∈ kv, Nm e.1) ∧ p.okP Nm ∧ p.deep ≤ k + 1 ∧ k ≤ 10 ∧ (∀ q ∈ p.all, q.kids.length ≤ 200) ∧
  ∀ p' : Pt, p'.deep ≤ p.deep + max d 1 → (∀ q ∈ p'.all, q.kids.length ≤ 200) → Q (ptD p') S
theorem sp_put_for_mono (k : Nat) : SpMono (sp_put_for k) := fun ds S Q Q' E E' kk _ ⟨m, p, kv, d, h1, h2, h3, h4, h5, h6, h7, h8, h9, h⟩ => ⟨m, p, kv, d, h1, h2, h3, h4, h5, h6, h7, h8, h9, fun p' a b => kk _ _ (h p' a b)⟩
def sp_unfolded (CG : Addr) : DSp := fun ds S Q E => ∃ (R : Rl) (p : Pt), ds = [ptD p, .rol (rulD R)] ∧ OkR R ∧ p.okP Nm ∧ p.deep ≤ 5 ∧ (∀ q ∈ p.all, q.kids.length ≤ 200) ∧ (∀ r ∈ R, ∀ q ∈ r.2.all, q.kids.length ≤ 200) ∧ (∀ od, Good R od → (∀ x ∈ HR R, x ∈ od) → ∀ p', Q (ptD p') S) ∧ ∀ rg, Ring R rg → E CG (rgX rg) S
theorem sp_unfolded_mono (CG : Addr) : SpMono (sp_unfolded CG) := fun ds S Q Q' E E' kk ke ⟨R, p, h1, h2, h3, h4, h5, h6, h, hx⟩ => ⟨R, p, h1, h2, h3, h4, h5, h6, fun od a b p' => kk _ _ (h od a b p'), fun rg r => ke _ _ _ (hx rg r)⟩

theorem lk_mt {w : Str} {v : D} : ∀ {kv : List (Str × List Pt)}, lk (mtL kv) (.inr w) = some v → ∃ ps, (w, ps) ∈ kv ∧ v = .rol (ptDs ps)
  | [], h => by cases h
  | e :: kv, h => by
    have h' : (if (.inr e.1 : Key) = .inr w then some (D.rol (ptDs e.2)) else lk (mtL kv) (.inr w)) = some v := h
    split at h'
    · rename_i c
      cases h'
      cases c
      exact ⟨e.2, by simp, rfl⟩
    · obtain ⟨ps, h1, h2⟩ := lk_mt h'
      exact ⟨ps, by simp [h1], h2⟩
theorem mt_key {w : Str} : ∀ {kv : List (Str × List Pt)}, w ∈ kv.map (·.1) → (lk (mtL kv) (.inr w)).isSome
  | [], h => by simp at h
  | e :: kv, h => by
    show (if (.inr e.1 : Key) = .inr w then some (D.rol (ptDs e.2)) else lk (mtL kv) (.inr w)).isSome = true
    split
    · rfl
    · rename_i c
      rcases List.mem_cons.mp h with h | h
      · exact absurd (by rw [h]) c
      · exact mt_key h
theorem mt_keys (kv : List (Str × List Pt)) : (mtL kv).map (fun q => keyD q.1) = strsD (kv.map (·.1)) := by
  simp [mtL, strsD, keyD]
theorem bk_few {p : Pt} (h : ∀ q ∈ p.all, q.kids.length ≤ 200) : ∀ q ∈ (bk p).all, q.kids.length ≤ 200 := fun q hq => by
  obtain ⟨r, hr, rfl⟩ := List.mem_map.mp ((bk_all p).mem_iff.mp hq)
  rw [bk_kids]
  exact h r hr
theorem dSeqLock_gen {t R : DTS} {A : DEnds} {τ : DSt} {S : DH} (a : Addr) (ob of : Ob) (h1 : S a = some ob) (h2 : lockO ob = some of) (h : t (thA { A with nx := R A } a ob of) τ (upo S a of)) : dSeq (dLock t) R A τ S := ⟨a, ob, of, h1, h2, h⟩
theorem wf_lc {L : List Pt} {τ : DSt} {d : Nat} {S : DH} {Q : DK} (h5 : 5 < τ.length) (hl : L.length ≤ 4) (hd : d ≤ 21) (h0 : ∀ p ∈ L, p.deep ≤ d ∧ ∀ q ∈ p.all, q.kids.length ≤ 200) (h : Q (.rol (ptDs (L.map bk))) S) :
    newO S (.lst []) fun p S1 => dLcL (dGN 5) dYes (dCall (sp_backwards 20) (dCons (dVar 5) dNil)) DW0 τ (fun _ => True) p (fzK Q (.ref p)) (ptDs L) S1 := by
  refine lcF_inv (fun i acc S1 => acc = ptDs ((L.map bk).take i) ∧ S1 = S) ⟨rfl, rfl⟩ (fun _ _ _ _ _ _ _ => trivial) ?_ (by rw [ptDs_len]; exact Nat.lt_of_le_of_lt (show L.length ≤ 4 from hl) (by decide)) ?_
  · rintro i d' acc S1 q N hd' ⟨rfl, rfl⟩ hq ha hN
    have hi : i < L.length := by
      have := (List.getElem?_eq_some_iff.mp hd').1
      rwa [ptDs_len] at this
    rw [ptDs_at hi] at hd'
    cases hd'
    have hm := h0 _ (List.getElem_mem hi)
    simp [h5]
    refine ⟨L[i], rfl, by omega, fun q hq => Nat.le_trans (hm.2 q hq) (by decide), ?_⟩
    simp
    refine ⟨by simpa using ha, hN _ _ hq ⟨?_, rfl⟩ (by simp)⟩
    rw [List.take_succ, List.getElem?_map, List.getElem?_eq_getElem hi, ptDs_app]
    rfl
  · rintro acc S1 ⟨rfl, rfl⟩
    rw [List.take_of_length_le (by rw [ptDs_len, List.length_map]; exact Nat.le_refl _)]
    exact h

theorem nm_star {x : Str} (h : Nm x) : x ≠ Str.ofString "*" := fun e => by
  have e1 : (Str.ofString "*").cps.toList = [42] := by decide +kernel
  have := (h.2.2 42 (by rw [e, e1]; simp)).1
  omega
def t_ways_for (spR : DSp) : DTS := (dSeq (dIf (dTest (dOp (dEq false) (dVar 2) (dC (.str "*"))))
      (dSeq (dAsg (dLst (dCons (dTup (dCons (dC (.str "step")) (dCons (dVar 1) (dCons (dVar 2) dNil)))) dNil)) (dGN 3))
    (dSeq (dLock (dFor (dKeyI (dVar 0)) (dGN 4)
      (dDrop (dBM "list" mExtend (dVar 3) (dCons (dCall spR (dCons (dVar 0) (dCons (dVar 1) (dCons (dVar 4) dNil)))) dNil)))))
    (dRet (dVar 3))))
      dNx)
    (dSeq (dIf (dTest (dOp (dEq false) (dVar 1) (dC (.str "on"))))
      (dRet (dCB cListAF (dCons (dOp dIxU (dVar 0) (dVar 2)) dNil)))
      dNx)
    (dRet (dFz (dLc (dSeqI (dOp dIxU (dVar 0) (dVar 2))) (dGN 5) dYes (dCall (sp_backwards 20) (dCons (dVar 5) dNil)) [5])))))
abbrev N_ways_for : List Str := ["meant", "side", "word", "found", "one", "pattern"]
def t_put_for (spR : DSp) : DTS := (dSeq (dIf (dAnd (dTest (dOp (dEq false) (dOp dIxS (dVar 0) (dC (.int 0))) (dC (.str "step")))) (dOr (dTest (dOp (dEq false) (dOp dIxS (dVar 0) (dC (.int 2))) (dC (.str "*")))) (dTest (dOp (dIn false) (dOp dIxS (dVar 0) (dC (.int 2))) (dVar 1)))))
      (dRet (dTup (dCons (dC (.str "either")) (dCons (dCB cTuple (dCons (dCall (sp_ways_for 1) (dCons (dVar 1) (dCons (dOp dIxS (dVar 0) (dC (.int 1))) (dCons (dOp dIxS (dVar 0) (dC (.int 2))) dNil)))) dNil)) dNil))))
      dNx)
    (dSeq (dIf (dTest (dOp (dEq false) (dOp dIxS (dVar 0) (dC (.int 0))) (dC (.str "many"))))
      (dRet (dTup (dCons (dC (.str "many")) (dCons (dCall spR (dCons (dOp dIxS (dVar 0) (dC (.int 1))) (dCons (dVar 1) dNil))) dNil))))
      dNx)
    (dSeq (dIf (dTest (dOp (dIn false) (dOp dIxS (dVar 0) (dC (.int 0))) (dTup (dCons (dC (.str "then")) (dCons (dC (.str "either")) dNil)))))
      (dRet (dTup (dCons (dOp dIxS (dVar 0) (dC (.int 0))) (dCons (dCB cTuple (dCons (dFz (dLc (dSeqI (dOp dIxS (dVar 0) (dC (.int 1)))) (dGN 2) dYes (dCall spR (dCons (dVar 2) (dCons (dVar 1) dNil))) [2])) dNil)) dNil))))
      dNx)
    (dRet (dVar 0)))))
abbrev N_put_for : List Str := ["pattern", "meant", "one"]
def t_unfolded (C_GoesRound : Addr) : DTS := (dSeq (dAsg dDnK (dGN 2))
    (dSeq (dFor (dSeqI (dCall (sp_order_of C_GoesRound) (dCons (dVar 1) dNil))) (dGN 3)
      (dPut (dVar 2) (dVar 3) (dFz (dLc (dSeqI (dVar 1)) (dGTup 2 (dGCons (dGN 4) (dGCons (dGN 5) dGNil))) (dTest (dOp (dEq false) (dVar 4) (dVar 3))) (dCall (sp_put_for 5) (dCons (dVar 5) (dCons (dVar 2) dNil))) [4, 5]))))
    (dRet (dCall (sp_put_for 5) (dCons (dVar 0) (dCons (dVar 2) dNil))))))
abbrev N_unfolded : List Str := ["pattern", "rules", "meant", "word", "head", "one"]
theorem r_ways_for (k : Nat) (ds S Q E) (h : sp_ways_for k ds S Q E) : t_ways_for (prevSp sp_ways_for k) (dEnd Q E) (dstart N_ways_for ds) S := by
  obtain ⟨m, b, w, kv, d, rfl, hm, ok, hd, hw, hs, hn, h⟩ := h
  have hl := ok.len
  unfold t_ways_for
  refine dSeqIf_gen fun A1 B1 R hA hB hR => ?_
  simp [-prevSp, dstart]
  by_cases c : w = "*"
  · obtain ⟨k1, hmK, hk⟩ := hs c
    obtain ⟨k, rfl⟩ : ∃ j, k = j + 1 := ⟨k - 1, by omega⟩
    rw [if_pos c]
    subst hA
    refine dSeq_gen fun R1 hR1 => ?_
    simp [-prevSp]
    intro l hl0
    have ml : m ≠ l := fun z => by rw [← z, hmK] at hl0; cases hl0
    subst hR1
    refine dSeqLock_gen m (.dK (mtL kv)) (.fK (mtL kv)) (by rw [upo_ne ml]; exact hmK) rfl ?_
    refine dFor_gen fun B hB => ?_
    simp [mt_keys]
    have ek : List.map (D.str ∘ fun x : Str × List Pt => x.1) kv = strsD (kv.map (·.1)) := by simp [strsD]
    rw [ek]
    have wB : okS (if b = true then Str.ofString "on" else Str.ofString "back") := by
      obtain ⟨_, _, _, _, o5, o6, _⟩ := okS_lit
      cases b <;> assumption
    have step1 : ptD (.step b w) = D.tup [.str "step", .str (if b = true then Str.ofString "on" else Str.ofString "back"), .str w] := by simp [ptD]
    refine loop_inv (fun i τ S' => ∃ (ps : List Pt) (x4 : Option D), τ = [some (.ref m), some (.str (if b = true then Str.ofString "on" else Str.ofString "back")), some (.str w), some (.ref l), x4, none] ∧ S' = upo (upo S l (.lst (ptDs ps))) m (.fK (mtL kv)) ∧
      ps.length ≤ 1 + 4 * i ∧ ∀ p ∈ ps, p.deep ≤ max d 1 ∧ ∀ q ∈ p.all, q.kids.length ≤ 200) ⟨[.step b w], none, rfl, by simp [ptDs, step1], by simp, fun p hp => ?_⟩ (fun _ _ _ _ _ => trivial) ?_ ?_
    · rw [List.mem_singleton.mp hp]
      refine ⟨by simp [Pt.deep]; omega, fun q hq => ?_⟩
      rw [List.mem_singleton.mp (show q ∈ [Pt.step b w] from hq)]
      simp [Pt.kids]
    · rintro i d' τ S1 N hd' ⟨ps, x4, rfl, rfl, pl, pd⟩ hN
      have hi : i < kv.length := by
        have := (List.getElem?_eq_some_iff.mp hd').1
        simpa [strsD] using this
      obtain rfl : d' = .str kv[i].1 := by simp [strsD, hi] at hd'; exact hd'.symm
      have hx := hk _ (List.getElem_mem hi)
      have hxs := nm_star hx
      subst hB
      simp [prevSp, upo_ne ml.symm]
      refine ⟨m, b, kv[i].1, kv, d, rfl, .inr (by simp), ok, hd, nm_ok hx, fun z => absurd z hxs, fun _ => mt_key (List.mem_map.mpr ⟨_, List.getElem_mem hi, rfl⟩), fun qs q4 _ qd => ?_⟩
      have q4 := q4 hxs
      simp [upo_ne ml.symm]
      refine ⟨by rw [ptDs_len, ptDs_len]; omega, ?_⟩
      rw [upo_comm ml, upo_upo]
      refine hN _ _ ⟨ps ++ qs, _, rfl, by rw [ptDs_app], by rw [List.length_append]; omega, fun p hp => ?_⟩
      rcases List.mem_append.mp hp with hp | hp
      · exact pd p hp
      · exact qd p hp
    · rintro τ S1 ⟨ps, x4, rfl, rfl, pl, pd⟩
      have e1 : (strsD (kv.map (·.1))).length = kv.length := by simp [strsD]
      rw [e1] at pl
      have e2 : upo (upo S l (.lst (ptDs ps))) m (.dK (mtL kv)) = upo S l (.lst (ptDs ps)) := upo_id (by rw [upo_ne ml]; exact hmK)
      simp [e2]
      exact .rol (by simp) hl0 (Sub.new hl0) (h ps (fun z => absurd c z) (by omega) pd)
  · rw [if_neg c]
    subst hB
    simp
    subst hR
    obtain ⟨v, hv⟩ := Option.isSome_iff_exists.mp (hn c)
    obtain ⟨ps, hp, rfl⟩ := lk_mt hv
    have hps := ok.e _ hp
    have fin : ∀ qs : List Pt, qs.length = ps.length → (∀ p ∈ qs, p.deep ≤ d ∧ ∀ q ∈ p.all, q.kids.length ≤ 200) → Q (.rol (ptDs qs)) S := fun qs ql qd => h qs (fun _ => by have := hps.1; dsimp only at this; omega) (by have := hps.1; dsimp only at this; omega) fun p hp => ⟨by have := (qd p hp).1; omega, (qd p hp).2⟩
    cases b
    · rcases hm with hm | hm
      all_goals
        simp [hm, hv]
        refine wf_lc (L := ps) (d := d) (by simp) hps.1 hd hps.2 ?_
        exact .same (fin _ (by simp) fun p hp => by
          obtain ⟨r, hr, rfl⟩ := List.mem_map.mp hp
          exact ⟨by rw [bk_deep]; exact (hps.2 r hr).1, bk_few (hps.2 r hr).2⟩)
    · rcases hm with hm | hm
      all_goals
        simp [hm, hv]
        exact .same (fin ps rfl hps.2)
theorem pf_lc {k d : Nat} {L : List Pt} {m : Addr} {kv : List (Str × List Pt)} {x0 : Option D} {S : DH} {Q : DK} (hm : S m = some (.dK (mtL kv))) (ok : OkMt d kv) (hd : d ≤ 21) (hk : ∀ e ∈ kv, Nm e.1) (hl : L.length ≤ 200) (k10 : k ≤ 10) (h0 : ∀ q ∈ L, q.okP Nm ∧ q.deep ≤ k ∧ ∀ r ∈ q.all, r.kids.length ≤ 200)
    (h : ∀ L' : List Pt, L'.length = L.length → (∀ i (h1 : i < L'.length) (h2 : i < L.length), L'[i].deep ≤ L[i].deep + max d 1 ∧ ∀ r ∈ L'[i].all, r.kids.length ≤ 200) → Q (.rol (ptDs L')) S) :
    newO S (.lst []) fun p S1 => dLcL (dGN 2) dYes (dCall (prevSp sp_put_for k) (dCons (dVar 2) (dCons (dVar 1) dNil))) DW0 [x0, some (.ref m), none] (fun _ => True) p (fzK Q (.ref p)) (ptDs L) S1 := by
  refine lcF_inv (fun i acc S1 => ∃ L' : List Pt, acc = ptDs L' ∧ S1 = S ∧ L'.length = i ∧ ∀ j (h1 : j < L'.length) (h2 : j < L.length), L'[j].deep ≤ L[j].deep + max d 1 ∧ ∀ r ∈ L'[j].all, r.kids.length ≤ 200) ⟨[], rfl, rfl, rfl, fun j h1 => by simp at h1⟩ (fun _ _ _ _ _ _ _ => trivial) ?_ (by rw [ptDs_len]; exact Nat.lt_of_le_of_lt hl (by decide)) ?_
  · rintro i d' acc S1 q N hd' ⟨L', rfl, rfl, e, g⟩ hq ha hN
    have hi : i < L.length := by
      have := (List.getElem?_eq_some_iff.mp hd').1
      rwa [ptDs_len] at this
    rw [ptDs_at hi] at hd'
    cases hd'
    have hx := h0 _ (List.getElem_mem hi)
    have lp : 1 ≤ L[i].deep := by cases L[i] <;> simp [Pt.deep]
    obtain ⟨k, rfl⟩ : ∃ j, k = j + 1 := ⟨k - 1, by have := hx.2.1; omega⟩
    have mq : m ≠ q := fun z => by rw [← z, hm] at hq; cases hq
    simp [prevSp]
    refine ⟨m, L[i], kv, d, rfl, by rw [upo_ne mq]; exact hm, ok, hd, hk, hx.1, hx.2.1, by omega, hx.2.2, fun p' p1 p2 => ?_⟩
    simp
    refine ⟨by simpa using ha, ?_⟩
    have := hN (ptDs (L' ++ [p'])) _ hq ⟨L' ++ [p'], rfl, rfl, by simp [e], fun j h1 h2 => ?_⟩ (by rw [ptDs_app]; simp [ptDs])
    · rw [ptDs_app] at this
      simpa [ptDs] using this
    · by_cases cj : j < L'.length
      · rw [List.getElem_append_left cj]
        exact g j cj h2
      · have ej : j = i := by simp at h1; omega
        subst ej
        rw [List.getElem_append_right (by omega)]
        simp only [e, Nat.sub_self, List.getElem_cons_zero]
        exact ⟨p1, p2⟩
  · rintro acc S1 ⟨L', rfl, rfl, e, g⟩
    rw [ptDs_len] at e
    exact h L' e g
theorem deeps_by {L L' : List Pt} {n : Nat} (e : L'.length = L.length) (g : ∀ i (h1 : i < L'.length) (h2 : i < L.length), L'[i].deep ≤ L[i].deep + n) : Pt.deeps L' ≤ Pt.deeps L + n := Sh.deeps_le fun p hp => by
  obtain ⟨i, hi, rfl⟩ := List.mem_iff_getElem.mp hp
  have h1 := g i hi (by omega)
  have h2 := Rc.deeps_mem (List.getElem_mem (show i < L.length by omega))
  omega
theorem few_seq {b : Bool} {ps : List Pt} (hl : ps.length ≤ 200) (h : ∀ p ∈ ps, ∀ q ∈ p.all, q.kids.length ≤ 200) : ∀ q ∈ (Pt.seq b ps).all, q.kids.length ≤ 200 := fun q hq => by
  rw [Pt.all_seq, Pt.alls_flat] at hq
  rcases List.mem_cons.mp hq with rfl | hq
  · exact hl
  · obtain ⟨p, hp, hq⟩ := List.mem_flatMap.mp hq
    exact h p hp q hq
theorem r_put_for (k : Nat) (ds S Q E) (h : sp_put_for k ds S Q E) : t_put_for (prevSp sp_put_for k) (dEnd Q E) (dstart N_put_for ds) S := by
  obtain ⟨m, p, kv, d, rfl, hm, ok, hd, hk, ho, hdp, k10, hf, h⟩ := h
  have hself : Q (ptD p) S := h p (by omega) hf
  unfold t_put_for
  refine dSeqIf_gen fun A1 B1 R hA hB hR => ?_
  cases p with
  | stay =>
    simp [-prevSp, dstart, ptD]
    subst hB
    simp
    subst hR
    simp [-prevSp, inF]
    exact .same hself
  | mark b w =>
    cases b
    all_goals
      simp [-prevSp, dstart, ptD]
      subst hB
      simp
      subst hR
      simp [-prevSp, inF]
      exact .same hself
  | step b w =>
    have hw : okS w := by
      rcases ho _ (Pt.self_all _) with rfl | h
      · exact okS_star
      · exact nm_ok h
    have call : (w = "*" ∨ (lk (mtL kv) (.inr w)).isSome) → ∀ (Q' : DK) (E' : DXK), (∀ ps : List Pt, ps.length ≤ 20 → (∀ p ∈ ps, p.deep ≤ max d 1 ∧ ∀ q ∈ p.all, q.kids.length ≤ 200) → Q' (.rol (ptDs ps)) S) →
        sp_ways_for 1 [.ref m, .str (if b then "on" else "back"), .str w] S Q' E' := fun hc Q' E' hQ => ⟨m, b, w, kv, d, rfl, .inl hm, ok, hd, hw, fun _ => ⟨Nat.le_refl _, hm, hk⟩, fun n => hc.resolve_left n, fun ps _ a b => hQ ps a b⟩
    have fin : ∀ ps : List Pt, ps.length ≤ 20 → (∀ p ∈ ps, p.deep ≤ max d 1 ∧ ∀ q ∈ p.all, q.kids.length ≤ 200) → Rt Q (.tup [.str (Str.ofString "either"), .tup (ptDs ps)]) S := fun ps a c => by
      have := h (.seq false ps) (by
        rw [Pt.deep_seq]
        have := Sh.deeps_le (b := max d 1) fun p hp => (c p hp).1
        simp [Pt.deep]
        omega) (few_seq (by omega) fun p hp => (c p hp).2)
      simp [ptD] at this
      exact .same this
    have bad : w ≠ "*" → (lk (mtL kv) (.inr w)).isSome = false → True := fun _ _ => trivial
    cases b
    all_goals
      simp [-prevSp, dstart, ptD]
      by_cases c : w = "*"
      · simp [c]
        subst hA
        simp [-prevSp, ptD]
        subst c
        refine call (.inl rfl) _ _ fun ps a e => ?_
        simp
        exact fin ps a e
      · simp [c, hm]
        by_cases c2 : (lk (mtL kv) (.inr w)).isSome
        · simp [c2]
          subst hA
          simp [-prevSp, ptD]
          refine call (.inr c2) _ _ fun ps a e => ?_
          simp
          exact fin ps a e
        · simp [c2]
          subst hB
          simp
          subst hR
          simp [-prevSp, inF, ptD]
          exact .same (by simpa [ptD] using hself)
  | many q =>
    have oq : q.okP Nm := fun r hr => ho r (by rw [Pt.all_many]; exact List.mem_cons_of_mem _ hr)
    have fq : ∀ r ∈ q.all, r.kids.length ≤ 200 := fun r hr => hf r (by rw [Pt.all_many]; exact List.mem_cons_of_mem _ hr)
    rw [Pt.deep_many] at hdp
    have lp : 1 ≤ q.deep := by cases q <;> simp [Pt.deep]
    obtain ⟨k, rfl⟩ : ∃ j, k = j + 1 := ⟨k - 1, by omega⟩
    simp [-prevSp, dstart, ptD]
    subst hB
    simp
    subst hR
    simp [prevSp]
    refine ⟨m, q, kv, d, rfl, hm, ok, hd, hk, oq, by omega, by omega, fq, fun p' p1 p2 => ?_⟩
    simp
    have := h (.many p') (by rw [Pt.deep_many, Pt.deep_many]; omega) fun r hr => by
      rw [Pt.all_many] at hr
      rcases List.mem_cons.mp hr with rfl | hr
      · simp [Pt.kids]
      · exact p2 r hr
    simp [ptD] at this
    exact .same this
  | seq b ps =>
    have hps : ∀ q ∈ ps, q ∈ (Pt.seq b ps).all ∧ ∀ r ∈ q.all, r ∈ (Pt.seq b ps).all := fun q hq => by
      rw [Pt.all_seq, Pt.alls_flat]
      exact ⟨List.mem_cons_of_mem _ (List.mem_flatMap.mpr ⟨q, hq, Pt.self_all q⟩), fun r hr => List.mem_cons_of_mem _ (List.mem_flatMap.mpr ⟨q, hq, hr⟩)⟩
    have hl : ps.length ≤ 200 := hf _ (Pt.self_all _)
    rw [Pt.deep_seq] at hdp
    have fin : ∀ L' : List Pt, L'.length = ps.length → (∀ i (h1 : i < L'.length) (h2 : i < ps.length), L'[i].deep ≤ ps[i].deep + max d 1 ∧ ∀ r ∈ L'[i].all, r.kids.length ≤ 200) → Q (ptD (.seq b L')) S := fun L' e g => h _ (by
      rw [Pt.deep_seq, Pt.deep_seq]
      have := deeps_by e fun i h1 h2 => (g i h1 h2).1
      omega) (few_seq (by omega) fun p hp => by
        obtain ⟨i, hi, rfl⟩ := List.mem_iff_getElem.mp hp
        exact (g i hi (by omega)).2)
    cases b
    all_goals
      simp [-prevSp, dstart, ptD]
      subst hB
      simp
      subst hR
      simp [-prevSp, inF]
      refine pf_lc (d := d) hm ok hd hk hl k10 (fun q hq => ⟨fun r hr => ho r ((hps q hq).2 r hr), by have := Rc.deeps_mem hq; omega, fun r hr => hf r ((hps q hq).2 r hr)⟩) fun L' e g => ?_
      simp
      have := fin L' e g
      simp [ptD] at this
      exact .same this
theorem un_lc {R : Rl} {w : Str} {d : Nat} {m : Addr} {kv : List (Str × List Pt)} {x0 : Option D} {S : DH} {Q : DK} (okR : OkR R) (hf : ∀ r ∈ R, ∀ q ∈ r.2.all, q.kids.length ≤ 200) (hm : S m = some (.dK (mtL kv))) (ok : OkMt d kv) (hd : d ≤ 21) (hk : ∀ e ∈ kv, Nm e.1)
    (h : ∀ L : List Pt, L.length ≤ 4 → (∀ p ∈ L, p.deep ≤ 5 + max d 1 ∧ ∀ r ∈ p.all, r.kids.length ≤ 200) → Q (.rol (ptDs L)) S) :
    newO S (.lst []) fun p S1 => dLcL (dGTup 2 (dGCons (dGN 4) (dGCons (dGN 5) dGNil))) (dTest (dOp (dEq false) (dVar 4) (dVar 3))) (dCall (sp_put_for 5) (dCons (dVar 5) (dCons (dVar 2) dNil))) DW0 [x0, some (.rol (rulD R)), some (.ref m), some (.str w), none, none] (fun _ => True) p (fzK Q (.ref p)) (rulD R) S1 := by
  have hlen := okR.len
  refine lcF_inv (fun i acc S1 => ∃ L : List Pt, acc = ptDs L ∧ S1 = S ∧ L.length ≤ i ∧ ∀ p ∈ L, p.deep ≤ 5 + max d 1 ∧ ∀ r ∈ p.all, r.kids.length ≤ 200) ⟨[], rfl, rfl, Nat.le_refl _, fun p h => nomatch h⟩ (fun _ _ _ _ _ _ _ => trivial) ?_ (by simp [rulD]; omega) ?_
  · rintro i d' acc S1 q N hd' ⟨L, rfl, rfl, e, g⟩ hq ha hN
    obtain ⟨hi, rfl⟩ := rul_at hd'
    have hr := okR.r _ (List.getElem_mem hi)
    have mq : m ≠ q := fun z => by rw [← z, hm] at hq; cases hq
    simp
    by_cases c : R[i].1 = w
    · simp [c]
      refine ⟨m, R[i].2, kv, d, rfl, by rw [upo_ne mq]; exact hm, ok, hd, hk, hr.2.1, by omega, by decide, hf _ (List.getElem_mem hi), fun p' p1 p2 => ?_⟩
      simp
      refine ⟨by simpa using ha, ?_⟩
      have := hN (ptDs (L ++ [p'])) _ hq ⟨L ++ [p'], rfl, rfl, by simp; omega, fun p hp => ?_⟩ (by rw [ptDs_app]; simp [ptDs])
      · rw [ptDs_app] at this
        simpa [ptDs] using this
      · rcases List.mem_append.mp hp with hp | hp
        · exact g p hp
        · rw [List.mem_singleton.mp hp]
          exact ⟨by omega, p2⟩
    · simp [c]
      exact hN _ _ hq ⟨L, rfl, rfl, by omega, g⟩ (by simp)
  · rintro acc S1 ⟨L, rfl, rfl, e, g⟩
    have e1 : (rulD R).length = R.length := by simp [rulD]
    exact h L (by omega) g
theorem r_unfolded {CG : Addr} (ds S Q E) (h : sp_unfolded CG ds S Q E) : t_unfolded CG (dEnd Q E) (dstart N_unfolded ds) S := by
  obtain ⟨R, p, rfl, okR, ho, hdp, hf, hfR, h, hx⟩ := h
  unfold t_unfolded
  refine dSeq_gen fun R1 hR => ?_
  simp [dstart]
  intro m hm
  subst hR
  refine dSeqFor_gen fun B R1 hB hR => ?_
  simp
  refine ⟨R, rfl, okR, fun od g f => ?_, fun rg r => ⟨S, Sub.new hm, hx rg r⟩⟩
  have odl : od.length ≤ 4 := Nat.le_trans (nodup_len7 g.nd g.sub) okR.hl
  simp
  refine loop_inv (fun i τ S' => ∃ (kv : List (Str × List Pt)) (x3 x4 x5 : Option D), τ = [some (ptD p), some (.rol (rulD R)), some (.ref m), x3, none, none] ∧ S' = upo S m (.dK (mtL kv)) ∧ OkMt (1 + 5 * i) kv ∧ kv.map (·.1) = od.take i) ⟨[], none, none, none, rfl, rfl, ⟨by simp, fun _ h => nomatch h⟩, rfl⟩ (fun _ _ _ _ _ => trivial) ?_ ?_
  · rintro i d' τ S1 N hd' ⟨kv, x3, x4, x5, rfl, rfl, ok, ek⟩ hN
    have hi : i < od.length := by
      have := (List.getElem?_eq_some_iff.mp hd').1
      simpa [strsD] using this
    obtain rfl : d' = .str od[i] := by simp [strsD, hi] at hd'; exact hd'.symm
    have kl : kv.length = i := by
      have := congrArg List.length ek
      rw [List.length_map, List.length_take] at this
      omega
    have hk : ∀ e ∈ kv, Nm e.1 := fun e he => okR.nm (g.sub _ (List.mem_of_mem_take (ek ▸ List.mem_map.mpr ⟨e, he, rfl⟩)))
    have hno : lk (mtL kv) (.inr od[i]) = none := by
      cases e : lk (mtL kv) (.inr od[i]) with
      | none => rfl
      | some v =>
        obtain ⟨ps, h1, _⟩ := lk_mt e
        have h2 : od[i] ∈ od.take i := ek ▸ List.mem_map.mpr ⟨_, h1, rfl⟩
        obtain ⟨j, hj, e2⟩ := List.mem_iff_getElem.mp h2
        rw [List.getElem_take] at e2
        simp at hj
        have := (List.getElem_inj g.nd).mp e2
        omega
    subst hB
    simp
    refine un_lc (d := 1 + 5 * i) okR hfR (by simp) ok (by omega) hk fun L L4 LL => ?_
    have e2 : pt (mtL kv) (.inr od[i]) (.rol (ptDs L)) = mtL (kv ++ [(od[i], L)]) := by
      unfold pt
      rw [hno]
      simp [mtL]
    have hl2 : (mtL kv).length < 16777216 := by simp [mtL]; omega
    simp [hl2, e2]
    refine hN _ _ ⟨kv ++ [(od[i], L)], _, none, none, rfl, rfl, ⟨by rw [List.length_append, List.length_singleton]; omega, fun e he => ?_⟩, ?_⟩
    · rcases List.mem_append.mp he with he | he
      · have := ok.e e he
        exact ⟨this.1, fun p hp => ⟨by have := (this.2 p hp).1; omega, (this.2 p hp).2⟩⟩
      · rw [List.mem_singleton.mp he]
        exact ⟨L4, fun p hp => ⟨by have := (LL p hp).1; omega, (LL p hp).2⟩⟩
    · rw [List.map_append, ek, List.take_succ, List.getElem?_eq_getElem hi]
      rfl
  · rintro τ S1 ⟨kv, x3, x4, x5, rfl, rfl, ok, ek⟩
    have e1 : (strsD od).length = od.length := by simp [strsD]
    rw [e1] at ok ek
    have hk : ∀ e ∈ kv, Nm e.1 := fun e he => okR.nm (g.sub _ (List.mem_of_mem_take (ek ▸ List.mem_map.mpr ⟨e, he, rfl⟩)))
    subst hR
    simp
    refine ⟨m, p, kv, 1 + 5 * od.length, rfl, by simp, ok, by omega, hk, ho, by omega, by decide, hf, fun p' _ _ => ?_⟩
    exact .keep (S := S) (Sub.new hm) (h od g f p')
end L67
set_option maxRecDepth 100000
set_option maxHeartbeats 4000000
namespace L67
open PySem PySem.Spec L2
open L63
open Rc
open Sh hiding N_l_feed N_l_leaf N_l_names N_l_pattern deeps_le deeps_mem r_l_feed r_l_leaf r_l_names r_l_pattern sp_l_leaf sp_l_leaf_mono sp_l_names sp_l_names_mono sp_l_pattern sp_l_pattern_mono t_l_feed t_l_leaf t_l_names t_l_pattern
open Dt hiding nkeys sp_l_feed sp_l_feed_mono
/-! K67t: the law's own parts. -/
noncomputable def ledL (R : Rl) : List (Key × D) := (HR R).map fun w => (.inr w, .rol (strsD (led R w)))
theorem lk_led {R : Rl} {w : Str} (h : w ∈ HR R) : lk (ledL R) (.inr w) = some (.rol (strsD (led R w))) := by
  unfold ledL
  generalize HR R = l at h
  induction l with
  | nil => cases h
  | cons a l ih =>
    show (if (.inr a : Key) = .inr w then some (D.rol (strsD (led R a))) else lk (l.map fun w => ((.inr w : Key), D.rol (strsD (led R w)))) (.inr w)) = _
    by_cases e : a = w
    · subst e; simp
    · rw [if_neg (by simpa using e)]
      exact ih ((List.mem_cons.mp h).resolve_left (Ne.symm e))
theorem led_keys (R : Rl) : (ledL R).map (fun q => keyD q.1) = strsD (HR R) := by simp [ledL, strsD, keyD]
def sp_l_words_in (k : Nat) : DSp := fun ds S Q _ => ∃ p : Pt, ds = [ptD p] ∧ p.deep ≤ k + 1 ∧ p.all.length ≤ 1000 ∧ Q (.rol (strsD (sw p))) S
theorem sp_l_words_in_mono (k : Nat) : SpMono (sp_l_words_in k) := fun ds S Q Q' E E' kk _ ⟨d, h1, h2, h3, h⟩ => ⟨d, h1, h2, h3, kk _ _ h⟩
def sp_l_led : DSp := fun ds S Q _ => ∃ (R : Rl) (d : D), ds = [d] ∧ seqD S d = some (rulD R) ∧ OkR R ∧ ∀ p, S p = none → Q (.ref p) (upo S p (.dK (ledL R)))
theorem sp_l_led_mono : SpMono sp_l_led := fun ds S Q Q' E E' kk _ ⟨R, d, h1, h2, h3, h⟩ => ⟨R, d, h1, h2, h3, fun p hp => kk _ _ (h p hp)⟩
def sp_l_goes_round : DSp := fun ds S Q _ => ∃ (R : Rl) (p : Addr), ds = [.ref p] ∧ OkR R ∧ S p = some (.dK (ledL R)) ∧ ∀ b : Bool, (∀ rg, Ring R rg → b = true) → (∀ od, Good R od → (∀ x ∈ HR R, x ∈ od) → b = false) → Q (.bl b) S
theorem sp_l_goes_round_mono : SpMono sp_l_goes_round := fun ds S Q Q' E E' kk _ ⟨R, p, h1, h2, h3, h⟩ => ⟨R, p, h1, h2, h3, fun b a c => kk _ _ (h b a c)⟩
def sp_l_ring : DSp := fun ds S Q _ => ∃ (R : Rl) (p : Addr) (rg : List Str), ds = [.ref p, .rol (strsD rg)] ∧ OkR R ∧ S p = some (.dK (ledL R)) ∧ Ring R rg ∧ Q (.bl true) S
theorem sp_l_ring_mono : SpMono sp_l_ring := fun ds S Q Q' E E' kk _ ⟨R, p, rg, h1, h2, h3, h4, h⟩ => ⟨R, p, rg, h1, h2, h3, h4, kk _ _ h⟩
def t_l_goes_round : DTS := (dSeq (dAsg (dCB cListAF (dCons (dVar 0) dNil)) (dGN 1))
    (dSeq (dAsg (dC (.bl true)) (dGN 2))
    (dSeq (dWhile (dTest (dVar 2))
      (dSeq (dAsg (dC (.bl false)) (dGN 2))
    (dFor (dSeqI (dVar 1)) (dGN 3)
      (dIf (dTest (dOp (dEq false) (dFz (dLc (dSeqI (dOp dIxS (dVar 0) (dVar 3))) (dGN 4) (dTest (dOp (dIn false) (dVar 4) (dVar 1))) (dVar 4) [4])) (dLstF dNil)))
      (dSeq (dAsg (dFz (dLc (dSeqI (dVar 1)) (dGN 4) (dTest (dOp (dEq true) (dVar 4) (dVar 3))) (dVar 4) [4])) (dGN 1))
    (dAsg (dC (.bl true)) (dGN 2)))
      dNx))))
    (dRet (dOp (dEq true) (dVar 1) (dLstF dNil))))))
abbrev N_l_goes_round : List Str := ["_law_led_here", "_law_left", "_law_again", "_law_word", "_law_one"]
def t_l_ring : DTS := (dSeq (dIf (dOr (dNot (dTest (dIsi "list" (dVar 1)))) (dOr (dTest (dOp (dEq false) (dVar 1) (dLstF dNil))) (dTest (dOp (dEq true) (dLenSet (dVar 1)) (dCB cLen (dCons (dVar 1) dNil))))))
      (dRet (dC (.bl false)))
      dNx)
    (dSeq (dIf (dTest (dOp (dEq true) (dFz (dLc (dSeqI (dVar 1)) (dGN 2) (dTest (dOp (dIn true) (dVar 2) (dVar 0))) (dVar 2) [2])) (dLstF dNil)))
      (dRet (dC (.bl false)))
      dNx)
    (dRet (dOp (dIn true) (dC (.bl false)) (dFz (dLc (dRng1 (dCons (dCB cLen (dCons (dVar 1) dNil)) dNil)) (dGN 3) dYes (dOp (dIn false) (dOp dIxS (dVar 1) (dOp rMod (dOp dAddF (dVar 3) (dC (.int 1))) (dCB cLen (dCons (dVar 1) dNil)))) (dOp dIxS (dVar 0) (dOp dIxS (dVar 1) (dVar 3)))) [3]))))))
abbrev N_l_ring : List Str := ["_law_led_here", "_law_ring_here", "_law_word", "_law_k"]
def t_l_words_in (spR : DSp) : DTS := (dSeq (dIf (dTest (dOp (dEq false) (dOp dIxS (dVar 0) (dC (.int 0))) (dC (.str "step"))))
      (dRet (dLstF (dCons (dOp dIxS (dVar 0) (dC (.int 2))) dNil)))
      dNx)
    (dSeq (dAsg (dLstF dNil) (dGN 1))
    (dSeq (dIf (dTest (dOp (dEq false) (dOp dIxS (dVar 0) (dC (.int 0))) (dC (.str "many"))))
      (dRet (dCall spR (dCons (dOp dIxS (dVar 0) (dC (.int 1))) dNil)))
      dNx)
    (dSeq (dIf (dTest (dOp (dIn false) (dOp dIxS (dVar 0) (dC (.int 0))) (dTup (dCons (dC (.str "then")) (dCons (dC (.str "either")) dNil)))))
      (dFor (dSeqI (dOp dIxS (dVar 0) (dC (.int 1)))) (dGN 2)
      (dAsg (dOp dAddF (dVar 1) (dCall spR (dCons (dVar 2) dNil))) (dGN 1)))
      dNx)
    (dRet (dVar 1))))))
abbrev N_l_words_in : List Str := ["_law_pattern_here", "_law_found", "_law_one"]
def t_l_led : DTS := (dSeq (dAsg (dSortSetAF (dFz (dLc (dSeqI (dVar 0)) (dGN 7) dYes (dOp dIxS (dVar 7) (dC (.int 0))) [7]))) (dGN 1))
    (dSeq (dAsg dDnK (dGN 2))
    (dSeq (dFor (dSeqI (dVar 1)) (dGN 3)
      (dSeq (dAsg (dLstF dNil) (dGN 4))
    (dSeq (dFor (dSeqI (dVar 0)) (dGTup 2 (dGCons (dGN 5) (dGCons (dGN 6) dGNil)))
      (dIf (dTest (dOp (dEq false) (dVar 5) (dVar 3)))
      (dAsg (dOp dAddF (dVar 4) (dCall (sp_l_words_in 5) (dCons (dVar 6) dNil))) (dGN 4))
      dNx))
    (dPut (dVar 2) (dVar 3) (dFz (dLc (dSeqI (dVar 1)) (dGN 8) (dOr (dTest (dOp (dIn false) (dVar 8) (dVar 4))) (dTest (dOp (dIn false) (dC (.str "*")) (dVar 4)))) (dVar 8) [8]))))))
    (dRet (dVar 2)))))
abbrev N_l_led : List Str := ["_law_rules", "_law_heads", "_law_led_here", "_law_word", "_law_some", "_law_head", "_law_pattern_here", "_law_rule", "_law_one"]
theorem r_l_words_in (k : Nat) (ds S Q E) (h : sp_l_words_in k ds S Q E) : t_l_words_in (prevSp sp_l_words_in k) (dEnd Q E) (dstart N_l_words_in ds) S := by
  obtain ⟨p, rfl, hd, ha, h⟩ := h
  unfold t_l_words_in
  have lp : 1 ≤ p.deep := by cases p <;> simp [Pt.deep]
  cases p with
  | step b w => cases b <;> (simp [dstart, ptD]; exact .same h)
  | stay => simp [-prevSp, dstart, ptD, inF]; exact .same h
  | mark b w => cases b <;> (simp [-prevSp, dstart, ptD, inF]; exact .same h)
  | many q =>
    rw [Pt.deep_many] at hd
    rw [Pt.all_many, List.length_cons] at ha
    rw [sw_many] at h
    have lq : 1 ≤ q.deep := by cases q <;> simp [Pt.deep]
    obtain ⟨k, rfl⟩ : ∃ j, k = j + 1 := ⟨k - 1, by omega⟩
    simp [dstart, ptD]
    exact ⟨q, rfl, by omega, by omega, .same h⟩
  | seq b ps =>
    rw [Pt.deep_seq] at hd
    have hlen : (sw (.seq b ps)).length ≤ 1000 := Nat.le_trans (sw_len _) ha
    rw [Pt.all_seq, Pt.alls_flat, List.length_cons] at ha
    rw [sw_seq] at h hlen
    refine dSeqIf_gen fun A1 B1 R hA hB hR => ?_
    cases b
    all_goals
      simp [-prevSp, dstart, ptD]
      subst hB
      simp
      subst hR
      refine dSeq_gen fun R hR => ?_
      simp
      subst hR
      refine dSeqIf_gen fun A1 B1 R hA hB hR => ?_
      simp [-prevSp, ptD]
      subst hB
      simp
      subst hR
      refine dSeqIf_gen fun A1 B1 R hA hB hR => ?_
      simp [-prevSp, ptD, inF]
      subst hA
      refine dFor_gen fun B hB => ?_
      simp [ptD]
    · refine loop_inv (fun i τ S' => ∃ x2 : Option D, τ = [some (ptD (.seq false ps)), some (.rol (strsD ((ps.take i).flatMap sw))), x2] ∧ S' = S) ⟨none, by simp [ptD, strsD], rfl⟩ (fun _ _ _ _ _ => trivial) ?_ ?_
      · rintro i d τ S1 N hd' ⟨x2, rfl, rfl⟩ hN
        have hi : i < ps.length := by
          have h1 := (List.getElem?_eq_some_iff.mp hd').1
          rwa [ptDs_len] at h1
        rw [ptDs_at hi] at hd'
        cases hd'
        have q1 := Rc.deeps_mem (List.getElem_mem hi)
        have q2 : ps[i].all.length ≤ (ps.flatMap Pt.all).length := by
          obtain ⟨a, c, e⟩ := List.append_of_mem (List.getElem_mem hi)
          conv => rhs; rw [e]
          simp
          omega
        have tk : (ps.take (i + 1)).flatMap sw = (ps.take i).flatMap sw ++ sw ps[i] := by
          rw [List.take_succ, List.getElem?_eq_getElem hi, List.flatMap_append]
          simp
        have hle : ((ps.take (i + 1)).flatMap sw).length ≤ (ps.flatMap sw).length := by
          conv => rhs; rw [← List.take_append_drop (i + 1) ps, List.flatMap_append, List.length_append]
          omega
        have lq : 1 ≤ ps[i].deep := by cases ps[i] <;> simp [Pt.deep]
        obtain ⟨k, rfl⟩ : ∃ j, k = j + 1 := ⟨k - 1, by omega⟩
        rw [tk, List.length_append] at hle
        have hN' := hN [some (ptD (.seq false ps)), some (.rol (strsD ((ps.take i).flatMap sw ++ sw ps[i]))), some (ptD ps[i])] S1 ⟨_, by rw [tk], rfl⟩
        clear hN tk
        generalize (ps.take i).flatMap sw = A at hN' hle ⊢
        have e1 : (strsD A).length = A.length := by simp [strsD]
        have e2 : (strsD (sw ps[i])).length = (sw ps[i]).length := by simp [strsD]
        subst hB
        simp [prevSp, catD]
        refine ⟨ps[i], rfl, by omega, by omega, ?_⟩
        refine ⟨by omega, ?_⟩
        simpa [strsD, ptD] using hN'
      · rintro τ S1 ⟨x2, rfl, rfl⟩
        rw [ptDs_len, List.take_length]
        subst hR
        simp
        exact .same h
    · refine loop_inv (fun i τ S' => ∃ x2 : Option D, τ = [some (ptD (.seq true ps)), some (.rol (strsD ((ps.take i).flatMap sw))), x2] ∧ S' = S) ⟨none, by simp [ptD, strsD], rfl⟩ (fun _ _ _ _ _ => trivial) ?_ ?_
      · rintro i d τ S1 N hd' ⟨x2, rfl, rfl⟩ hN
        have hi : i < ps.length := by
          have h1 := (List.getElem?_eq_some_iff.mp hd').1
          rwa [ptDs_len] at h1
        rw [ptDs_at hi] at hd'
        cases hd'
        have q1 := Rc.deeps_mem (List.getElem_mem hi)
        have q2 : ps[i].all.length ≤ (ps.flatMap Pt.all).length := by
          obtain ⟨a, c, e⟩ := List.append_of_mem (List.getElem_mem hi)
          conv => rhs; rw [e]
          simp
          omega
        have tk : (ps.take (i + 1)).flatMap sw = (ps.take i).flatMap sw ++ sw ps[i] := by
          rw [List.take_succ, List.getElem?_eq_getElem hi, List.flatMap_append]
          simp
        have hle : ((ps.take (i + 1)).flatMap sw).length ≤ (ps.flatMap sw).length := by
          conv => rhs; rw [← List.take_append_drop (i + 1) ps, List.flatMap_append, List.length_append]
          omega
        have lq : 1 ≤ ps[i].deep := by cases ps[i] <;> simp [Pt.deep]
        obtain ⟨k, rfl⟩ : ∃ j, k = j + 1 := ⟨k - 1, by omega⟩
        rw [tk, List.length_append] at hle
        have hN' := hN [some (ptD (.seq true ps)), some (.rol (strsD ((ps.take i).flatMap sw ++ sw ps[i]))), some (ptD ps[i])] S1 ⟨_, by rw [tk], rfl⟩
        clear hN tk
        generalize (ps.take i).flatMap sw = A at hN' hle ⊢
        have e1 : (strsD A).length = A.length := by simp [strsD]
        have e2 : (strsD (sw ps[i])).length = (sw ps[i]).length := by simp [strsD]
        subst hB
        simp [prevSp, catD]
        refine ⟨ps[i], rfl, by omega, by omega, ?_⟩
        refine ⟨by omega, ?_⟩
        simpa [strsD, ptD] using hN'
      · rintro τ S1 ⟨x2, rfl, rfl⟩
        rw [ptDs_len, List.take_length]
        subst hR
        simp
        exact .same h
theorem led_lc {R : Rl} {w : Str} {Y : List Str} {τ : DSt} {S : DH} {Q : DK} (hv : 8 < τ.length) (hs : τ[4]? = some (some (.rol (strsD Y)))) (ok : OkR R) (oY : ∀ x ∈ Y, okS x) (hY : Y = sws R w) (h : Q (.rol (strsD (led R w))) S) :
    newO S (.lst []) fun q S1 => dLcL (dGN 8) (dOr (dTest (dOp (dIn false) (dVar 8) (dVar 4))) (dTest (dOp (dIn false) (dC (.str "*")) (dVar 4)))) (dVar 8) DW0 τ (fun _ => True) q (fzK Q (.ref q)) (strsD (HR R)) S1 := by
  subst hY
  refine lcF_inv (G := fun _ => True) (fun i acc S1 => acc = strsD (((HR R).take i).filter fun x => decide (x ∈ sws R w) || decide (Str.ofString "*" ∈ sws R w)) ∧ S1 = S) ⟨rfl, rfl⟩ (fun _ _ _ _ _ _ _ => trivial) ?_ (by simp [strsD]; have := ok.hl; omega) ?_
  · rintro i d acc S1 q N hd ⟨rfl, rfl⟩ hq ha hN
    have hi : i < (HR R).length := by
      have := (List.getElem?_eq_some_iff.mp hd).1
      simpa [strsD] using this
    obtain rfl : d = .str (HR R)[i] := by simp [strsD, hi] at hd; exact hd.symm
    have smY : ∀ e ∈ strsD (sws R w), Sm 60 e := fun e he => by
      obtain ⟨y, hy, rfl⟩ := List.mem_map.mp he
      exact Sm_str.mpr (oY y hy)
    simp [hv]
    rw [hs]
    have tk : ∀ c : Str → Bool, ((HR R).take (i + 1)).filter c = ((HR R).take i).filter c ++ (if c (HR R)[i] then [(HR R)[i]] else []) := fun c => by
      rw [List.take_succ, List.getElem?_eq_getElem hi, List.filter_append]
      cases e : c (HR R)[i] <;> simp [e]
    have hin : decide (D.str (HR R)[i] ∈ strsD (sws R w)) = decide ((HR R)[i] ∈ sws R w) := decide_eq_decide.mpr strs_mem7
    have hin2 : decide (D.str (Str.ofString "*") ∈ strsD (sws R w)) = decide (Str.ofString "*" ∈ sws R w) := decide_eq_decide.mpr strs_mem7
    have nx := hN (strsD (((HR R).take (i + 1)).filter fun x => decide (x ∈ sws R w) || decide (Str.ofString "*" ∈ sws R w))) S1 hq ⟨rfl, rfl⟩ (by rw [tk]; simp [strsD]; split <;> simp)
    rw [tk] at nx
    refine dInQ_sm (Sm_str.mpr (hr_sm ok _ (List.getElem_mem hi))) smY ?_
    rw [hin]
    by_cases c : (HR R)[i] ∈ sws R w
    · simp [c] at nx ⊢
      exact ⟨by simpa using ha, by simpa [strsD] using nx⟩
    · simp [c] at nx ⊢
      refine dInQ_sm (Sm_str.mpr okS_star) smY ?_
      rw [hin2]
      by_cases c2 : Str.ofString "*" ∈ sws R w
      · simp [c2] at nx ⊢
        refine ⟨by simpa [c2] using ha, ?_⟩
        simpa [strsD, c2] using nx
      · simp [c2] at nx ⊢
        simpa [c2] using nx
  · rintro acc S1 ⟨rfl, rfl⟩
    rw [List.take_of_length_le (by simp [strsD])]
    exact h
theorem r_l_led (ds S Q E) (h : sp_l_led ds S Q E) : t_l_led (dEnd Q E) (dstart N_l_led ds) S := by
  obtain ⟨R, d, rfl, hd, ok, h⟩ := h
  have hlen := ok.len
  have fin : ∀ (I : (DH → Prop)) (B0 : DH → ((DH → Prop) → List D → DH → Prop) → Prop), True := fun _ _ => trivial
  have e1 : (rulD R).map (fun d => match d with | .tup (x :: _) => x | _ => .non) = strsD (R.map (·.1)) := by simp [rulD, strsD]
  have hsc : List.length R + 1 < scanBound := Nat.lt_of_le_of_lt (show R.length + 1 ≤ 5 by omega) (by decide)
  have eHR : List.map (D.str ∘ fun x : Str × Pt => x.1) R = strsD (R.map (·.1)) := by simp [strsD]
  -- one word
  have word : ∀ (w : Str), w ∈ HR R → True := fun _ _ => trivial
  cases d with
  | rol xs =>
    obtain rfl : xs = rulD R := by simpa using hd
    unfold t_l_led
    refine dSeq_gen fun R1 hR => ?_
    simp [dstart]
    refine lcF_map (G := fun _ => True) (fun d => match d with | .tup (x :: _) => x | _ => .non) (fun _ _ _ => trivial) (fun d hd acc p N hp hl hN => ?_) (by simp [rulD]; omega) ?_
    · obtain ⟨r, hr, rfl⟩ := List.mem_map.mp hd
      simp
      exact ⟨by simpa using hl, hN⟩
    rw [e1]
    simp
    refine ⟨.inl fun d x y hy e => ?_, hsc, ?_⟩
    · subst e
      exact nm_ok (ok.r _ hy).1
    rw [eHR, HR_D]
    subst hR
    refine dSeq_gen fun R1 hR => ?_
    simp
    intro p hp
    subst hR
    refine dSeqFor_gen fun B R1 hB hR => ?_
    simp
    refine loop_inv (fun i τ S' => ∃ x3 x4 x5 x6 : Option D, τ = [some (.rol (rulD R)), some (.rol (strsD (HR R))), some (.ref p), x3, x4, x5, x6, none, none] ∧ S' = upo S p (.dK ((ledL R).take i))) ⟨none, none, none, none, rfl, rfl⟩ (fun _ _ _ _ _ => trivial) ?_ ?_
    · rintro i d τ S1 N hd' ⟨x3, x4, x5, x6, rfl, rfl⟩ hN
      have hi : i < (HR R).length := by
        have := (List.getElem?_eq_some_iff.mp hd').1
        simpa [strsD] using this
      obtain rfl : d = .str (HR R)[i] := by simp [strsD, hi] at hd'; exact hd'.symm
      have hw : (HR R)[i] ∈ HR R := List.getElem_mem hi
      subst hB
      refine dSeq_gen fun R2 hR2 => ?_
      simp
      subst hR2
      refine dSeqFor_gen fun B R2 hB hR2 => ?_
      simp
      refine loop_inv (fun j τ S' => ∃ x5 x6 : Option D, τ = [some (.rol (rulD R)), some (.rol (strsD (HR R))), some (.ref p), some (.str (HR R)[i]), some (.rol (strsD (sws (R.take j) (HR R)[i]))), x5, x6, none, none] ∧ S' = upo S p (.dK ((ledL R).take i))) ⟨x5, x6, rfl, rfl⟩ (fun _ _ _ _ _ => trivial) ?_ ?_
      · rintro j d τ S1 N2 hd2 ⟨x5, x6, rfl, rfl⟩ hN2
        obtain ⟨hj, rfl⟩ := rul_at hd2
        have hr := ok.r _ (List.getElem_mem hj)
        have tk := sws_take (w := (HR R)[i]) hj
        have hle : (sws (R.take j) (HR R)[i]).length ≤ 400 := sws_len ⟨by rw [List.length_take]; omega, fun r hr => ok.r r (List.mem_of_mem_take hr)⟩
        have hsw := sw_len R[j].2
        subst hB
        simp
        by_cases c : R[j].1 = (HR R)[i]
        · simp [c, catD]
          refine ⟨R[j].2, rfl, by omega, by omega, ?_⟩
          have nx := hN2 [some (.rol (rulD R)), some (.rol (strsD (HR R))), some (.ref p), some (.str (HR R)[i]), some (.rol (strsD (sws (R.take j) (HR R)[i] ++ sw R[j].2))), some (.str (HR R)[i]), some (ptD R[j].2), none, none] _ ⟨_, _, by rw [tk, if_pos c], rfl⟩
          generalize sws (R.take j) (HR R)[i] = A at hle nx ⊢
          refine ⟨by simp [strsD]; omega, ?_⟩
          simpa [strsD] using nx
        · simp [c]
          exact hN2 _ _ ⟨_, _, by rw [tk, if_neg c, List.append_nil], rfl⟩
      · rintro τ S1 ⟨x5, x6, rfl, rfl⟩
        have eR : R.take (rulD R).length = R := by rw [show (rulD R).length = R.length by simp [rulD], List.take_length]
        rw [eR]
        subst hR2
        simp
        refine led_lc (R := R) (w := (HR R)[i]) (by simp) rfl ok (sws_ok ok) rfl ?_
        have hno : lk ((ledL R).take i) (.inr (HR R)[i]) = none := by
          cases e : lk ((ledL R).take i) (.inr (HR R)[i]) with
          | none => rfl
          | some v =>
            have : ∀ l : List Str, (∀ x ∈ l, x ≠ (HR R)[i]) → lk (l.map fun w => ((.inr w : Key), D.rol (strsD (led R w)))) (.inr (HR R)[i]) = none := fun l hl => by
              induction l with
              | nil => rfl
              | cons a l ih =>
                show (if (.inr a : Key) = .inr (HR R)[i] then some (D.rol (strsD (led R a))) else _) = _
                rw [if_neg (by simpa using hl a (by simp))]
                exact ih fun x hx => hl x (by simp [hx])
            have e2 := this ((HR R).take i) fun x hx e3 => by
              subst e3
              obtain ⟨j, hj, e2⟩ := List.mem_iff_getElem.mp hx
              rw [List.getElem_take] at e2
              simp at hj
              have := (List.getElem_inj (HR_nd R)).mp e2
              omega
            unfold ledL at e
            rw [← List.map_take, e2] at e
            cases e
        have e2 : pt ((ledL R).take i) (.inr (HR R)[i]) (.rol (strsD (led R (HR R)[i]))) = (ledL R).take (i + 1) := by
          unfold pt
          rw [hno]
          have : (ledL R)[i]? = some (.inr (HR R)[i], .rol (strsD (led R (HR R)[i]))) := by simp [ledL, hi]
          rw [List.take_succ, this]
          rfl
        have hl2 : ((ledL R).take i).length < 16777216 := by rw [List.length_take]; have := ok.hl; simp [ledL]; omega
        simp [e2]
        simp at hl2
        rw [if_pos (by omega)]
        simp
        exact hN _ _ ⟨_, _, _, _, rfl, rfl⟩
    · rintro τ S1 ⟨x3, x4, x5, x6, rfl, rfl⟩
      rw [show (strsD (HR R)).length = (ledL R).length by simp [strsD, ledL], List.take_length]
      subst hR
      simp
      exact .same (h p hp)
  | ref a =>
    have ha : S a = some (.lst (rulD R)) := by
      simp only [seqD_ref] at hd
      split at hd
      · rename_i xs e; cases hd; exact e
      · cases hd
    unfold t_l_led
    refine dSeq_gen fun R1 hR => ?_
    simp [dstart, ha]
    refine lcF_map (G := fun S' => S' a = some (.lst (rulD R))) (fun d => match d with | .tup (x :: _) => x | _ => .non) (fun acc q hq => by rw [upo_ne (fun z => by rw [← z, ha] at hq; cases hq)]; exact ha) (fun d hd acc p N hp hl hN => ?_) (by simp [rulD]; omega) ?_
    · obtain ⟨r, hr, rfl⟩ := List.mem_map.mp hd
      simp
      exact ⟨by simpa using hl, hN⟩
    rw [e1]
    simp
    refine ⟨.inl fun d x y hy e => ?_, hsc, ?_⟩
    · subst e
      exact nm_ok (ok.r _ hy).1
    rw [eHR, HR_D]
    subst hR
    refine dSeq_gen fun R1 hR => ?_
    simp
    intro p hp
    have ap : a ≠ p := fun z => by rw [← z, ha] at hp; cases hp
    subst hR
    refine dSeqFor_gen fun B R1 hB hR => ?_
    simp
    refine loop_inv (fun i τ S' => ∃ x3 x4 x5 x6 : Option D, τ = [some (.ref a), some (.rol (strsD (HR R))), some (.ref p), x3, x4, x5, x6, none, none] ∧ S' = upo S p (.dK ((ledL R).take i))) ⟨none, none, none, none, rfl, rfl⟩ (fun _ _ _ _ _ => trivial) ?_ ?_
    · rintro i d τ S1 N hd' ⟨x3, x4, x5, x6, rfl, rfl⟩ hN
      have hi : i < (HR R).length := by
        have := (List.getElem?_eq_some_iff.mp hd').1
        simpa [strsD] using this
      obtain rfl : d = .str (HR R)[i] := by simp [strsD, hi] at hd'; exact hd'.symm
      have hw : (HR R)[i] ∈ HR R := List.getElem_mem hi
      subst hB
      refine dSeq_gen fun R2 hR2 => ?_
      simp
      subst hR2
      refine dSeqFor_gen fun B R2 hB hR2 => ?_
      simp [upo_ne ap, ha]
      refine loop_inv (fun j τ S' => ∃ x5 x6 : Option D, τ = [some (.ref a), some (.rol (strsD (HR R))), some (.ref p), some (.str (HR R)[i]), some (.rol (strsD (sws (R.take j) (HR R)[i]))), x5, x6, none, none] ∧ S' = upo S p (.dK ((ledL R).take i))) ⟨x5, x6, rfl, rfl⟩ (fun j τ S' _ ⟨_, _, _, e⟩ => by rw [e, upo_ne ap]; exact ha) ?_ ?_
      · rintro j d τ S1 N2 hd2 ⟨x5, x6, rfl, rfl⟩ hN2
        obtain ⟨hj, rfl⟩ := rul_at hd2
        have hr := ok.r _ (List.getElem_mem hj)
        have tk := sws_take (w := (HR R)[i]) hj
        have hle : (sws (R.take j) (HR R)[i]).length ≤ 400 := sws_len ⟨by rw [List.length_take]; omega, fun r hr => ok.r r (List.mem_of_mem_take hr)⟩
        have hsw := sw_len R[j].2
        subst hB
        simp
        by_cases c : R[j].1 = (HR R)[i]
        · simp [c, catD]
          refine ⟨R[j].2, rfl, by omega, by omega, ?_⟩
          have nx := hN2 [some (.ref a), some (.rol (strsD (HR R))), some (.ref p), some (.str (HR R)[i]), some (.rol (strsD (sws (R.take j) (HR R)[i] ++ sw R[j].2))), some (.str (HR R)[i]), some (ptD R[j].2), none, none] _ ⟨_, _, by rw [tk, if_pos c], rfl⟩
          generalize sws (R.take j) (HR R)[i] = A at hle nx ⊢
          refine ⟨by simp [strsD]; omega, ?_⟩
          simpa [strsD] using nx
        · simp [c]
          exact hN2 _ _ ⟨_, _, by rw [tk, if_neg c, List.append_nil], rfl⟩
      · rintro τ S1 ⟨x5, x6, rfl, rfl⟩
        have eR : R.take (rulD R).length = R := by rw [show (rulD R).length = R.length by simp [rulD], List.take_length]
        rw [eR]
        subst hR2
        simp
        refine led_lc (R := R) (w := (HR R)[i]) (by simp) rfl ok (sws_ok ok) rfl ?_
        have hno : lk ((ledL R).take i) (.inr (HR R)[i]) = none := by
          cases e : lk ((ledL R).take i) (.inr (HR R)[i]) with
          | none => rfl
          | some v =>
            have : ∀ l : List Str, (∀ x ∈ l, x ≠ (HR R)[i]) → lk (l.map fun w => ((.inr w : Key), D.rol (strsD (led R w)))) (.inr (HR R)[i]) = none := fun l hl => by
              induction l with
              | nil => rfl
              | cons a l ih =>
                show (if (.inr a : Key) = .inr (HR R)[i] then some (D.rol (strsD (led R a))) else _) = _
                rw [if_neg (by simpa using hl a (by simp))]
                exact ih fun x hx => hl x (by simp [hx])
            have e2 := this ((HR R).take i) fun x hx e3 => by
              subst e3
              obtain ⟨j, hj, e2⟩ := List.mem_iff_getElem.mp hx
              rw [List.getElem_take] at e2
              simp at hj
              have := (List.getElem_inj (HR_nd R)).mp e2
              omega
            unfold ledL at e
            rw [← List.map_take, e2] at e
            cases e
        have e2 : pt ((ledL R).take i) (.inr (HR R)[i]) (.rol (strsD (led R (HR R)[i]))) = (ledL R).take (i + 1) := by
          unfold pt
          rw [hno]
          have : (ledL R)[i]? = some (.inr (HR R)[i], .rol (strsD (led R (HR R)[i]))) := by simp [ledL, hi]
          rw [List.take_succ, this]
          rfl
        have hl2 : ((ledL R).take i).length < 16777216 := by rw [List.length_take]; have := ok.hl; simp [ledL]; omega
        simp [e2]
        simp at hl2
        rw [if_pos (by omega)]
        simp
        exact hN _ _ ⟨_, _, _, _, rfl, rfl⟩
    · rintro τ S1 ⟨x3, x4, x5, x6, rfl, rfl⟩
      rw [show (strsD (HR R)).length = (ledL R).length by simp [strsD, ledL], List.take_length]
      subst hR
      simp
      exact .same (h p hp)
  | _ => cases hd
end L67
set_option maxRecDepth 100000
set_option maxHeartbeats 4000000
namespace L67
open PySem PySem.Spec L2
open L63
open Rc
open Sh hiding N_l_feed N_l_leaf N_l_names N_l_pattern deeps_le deeps_mem r_l_feed r_l_leaf r_l_names r_l_pattern sp_l_leaf sp_l_leaf_mono sp_l_names sp_l_names_mono sp_l_pattern sp_l_pattern_mono t_l_feed t_l_leaf t_l_names t_l_pattern
open Dt hiding nkeys sp_l_feed sp_l_feed_mono
/-! K67u: what goes round, rings. -/
theorem strs_sm {l : List Str} (h : ∀ x ∈ l, okS x) : ∀ e ∈ strsD l, Sm 60 e := fun e he => by
  obtain ⟨y, hy, rfl⟩ := List.mem_map.mp he
  exact Sm_str.mpr (h y hy)
theorem rol_sm {l : List Str} (h : ∀ x ∈ l, okS x) : Sm 60 (.rol (strsD l)) := Sm_rol (n := 59).mpr fun e he => by
  obtain ⟨y, hy, rfl⟩ := List.mem_map.mp he
  exact Sm_str.mpr (h y hy)
theorem strs_nil {l : List Str} : decide (D.rol (strsD l) = D.rol []) = decide (l = []) := decide_eq_decide.mpr (by cases l <;> simp [strsD])
/-- a row, filtered -/
theorem fil_lc {v : Nat} {X : List Str} {f : Str → Bool} {tt : DTT} {τ : DSt} {S : DH} {Q : DK} (hv : v < τ.length) (hX : X.length ≤ 1000)
    (ht : ∀ x ∈ X, ∀ (E : DW) (S' : DH) (q : Addr) (acc : List D) (K : Bool → DH → Prop), S q = none → S' = upo S q (.lst acc) → K (f x) S' → tt E (τ.set v (some (.str x))) S' K) (h : Q (.rol (strsD (X.filter f))) S) :
    newO S (.lst []) fun q S1 => dLcL (dGN v) tt (dVar v) DW0 τ (fun _ => True) q (fzK Q (.ref q)) (strsD X) S1 := by
  refine lcF_inv (G := fun _ => True) (fun i acc S1 => acc = strsD ((X.take i).filter f) ∧ S1 = S) ⟨rfl, rfl⟩ (fun _ _ _ _ _ _ _ => trivial) ?_ (by simp [strsD]; omega) ?_
  · rintro i d acc S1 q N hd ⟨rfl, rfl⟩ hq ha hN
    have hi : i < X.length := by
      have := (List.getElem?_eq_some_iff.mp hd).1
      simpa [strsD] using this
    obtain rfl : d = .str X[i] := by simp [strsD, hi] at hd; exact hd.symm
    have tk : (X.take (i + 1)).filter f = (X.take i).filter f ++ (if f X[i] then [X[i]] else []) := by
      rw [List.take_succ, List.getElem?_eq_getElem hi, List.filter_append]
      cases e : f X[i] <;> simp [e]
    have nx := hN (strsD ((X.take (i + 1)).filter f)) S1 hq ⟨rfl, rfl⟩ (by rw [tk]; simp [strsD]; split <;> simp)
    rw [tk] at nx
    simp only [dGN]
    refine ht _ (List.getElem_mem hi) _ _ _ _ _ hq rfl ?_
    cases e : f X[i]
    · simp [e] at nx ⊢
      exact nx
    · simp [e, hv] at nx ⊢
      exact ⟨by simpa using ha, by simpa [strsD] using nx⟩
  · rintro acc S1 ⟨rfl, rfl⟩
    rw [List.take_of_length_le (by simp [strsD])]
    exact h
theorem r_l_goes_round (ds S Q E) (h : sp_l_goes_round ds S Q E) : t_l_goes_round (dEnd Q E) (dstart N_l_goes_round ds) S := by
  obtain ⟨R, p, rfl, ok, hp, h⟩ := h
  have hHl := ok.hl
  unfold t_l_goes_round
  refine dSeq_gen fun R1 hR => ?_
  simp [dstart, hp, keysO, led_keys]
  subst hR
  refine dSeq_gen fun R1 hR => ?_
  simp
  subst hR
  refine dSeqWhile_gen fun B R1 hB hR => ?_
  refine while_inv (fun τ S' => ∃ (X : List Str) (b : Bool) (x3 : Option D), τ = [some (.ref p), some (.rol (strsD X)), some (.bl b), x3, none] ∧ S' = S ∧ X.Nodup ∧ (∀ x ∈ X, x ∈ HR R) ∧ (∀ rg, Ring R rg → ∀ x ∈ rg, x ∈ X) ∧ (b = false → ∀ x ∈ X, ∃ y ∈ led R x, y ∈ X))
    (fun (τ : DSt) _ => match τ[1]?, τ[2]? with | some (some (D.rol l)), some (some (D.bl b)) => 2 * l.length + (if b then 1 else 0) | _, _ => 0)
    ⟨HR R, true, none, rfl, rfl, HR_nd R, (fun _ h => h), (fun rg r x hx => r.sub x hx), fun e => by cases e⟩ ?_
  rintro τ S2 N ⟨X, b, x3, rfl, rfl, nd, sub, rin, cl⟩ hN
  have hXl : X.length ≤ 4 := Nat.le_trans (nodup_len7 nd sub) hHl
  have okX : ∀ {Y : List Str}, (∀ x ∈ Y, x ∈ HR R) → ∀ x ∈ Y, okS x := fun hY x hx => nm_ok (ok.nm (hY x hx))
  cases b
  · subst hR
    simp
    refine dEq_sm (rol_sm (okX sub)) (Sm_rol (n := 59).mpr fun d hd => nomatch hd) ?_
    rw [strs_nil]
    refine .same ?_
    have := h (!decide (X = [])) (fun rg r => by
      have : X ≠ [] := fun e => by
        obtain ⟨y, hy⟩ := List.exists_mem_of_ne_nil rg r.ne
        have := rin rg r y hy
        rw [e] at this
        cases this
      simp [this]) (fun od g f => by
      have := good_none g (fun x hx => f x (sub x hx)) (cl rfl)
      simp [this])
    simpa using this
  · simp
    subst hB
    refine dSeq_gen fun R2 hR2 => ?_
    simp
    subst hR2
    refine dFor_gen fun B hB => ?_
    simp
    refine loop_inv (fun i τ S' => ∃ (Y : List Str) (b : Bool) (x3 : Option D), τ = [some (.ref p), some (.rol (strsD Y)), some (.bl b), x3, none] ∧ S' = S2 ∧ Y.Nodup ∧ (∀ x ∈ Y, x ∈ X) ∧ (∀ rg, Ring R rg → ∀ x ∈ rg, x ∈ Y) ∧ (b = false → Y = X ∧ ∀ x ∈ X.take i, ∃ y ∈ led R x, y ∈ X) ∧ (b = true → Y.length < X.length) ∧ ∀ x ∈ X.drop i, x ∈ Y)
      ⟨X, false, x3, rfl, rfl, nd, (fun _ h => h), rin, (fun _ => ⟨rfl, by simp⟩), (fun e => by cases e), by simp⟩ (fun _ _ _ _ _ => trivial) ?_ ?_
    · rintro i d τ S1 N2 hd' ⟨Y, b, x3, rfl, rfl, ndY, subY, rinY, f1, f2, dY⟩ hN2
      have hi : i < X.length := by
        have := (List.getElem?_eq_some_iff.mp hd').1
        simpa [strsD] using this
      obtain rfl : d = .str X[i] := by simp [strsD, hi] at hd'; exact hd'.symm
      have hx : X[i] ∈ X := List.getElem_mem hi
      have hxH := sub _ hx
      have hxY : X[i] ∈ Y := dY _ (by rw [List.drop_eq_getElem_cons hi]; exact List.mem_cons_self)
      have hYl : Y.length ≤ X.length := nodup_len7 ndY subY
      have subYH : ∀ x ∈ Y, x ∈ HR R := fun x hx => sub x (subY x hx)
      have ledl : (led R X[i]).length ≤ 4 := Nat.le_trans (List.length_filter_le _ _) hHl
      have dr : ∀ x ∈ X.drop (i + 1), x ∈ Y ∧ x ≠ X[i] := fun x hx2 => ⟨dY x (by rw [List.drop_eq_getElem_cons hi]; exact List.mem_cons_of_mem _ hx2), fun e => by
        obtain ⟨j, hj, e2⟩ := List.mem_iff_getElem.mp hx2
        rw [List.getElem_drop] at e2
        simp at hj
        have := (List.getElem_inj nd).mp (e2.trans e)
        omega⟩
      subst hB
      refine dIf_gen7 fun A3 B3 hA3 hB3 => ?_
      simp [hp, lk_led hxH]
      refine fil_lc (f := fun x => decide (x ∈ Y)) (by simp) (by omega) (fun x hx2 E' S' q acc K hq e hK => ?_) ?_
      · subst e
        simp
        refine dInQ_sm (Sm_str.mpr (nm_ok (ok.nm (led_sub hx2)))) (strs_sm (okX subYH)) ?_
        rw [show decide (D.str x ∈ strsD Y) = decide (x ∈ Y) from decide_eq_decide.mpr strs_mem7]
        simpa using hK
      refine dEq_sm (rol_sm fun x hx2 => nm_ok (ok.nm (led_sub (List.mem_filter.mp hx2).1))) (Sm_rol (n := 59).mpr fun d hd => nomatch hd) ?_
      rw [strs_nil]
      by_cases c : (led R X[i]).filter (fun x => decide (x ∈ Y)) = []
      · have out : ∀ y ∈ led R X[i], y ∉ Y := fun y hy hyY => by
          have : y ∈ (led R X[i]).filter (fun x => decide (x ∈ Y)) := List.mem_filter.mpr ⟨hy, by simpa using hyY⟩
          rw [c] at this
          cases this
        simp [c]
        subst hA3
        refine dSeq_gen fun R3 hR3 => ?_
        simp
        refine fil_lc (f := fun x => !decide (x = X[i])) (by simp) (by omega) (fun x hx2 E' S' q acc K hq e hK => ?_) ?_
        · subst e
          have e9 : (x == X[i]) = decide (x = X[i]) := by by_cases e : x = X[i] <;> simp [e]
          simp
          rw [e9]
          exact hK
        subst hR3
        simp
        have lt : (Y.filter fun x => !decide (x = X[i])).length < Y.length := by
          have h1 : ∀ l : List Str, X[i] ∈ l → (l.filter fun x => !decide (x = X[i])).length < l.length := fun l => by
            induction l with
            | nil => intro h; cases h
            | cons a l ih =>
              intro h
              have h2 := List.length_filter_le (fun x => !decide (x = X[i])) l
              rw [List.filter_cons, List.length_cons]
              by_cases e : a = X[i]
              · simp only [e, decide_true, Bool.not_true, Bool.false_eq_true, if_false]; omega
              · have := ih ((List.mem_cons.mp h).resolve_left (Ne.symm e))
                simp only [e, decide_false, Bool.not_false, if_true, List.length_cons]; omega
          exact h1 Y hxY
        refine hN2 _ _ ⟨Y.filter fun x => !decide (x = X[i]), true, _, rfl, rfl, ndY.filter _, fun x hx2 => subY x (List.mem_filter.mp hx2).1, fun rg r x hx2 => List.mem_filter.mpr ⟨rinY rg r x hx2, ?_⟩, (fun e => by cases e), (fun _ => by omega), fun x hx2 => List.mem_filter.mpr ⟨(dr x hx2).1, by simpa using (dr x hx2).2⟩⟩
        have := ring_out r (rinY rg r) out
        simp
        exact fun e => this (e ▸ hx2)
      · simp [c]
        subst hB3
        simp
        refine hN2 _ _ ⟨Y, b, _, rfl, rfl, ndY, subY, rinY, fun e => ⟨(f1 e).1, fun x hx2 => ?_⟩, f2, fun x hx2 => (dr x hx2).1⟩
        rw [List.take_succ, List.getElem?_eq_getElem hi] at hx2
        rcases List.mem_append.mp hx2 with hx2 | hx2
        · exact (f1 e).2 x hx2
        · rw [List.mem_singleton.mp hx2]
          obtain ⟨y, hy⟩ := List.exists_mem_of_ne_nil _ c
          obtain ⟨y1, y2⟩ := List.mem_filter.mp hy
          exact ⟨y, y1, by rw [← (f1 e).1]; simpa using y2⟩
    · rintro τ S1 ⟨Y, b, x3, rfl, rfl, ndY, subY, rinY, f1, f2, dY⟩
      rw [show (strsD X).length = X.length by simp [strsD], List.take_length] at f1
      refine hN _ _ ⟨Y, b, _, rfl, rfl, ndY, fun x hx => sub x (subY x hx), rinY, fun e x hx => ?_⟩ ?_
      · obtain ⟨e1, e2⟩ := f1 e
        subst e1
        exact e2 x hx
      · cases b
        · simp [(f1 rfl).1, strsD]
        · have := f2 rfl
          simp [strsD]
          omega
theorem no_false : ∀ n : Nat, inF (.bl false) (List.replicate n (D.bl true)) = false
  | 0 => rfl
  | n + 1 => by
    have := no_false n
    rw [List.replicate_succ]
    simp only [inF, List.any_cons] at this ⊢
    rw [this]
    rfl
theorem ring_el {R : Rl} {rg : List Str} {p : Addr} {i : Nat} {τ : DSt} {S : DH} {E : DW} {K : DK} (h0 : τ[0]? = some (some (.ref p))) (h1 : τ[1]? = some (some (.rol (strsD rg)))) (h3 : τ[3]? = some (some (.int (i : Nat)))) (hp : S p = some (.dK (ledL R))) (r : Ring R rg) (ok : OkR R) (hi : i < rg.length) (hrl : rg.length ≤ 4) (h : K (.bl true) S) :
    dOp (dIn false) (dOp dIxS (dVar 1) (dOp rMod (dOp dAddF (dVar 3) (dC (D.int 1))) (dCB cLen (dCons (dVar 1) dNil)))) (dOp dIxS (dVar 0) (dOp dIxS (dVar 1) (dVar 3))) E τ S K := by
  have hj : (i + 1) % rg.length < rg.length := Nat.mod_lt _ (by omega)
  have e3 : atI (strsD rg) (((i + 1) % rg.length : Nat) : Int) = some (.str rg[(i + 1) % rg.length]) := atI_nat (by simp [strsD, hj])
  have e4 : atI (strsD rg) (i : Int) = some (.str rg[i]) := atI_nat (by simp [strsD, hi])
  have e5 : (((i : Int) + 1) % (rg.length : Int)) = (((i + 1) % rg.length : Nat) : Int) := by rw [Int.natCast_emod]; rfl
  have go := r.go i hi
  rw [List.getD_eq_getElem?_getD, List.getElem?_eq_getElem hj] at go
  have e6 := lk_led (r.sub _ (List.getElem_mem hi))
  have e7 : (strsD rg).length = rg.length := by simp [strsD]
  simp only [dOp, dVar, h0, h1, h3, dC, dCB, dCons, dNil, dAddF, cLen]
  refine ⟨by rw [e7]; omega, ?_⟩
  rw [e7]
  dsimp only
  rw [e5]
  simp only [dIxS, e3, e4, opt_some, hp, dkey, e6, dIn]
  refine dInQ_sm (Sm_str.mpr (nm_ok (ok.nm (led_sub go)))) (strs_sm fun x hx => nm_ok (ok.nm (led_sub hx))) ?_
  rw [show decide (D.str rg[(i + 1) % rg.length] ∈ strsD (led R rg[i])) = true from decide_eq_true (strs_mem7.mpr go)]
  exact h
theorem r_l_ring (ds S Q E) (h : sp_l_ring ds S Q E) : t_l_ring (dEnd Q E) (dstart N_l_ring ds) S := by
  obtain ⟨R, p, rg, rfl, ok, hp, r, h⟩ := h
  have hrl : rg.length ≤ 4 := Nat.le_trans (nodup_len7 r.nd r.sub) ok.hl
  have okX : ∀ x ∈ rg, okS x := fun x hx => nm_ok (ok.nm (r.sub x hx))
  unfold t_l_ring
  refine dSeqIf_gen fun A1 B1 R1 hA hB hR => ?_
  simp [dstart]
  refine dEq_sm (rol_sm okX) (Sm_rol (n := 59).mpr fun d hd => nomatch hd) ?_
  rw [strs_nil]
  simp [r.ne]
  refine ⟨rg.map fun x => .inr x, by simp [strsD, keyD], by simp; exact Nat.lt_of_le_of_lt (show rg.length + 1 ≤ 5 by omega) (by decide), ?_⟩
  have e1 : (firstK (rg.map fun x => (Sum.inr x : Key))).length = rg.length := by
    have := (firstK_nodup (rg.map fun x => (Sum.inr x : Key))).mpr (List.pairwise_map.mpr (r.nd.imp fun h e => h (by cases e; rfl)))
    simpa using this
  rw [e1]
  simp
  subst hB
  simp
  subst hR
  refine dSeqIf_gen fun A1 B1 R1 hA hB hR => ?_
  simp
  refine fil_lc (f := fun x => decide (x ∉ HR R)) (by simp) (by omega) (fun x hx E' S' q acc K hq e hK => ?_) ?_
  · subst e
    have pq : p ≠ q := fun z => by rw [← z, hp] at hq; cases hq
    have := lk_led (r.sub x hx)
    simp [r.sub x hx] at hK
    simp [upo_ne pq, hp, this]
    exact hK
  have e2 : (rg.filter fun x => decide (x ∉ HR R)) = [] := List.filter_eq_nil_iff.mpr fun x hx => by simp [r.sub x hx]
  rw [e2]
  refine dEq_sm (rol_sm (l := []) fun x hx => nomatch hx) (Sm_rol (n := 59).mpr fun d hd => nomatch hd) ?_
  rw [strs_nil]
  simp
  subst hB
  simp
  subst hR
  simp
  have wlen : (rngD 0 rg.length).length = rg.length := by simp [rngD]
  refine ⟨by omega, ?_⟩
  refine lcF_inv (G := fun _ => True) (fun i acc S1 => acc = List.replicate i (.bl true) ∧ S1 = S) ⟨rfl, rfl⟩ (fun _ _ _ _ _ _ _ => trivial) ?_ (by rw [wlen]; exact Nat.lt_of_le_of_lt hrl (by decide)) ?_
  · rintro i d acc S1 q N hd ⟨rfl, rfl⟩ hq ha hN
    have hi : i < rg.length := by
      have := (List.getElem?_eq_some_iff.mp hd).1
      rwa [wlen] at this
    obtain rfl : d = .int (i : Nat) := by simp [rngD, hi] at hd; exact hd.symm
    have pq : p ≠ q := fun z => by rw [← z, hp] at hq; cases hq
    have hj : (i + 1) % rg.length < rg.length := Nat.mod_lt _ (by omega)
    have e3 : atI (strsD rg) (((i + 1) % rg.length : Nat) : Int) = some (.str rg[(i + 1) % rg.length]) := atI_nat (by simp [strsD, hj])
    have e4 : atI (strsD rg) (i : Int) = some (.str rg[i]) := atI_nat (by simp [strsD, hi])
    have e5 : (((i : Int) + 1) % (rg.length : Int)) = (((i + 1) % rg.length : Nat) : Int) := by rw [Int.natCast_emod]; rfl
    have go := r.go i hi
    rw [List.getD_eq_getElem?_getD, List.getElem?_eq_getElem hj] at go
    have e6 := lk_led (r.sub _ (List.getElem_mem hi))
    have e7 : (strsD rg).length = rg.length := by simp [strsD]
    simp only [dGN, dYes, List.set_cons_succ, List.set_cons_zero]
    rw [if_pos trivial]
    refine ring_el (R := R) rfl rfl rfl (by rw [upo_ne pq]; exact hp) r ok hi hrl ?_
    have nx := hN (List.replicate (i + 1) (.bl true)) S1 hq ⟨rfl, rfl⟩ (by simp)
    rw [List.replicate_succ'] at nx
    simp at ha ⊢
    exact ⟨ha, by simpa using nx⟩
  · rintro acc S1 ⟨rfl, rfl⟩
    simp only
    rw [dInQ_fl rfl (by simp [flD]), no_false]
    exact .same h
end L67
set_option maxRecDepth 100000
set_option maxHeartbeats 4000000
namespace L67
open PySem PySem.Spec L2
open L63
open Rc
open Sh hiding N_l_feed N_l_leaf N_l_names N_l_pattern deeps_le deeps_mem r_l_feed r_l_leaf r_l_names r_l_pattern sp_l_leaf sp_l_leaf_mono sp_l_names sp_l_names_mono sp_l_pattern sp_l_pattern_mono t_l_feed t_l_leaf t_l_names t_l_pattern
open Dt hiding nkeys sp_l_feed sp_l_feed_mono
/-! K67v: what is asked, rows of words. -/
structure OkY (R : Rl) : Prop where
  r : ∀ r ∈ R, Nm r.1 ∧ r.2.okP Nm ∧ r.2.deep ≤ 5 ∧ r.2.all.length ≤ 100 ∧ ∀ q ∈ r.2.all, q.kids.length ≤ 200
theorem OkY.ok {R : Rl} (h : OkY R) (hl : R.length ≤ 4) : OkR R := ⟨hl, fun r hr => let ⟨a, b, c, d, _⟩ := h.r r hr; ⟨a, b, c, d⟩⟩
theorem OkY.few {R : Rl} (h : OkY R) : ∀ r ∈ R, ∀ q ∈ r.2.all, q.kids.length ≤ 200 := fun r hr => (h.r r hr).2.2.2.2
def sp_l_asked (CG : Addr) : DSp := fun ds S Q _ => ∃ (k : Nat) (R : Rl) (p : Pt), ds = [.int (k : Nat), .rol (rulD R), ptD p] ∧ OkR R ∧ OkY R ∧ p.okP Nm ∧ p.deep ≤ 5 ∧ (∀ q ∈ p.all, q.kids.length ≤ 200) ∧
  (∀ od, Good R od → (∀ x ∈ HR R, x ∈ od) → ∀ d, ((k = 0 ∧ d = .rol (strsD od)) ∨ (k ≠ 0 ∧ ∃ p' : Pt, d = ptD p')) → Q (.tup [d, .non, .bl true]) S) ∧ ∀ rg, Ring R rg → Q (.tup [.non, .rol (strsD rg), .bl true]) S
theorem sp_l_asked_mono (CG : Addr) : SpMono (sp_l_asked CG) := fun ds S Q Q' E E' kk _ ⟨k, R, p, h1, h2, h3, h4, h5, h6, h, hx⟩ => ⟨k, R, p, h1, h2, h3, h4, h5, h6, fun od a b d c => kk _ _ (h od a b d c), fun rg r => kk _ _ (hx rg r)⟩
def sp_l_lead_in : DSp := fun ds S Q _ => ∃ (p : Addr) (hs : List Str) (n : Nat) (o : Ob), ds = [.ref p, .rol (strsD hs)] ∧ 1 ≤ hs.length ∧ hs.length ≤ 4 ∧ (∀ x ∈ hs, Nm x) ∧ S p = some o ∧ FeedC n o ∧ n < 2 ^ 80 ∧
  ∀ (R : Rl) (o' : Ob), R.length ≤ 4 → OkY R → FeedC (n + 3) o' → Q (.rol (rulD R)) (upo S p o')
theorem sp_l_lead_in_mono : SpMono sp_l_lead_in := fun ds S Q Q' E E' kk _ ⟨p, hs, n, o, h1, h2, h3, h4, h5, h6, h7, h⟩ => ⟨p, hs, n, o, h1, h2, h3, h4, h5, h6, h7, fun R o' a b c => kk _ _ (h R o' a b c)⟩
def t_l_lead_in : DTS := (dSeq (dIf (dTest (dOp (dEq false) (dCall sp_l_draw (dCons (dVar 0) (dCons (dC (.int 2)) dNil))) (dC (.int 0))))
      (dAsg (dRevLF (dVar 1)) (dGN 1))
      dNx)
    (dSeq (dAsg (dOp dAddF (dVar 1) (dLstF (dCons (dOp dIxS (dVar 1) (dCall sp_l_draw (dCons (dVar 0) (dCons (dCB cLen (dCons (dVar 1) dNil)) dNil)))) dNil))) (dGN 2))
    (dSeq (dAsg (dLst dNil) (dGN 3))
    (dSeq (dFor (dRng1 (dCons (dCB cLen (dCons (dVar 1) dNil)) dNil)) (dGN 4)
      (dDrop (dBM "list" mAppend (dVar 3) (dCons (dTup (dCons (dOp dIxS (dVar 1) (dVar 4)) (dCons (dTup (dCons (dC (.str "then")) (dCons (dTup (dCons (dTup (dCons (dC (.str "step")) (dCons (dC (.str "on")) (dCons (dOp dIxS (dVar 2) (dOp dAddF (dVar 4) (dC (.int 1)))) dNil)))) (dCons (dTup (dCons (dC (.str "stay")) dNil)) dNil))) dNil))) dNil))) dNil))))
    (dSeq (dAsg (dCall sp_l_draw (dCons (dVar 0) (dCons (dCB cLen (dCons (dVar 3) dNil)) dNil))) (dGN 5))
    (dRet (dOp dAddF (dSlF (dVar 3) (dSoP (dVar 5)) dNoP) (dSlF (dVar 3) dNoP (dSoP (dVar 5))))))))))
abbrev N_l_lead_in : List Str := ["_law_feed_here", "_law_heads", "_law_line", "_law_rules", "_law_k", "_law_at"]
def t_l_asked (C_GoesRound : Addr) : DTS := (dSeq (dAsg (dC .non) (dGN 3))
    (dSeq (dAsg (dC .non) (dGN 4))
    (dSeq (dAsg (dC (.bl true)) (dGN 5))
    (dSeq (dTry [(C_GoesRound, true)] 6
      (dIf (dTest (dOp (dEq false) (dVar 0) (dC (.int 0))))
      (dAsg (dCall (sp_order_of C_GoesRound) (dCons (dVar 1) dNil)) (dGN 3))
      (dAsg (dCall (sp_unfolded C_GoesRound) (dCons (dVar 2) (dCons (dVar 1) dNil))) (dGN 3)))
      (dSeq (dAsg (dAndV (dIsE [(C_GoesRound, true)] (dVar 6)) (dNotV (dIsE [(C_GoesRound, false)] (dVar 6)))) (dGN 5))
    (dIf (dTest (dIsE [(C_GoesRound, true)] (dVar 6)))
      (dAsg (dFldX [C_GoesRound] "ring" (dVar 6)) (dGN 4))
      dNx)))
    (dRet (dTup (dCons (dVar 3) (dCons (dVar 4) (dCons (dVar 5) dNil)))))))))
abbrev N_l_asked : List Str := ["_law_way", "_law_rules", "_law_pattern_here", "_law_told", "_law_ring_here", "_law_alone", "e"]
theorem r_l_asked {CG : Addr} (ds S Q E) (h : sp_l_asked CG ds S Q E) : t_l_asked CG (dEnd Q E) (dstart N_l_asked ds) S := by
  obtain ⟨k, R, p, rfl, ok, oy, ho, hd, hf, h, hx⟩ := h
  unfold t_l_asked
  refine dSeq_gen fun R1 hR => ?_
  simp [dstart]
  subst hR
  refine dSeq_gen fun R1 hR => ?_
  simp
  subst hR
  refine dSeq_gen fun R1 hR => ?_
  simp
  subst hR
  refine dSeq_gen fun R1 hR => ?_
  have good : ∀ (A : DEnds) d, A = dEnd Q E → (∃ od, Good R od ∧ (∀ x ∈ HR R, x ∈ od) ∧ ((k = 0 ∧ d = .rol (strsD od)) ∨ (k ≠ 0 ∧ ∃ p' : Pt, d = ptD p'))) → R1 A [some (.int (k : Nat)), some (.rol (rulD R)), some (ptD p), some d, some .non, some (.bl true), none] S := by
    rintro A d rfl ⟨od, g, f, c⟩
    subst hR
    simp
    exact .same (h od g f d c)
  by_cases c : k = 0
  · subst c
    simp
    refine ⟨R, rfl, ok, fun od g f => ?_, fun rg r => ?_⟩
    · simp
      exact good _ _ rfl ⟨od, g, f, .inl ⟨rfl, rfl⟩⟩
    · show tryX _ _ _ _ _ _ _ _
      unfold tryX
      refine ⟨true, by simp, fun _ a dd ha hd nad => ?_, by simp⟩
      have hx1 : HasX (upo (upo S dd (.xd (rgX rg))) a (.exc CG dd)) a CG (rgX rg) := ⟨dd, by simp, by rw [upo_ne nad.symm]; simp⟩
      have x2 : Dt.Sub S (upo (upo S dd (.xd (rgX rg))) a (.exc CG dd)) := fun b o e => by
        rw [upo_ne (fun z => by subst z; rw [ha] at e; cases e), upo_ne (fun z => by subst z; rw [hd] at e; cases e)]
        exact e
      generalize upo (upo S dd (.xd (rgX rg))) a (.exc CG dd) = S2 at hx1 x2 ⊢
      refine dSeq_gen fun R2 hR2 => ?_
      simp
      refine dIsEK_at 0 hx1 rfl ?_
      simp
      refine dIsEK_at 0 hx1 rfl ?_
      simp
      subst hR2
      refine dIf_gen7 fun A2 B2 hA2 hB2 => ?_
      simp
      refine dIsEK_at 0 hx1 rfl ?_
      simp
      subst hA2
      simp
      refine dFldXK_at 0 hx1 rfl rfl ?_
      subst hR
      simp
      exact .keep (S := S) x2 (hx rg r)
  · have c' : ¬ ((k : Nat) : Int) = 0 := by omega
    simp [c]
    refine ⟨R, p, rfl, ok, ho, hd, hf, oy.few, fun od g f p' => ?_, fun rg r => ?_⟩
    · simp
      exact good _ _ rfl ⟨od, g, f, .inr ⟨c, p', rfl⟩⟩
    · show tryX _ _ _ _ _ _ _ _
      unfold tryX
      refine ⟨true, by simp, fun _ a dd ha hd nad => ?_, by simp⟩
      have hx1 : HasX (upo (upo S dd (.xd (rgX rg))) a (.exc CG dd)) a CG (rgX rg) := ⟨dd, by simp, by rw [upo_ne nad.symm]; simp⟩
      have x2 : Dt.Sub S (upo (upo S dd (.xd (rgX rg))) a (.exc CG dd)) := fun b o e => by
        rw [upo_ne (fun z => by subst z; rw [ha] at e; cases e), upo_ne (fun z => by subst z; rw [hd] at e; cases e)]
        exact e
      generalize upo (upo S dd (.xd (rgX rg))) a (.exc CG dd) = S2 at hx1 x2 ⊢
      refine dSeq_gen fun R2 hR2 => ?_
      simp
      refine dIsEK_at 0 hx1 rfl ?_
      simp
      refine dIsEK_at 0 hx1 rfl ?_
      simp
      subst hR2
      refine dIf_gen7 fun A2 B2 hA2 hB2 => ?_
      simp
      refine dIsEK_at 0 hx1 rfl ?_
      simp
      subst hA2
      simp
      refine dFldXK_at 0 hx1 rfl rfl ?_
      subst hR
      simp
      exact .keep (S := S) x2 (hx rg r)
theorem r_l_lead_in (ds S Q E) (h : sp_l_lead_in ds S Q E) : t_l_lead_in (dEnd Q E) (dstart N_l_lead_in ds) S := by
  obtain ⟨p, hs, n, o, rfl, h1, h4, hnm, hp, fo, hn, h⟩ := h
  unfold t_l_lead_in
  refine dSeqIf_gen fun A1 B1 R1 hA hB hR => ?_
  have tail : ∀ (gs : List Str) (o1 : Ob), gs.length = hs.length → (∀ x ∈ gs, Nm x) → FeedC (n + 1) o1 → R1 (dEnd Q E) [some (.ref p), some (.rol (strsD gs)), none, none, none, none] (upo S p o1) := by
    intro gs o1 gl gn fo1
    subst hR
    refine dSeq_gen fun R1 hR => ?_
    simp [catD]
    refine ⟨p, hs.length, n + 1, o1, by simp [strsD, gl], by omega, by omega, by simp, fo1, by omega, fun u o2 hu fo2 => ?_⟩
    rw [upo_upo]
    have hu' : u < gs.length := by omega
    have eu : atI (strsD gs) (u : Int) = some (.str gs[u]) := atI_nat (by simp [strsD, hu'])
    simp [eu]
    refine ⟨by omega, ?_⟩
    have eL : strsD gs ++ [D.str gs[u]] = strsD (gs ++ [gs[u]]) := by simp [strsD]
    rw [eL]
    have hL : ∀ x ∈ gs ++ [gs[u]], Nm x := fun x hx => by
      rcases List.mem_append.mp hx with hx | hx
      · exact gn x hx
      · rw [List.mem_singleton.mp hx]; exact gn _ (List.getElem_mem hu')
    have lL : (gs ++ [gs[u]]).length = gs.length + 1 := by simp
    generalize gs ++ [gs[u]] = L at hL lL ⊢
    subst hR
    refine dSeq_gen fun R1 hR => ?_
    simp
    intro a ha
    have pa : p ≠ a := fun z => by rw [← z] at ha; simp at ha
    have ha' : S a = none := by rw [upo_ne pa.symm] at ha; exact ha
    subst hR
    refine dSeqFor_gen fun B R1 hB hR => ?_
    simp
    have wlen : (rngD 0 gs.length).length = gs.length := by simp [rngD]
    refine ⟨by omega, ?_⟩
    refine loop_inv (fun i τ S' => ∃ (R : Rl) (x4 : Option D), τ = [some (.ref p), some (.rol (strsD gs)), some (.rol (strsD L)), some (.ref a), x4, none] ∧ S' = upo (upo S p o2) a (.lst (rulD R)) ∧ R.length = i ∧ OkY R) ⟨[], none, rfl, rfl, rfl, ⟨fun r h => nomatch h⟩⟩ (fun _ _ _ _ _ => trivial) ?_ ?_
    · rintro i d τ S1 N hd' ⟨R, x4, rfl, rfl, rl, oy⟩ hN
      have hi : i < gs.length := by
        have := (List.getElem?_eq_some_iff.mp hd').1
        rwa [wlen] at this
      obtain rfl : d = .int (i : Nat) := by simp [rngD, hi] at hd'; exact hd'.symm
      have hi1 : i + 1 < L.length := by omega
      have e1 : atI (strsD gs) (i : Int) = some (.str gs[i]) := atI_nat (by simp [strsD, hi])
      have e2 : atI (strsD L) ((i : Int) + 1) = some (.str L[i + 1]) := atI_nat (j := i + 1) (by simp [strsD, hi1])
      have nx := fun x4 => hN [some (.ref p), some (.rol (strsD gs)), some (.rol (strsD L)), some (.ref a), x4, none] (upo (upo S p o2) a (.lst (rulD (R ++ [(gs[i], .seq true [.step true L[i + 1], .stay])])))) ⟨_, x4, rfl, rfl, by simp [rl], ⟨fun r hr => ?_⟩⟩
      · subst hB
        simp [e1, e2]
        simp [rulD, ptD, ptDs] at nx
        exact ⟨by simp [rulD]; omega, nx _⟩
      · rcases List.mem_append.mp hr with hr | hr
        · exact oy.r r hr
        · rw [List.mem_singleton.mp hr]
          refine ⟨gn _ (List.getElem_mem hi), fun q hq => ?_, by simp [Pt.deep, Pt.deeps], by simp [Pt.all_seq, Pt.alls_flat, Pt.all], fun q hq => ?_⟩
          all_goals
            simp [Pt.all_seq, Pt.alls_flat, Pt.all] at hq
            rcases hq with rfl | rfl | rfl
          · trivial
          · exact .inr (hL _ (List.getElem_mem hi1))
          · trivial
          · simp [Pt.kids]
          · simp [Pt.kids]
          · simp [Pt.kids]
    · rintro τ S1 ⟨R, x4, rfl, rfl, rl, oy⟩
      rw [wlen] at rl
      subst hR
      dsimp only
      refine dSeq_gen fun R1 hR => ?_
      simp
      refine ⟨p, R.length, n + 2, o2, by simp [rulD], by omega, by omega, by rw [upo_ne pa]; simp, fo2, by omega, fun v o3 hv fo3 => ?_⟩
      have re : upo (upo (upo S p o2) a (.lst (rulD R))) p o3 = upo (upo S p o3) a (.lst (rulD R)) := by rw [upo_comm pa.symm, upo_upo]
      rw [re]
      subst hR
      simp [catD]
      have c : (rulD R).drop v ++ (rulD R).take v = rulD (R.drop v ++ R.take v) := by simp [rulD]
      rw [c]
      refine ⟨by simp [rulD]; omega, .keep (S := upo S p o3) (Sub.new (by rw [upo_ne pa.symm]; exact ha')) (h _ o3 (by simp; omega) ⟨fun r hr => ?_⟩ fo3)⟩
      rcases List.mem_append.mp hr with hr | hr
      · exact oy.r r (List.mem_of_mem_drop hr)
      · exact oy.r r (List.mem_of_mem_take hr)
  simp [dstart]
  refine ⟨p, 2, n, o, by simp, by decide, by decide, hp, fo, by omega, fun u o1 hu fo1 => ?_⟩
  simp
  split
  · subst hA
    simp
    rw [show (strsD hs).reverse = strsD hs.reverse by simp [strsD]]
    exact tail hs.reverse o1 (by simp) (fun x hx => hnm x (by simpa using hx)) fo1
  · subst hB
    simp
    exact tail hs o1 rfl hnm fo1
end L67
set_option maxRecDepth 100000
set_option maxHeartbeats 4000000
namespace L67
open PySem PySem.Spec L2
open L63
open Rc
open Sh hiding N_l_feed N_l_leaf N_l_names N_l_pattern deeps_le deeps_mem r_l_feed r_l_leaf r_l_names r_l_pattern sp_l_leaf sp_l_leaf_mono sp_l_names sp_l_names_mono sp_l_pattern sp_l_pattern_mono t_l_feed t_l_leaf t_l_names t_l_pattern
open Dt hiding nkeys sp_l_feed sp_l_feed_mono
/-! K67w: the law. -/
def sp_law : DSp := fun ds S Q _ => ∃ ns : List Int, ds = [.rol (ns.map D.int)] ∧ ns.length ≤ 63 ∧ ∀ S', Q (.bl true) S'
theorem sp_law_mono : SpMono sp_law := fun ds S Q Q' E E' k _ ⟨ns, h1, h2, h⟩ => ⟨ns, h1, h2, fun S' => k _ _ (h S')⟩
theorem nm_lits : Nm "u" ∧ Nm "uu" ∧ Nm "m" := by unfold Nm; decide +kernel
theorem idx_ex {od : List Str} {w : Str} (nd : od.Nodup) (h : w ∈ od) : ∃ j : Nat, od[j]? = some w ∧ ∀ m : Nat, m < j → od[m]? ≠ some w := by
  obtain ⟨j, hj, rfl⟩ := List.mem_iff_getElem.mp h
  refine ⟨j, by simp [hj], fun (m : Nat) hm e => ?_⟩
  have hm' : m < od.length := by omega
  rw [List.getElem?_eq_getElem hm'] at e
  have := (List.getElem_inj nd).mp (Option.some.inj e)
  omega
theorem seqD_nl {S : DH} {d : D} {ds : List D} {q : Addr} {o : Ob} (e : seqD S d = some ds) (h : ∀ xs, S q ≠ some (.lst xs)) : seqD (upo S q o) d = some ds := by
  cases d with
  | ref a =>
    have : a ≠ q := fun z => by
      subst z
      simp only [seqD_ref] at e
      cases c : S a with
      | none => simp [c] at e
      | some u => cases u <;> first | exact h _ c | simp [c] at e
    simp only [seqD_ref, upo_ne this] at e ⊢
    exact e
  | rol xs => exact e
  | _ => cases e
theorem rul_sm {R : Rl} (h : OkY R) : ∀ x ∈ rulD R, Sm 60 x := fun x hx => by
  obtain ⟨r, hr, rfl⟩ := List.mem_map.mp hx
  obtain ⟨h1, h2, h3, _⟩ := h.r r hr
  refine Sm_tup.mpr fun d hd => ?_
  simp at hd
  rcases hd with rfl | rfl
  · exact Sm_str.mpr (nm_ok h1)
  · exact (pt_sm _ h2).mono (by omega)
theorem list_af {S : DH} {d : D} {ds : List D} {Q : DK} (h : seqD S d = some ds) (k : Q (.rol ds) S) : cListAF [d] S Q := by
  cases d with
  | rol xs => cases h; exact .inl k
  | ref a =>
    refine .inl ?_
    show opt (seqD S (.ref a)) fun xs => Q (.rol xs) S
    rw [h]
    exact k
  | _ => cases h
theorem strs_srt {a b : List Str} (ha : a.Nodup) (hb : b.Nodup) (h : ∀ x, x ∈ a ↔ x ∈ b) (hs : ∀ x ∈ a, okS x) : srtD (strsD a) = srtD (strsD b) :=
  srt_one (t := .str) (fun d hd => by
    obtain ⟨x, hx, rfl⟩ := List.mem_map.mp hd
    exact hs x hx) ((perm_of_mem ha hb h).map _)
theorem ptD_tup (p : Pt) : ∃ r, ptD p = .tup r := by
  cases p with
  | stay => exact ⟨_, rfl⟩
  | step b w => exact ⟨_, rfl⟩
  | mark b m => cases b <;> exact ⟨_, rfl⟩
  | seq b ps => cases b <;> exact ⟨_, rfl⟩
  | many q => exact ⟨_, rfl⟩
theorem strs_sty {a : List Str} (hs : ∀ x ∈ a, okS x) : ∃ t, sortTy t = true ∧ ∀ d ∈ strsD a, hasTy t d = true := ⟨.str, rfl, fun d hd => by
    obtain ⟨x, hx, rfl⟩ := List.mem_map.mp hd
    exact hs x hx⟩
theorem srt_sm {a : List Str} (hs : ∀ x ∈ a, okS x) : Sm 60 (.rol (srtD (strsD a))) := Sm_rol (n := 59).mpr fun e he => by
  obtain ⟨y, hy, rfl⟩ := List.mem_map.mp (srt_mem.mp he)
  exact Sm_str.mpr (hs y hy)
theorem good_ring {R : Rl} {od rg : List Str} (g : Good R od) (f : ∀ x ∈ HR R, x ∈ od) (r : Ring R rg) : False :=
  r.ne (good_none g (fun x hx => f x (r.sub x hx)) fun x hx => by
    obtain ⟨i, hi, rfl⟩ := List.mem_iff_getElem.mp hx
    refine ⟨_, r.go i hi, ?_⟩
    have hm : (i + 1) % rg.length < rg.length := Nat.mod_lt _ (by omega)
    rw [List.getD_eq_getElem?_getD, List.getElem?_eq_getElem hm]
    exact List.getElem_mem hm)
def t_law (C_GoesRound : Addr) : DTS := (dSeq (dAsg (dCall sp_l_feed (dCons (dVar 0) dNil)) (dGN 1))
    (dSeq (dAsg (dCall sp_l_names (dCons (dVar 1) (dCons (dOp dAddF (dC (.int 1)) (dCall sp_l_draw (dCons (dVar 1) (dCons (dC (.int 4)) dNil)))) dNil))) (dGN 2))
    (dSeq (dAsg (dSlF (dLstF (dCons (dC (.str "m")) dNil)) dNoP (dSoP (dCall sp_l_draw (dCons (dVar 1) (dCons (dC (.int 2)) dNil))))) (dGN 3))
    (dSeq (dAsg (dLst dNil) (dGN 4))
    (dSeq (dAsg (dOp (dEq false) (dCall sp_l_draw (dCons (dVar 1) (dCons (dC (.int 2)) dNil))) (dC (.int 1))) (dGN 5))
    (dSeq (dFor (dRng1 (dCons (dCall sp_l_draw (dCons (dVar 1) (dCons (dC (.int 5)) dNil))) dNil)) (dGN 6)
      (dSeq (dAsg (dCall sp_l_draw (dCons (dVar 1) (dCons (dCB cLen (dCons (dVar 2) dNil)) dNil))) (dGN 7))
    (dSeq (dAsg (dOp dAddF (dVar 2) (dLstF (dCons (dC (.str "u")) (dCons (dC (.str "uu")) dNil)))) (dGN 8))
    (dSeq (dIf (dTest (dVar 5))
      (dAsg (dOp dAddF (dSlF (dVar 2) (dSoP (dOp dAddF (dVar 7) (dC (.int 1)))) dNoP) (dLstF (dCons (dC (.str "u")) (dCons (dC (.str "uu")) dNil)))) (dGN 8))
      dNx)
    (dSeq (dAsg (dCall (sp_l_pattern 4) (dCons (dVar 1) (dCons (dVar 8) (dCons (dVar 3) (dCons (dLst (dCons (dOp dAddF (dC (.int 1)) (dCall sp_l_draw (dCons (dVar 1) (dCons (dC (.int 6)) dNil)))) dNil)) (dCons (dC (.int 3)) dNil)))))) (dGN 9))
    (dDrop (dBM "list" mAppend (dVar 4) (dCons (dTup (dCons (dOp dIxS (dVar 2) (dVar 7)) (dCons (dVar 9) dNil))) dNil))))))))
    (dSeq (dIf (dTest (dOp (dEq false) (dCall sp_l_draw (dCons (dVar 1) (dCons (dC (.int 4)) dNil))) (dC (.int 0))))
      (dAsg (dCall sp_l_lead_in (dCons (dVar 1) (dCons (dVar 2) dNil))) (dGN 4))
      dNx)
    (dSeq (dAsg (dCall sp_l_led (dCons (dVar 4) dNil)) (dGN 10))
    (dSeq (dAsg (dCall (sp_l_pattern 4) (dCons (dVar 1) (dCons (dOp dAddF (dVar 2) (dLstF (dCons (dC (.str "u")) dNil))) (dCons (dVar 3) (dCons (dLst (dCons (dOp dAddF (dC (.int 1)) (dCall sp_l_draw (dCons (dVar 1) (dCons (dC (.int 3)) dNil)))) dNil)) (dCons (dC (.int 2)) dNil)))))) (dGN 9))
    (dSeq (dAsg (dCB cListAF (dCons (dVar 4) dNil)) (dGN 11))
    (dSeq (dAsg (dCall (sp_l_asked C_GoesRound) (dCons (dC (.int 0)) (dCons (dVar 11) (dCons (dVar 9) dNil)))) (dGTupA 3 (dGCons (dGN 12) (dGCons (dGN 13) (dGCons (dGN 14) dGNil)))))
    (dSeq (dAsg (dCall (sp_l_asked C_GoesRound) (dCons (dC (.int 1)) (dCons (dVar 11) (dCons (dVar 9) dNil)))) (dGN 15))
    (dSeq (dIf (dOr (dTest (dOp (dEq true) (dVar 11) (dVar 4))) (dOr (dNot (dTest (dVar 14))) (dNot (dTest (dOp dIxS (dVar 15) (dC (.int 2)))))))
      (dRet (dC (.bl false)))
      dNx)
    (dSeq (dIf (dTest (dCall sp_l_goes_round (dCons (dVar 10) dNil)))
      (dRet (dAndV (dOp (dIsN false) (dVar 12) (dC .non)) (dAndV (dCall sp_l_ring (dCons (dVar 10) (dCons (dVar 13) dNil))) (dAndV (dOp (dIsN false) (dOp dIxS (dVar 15) (dC (.int 0))) (dC .non)) (dCall sp_l_ring (dCons (dVar 10) (dCons (dOp dIxS (dVar 15) (dC (.int 1))) dNil)))))))
      dNx)
    (dSeq (dIf (dOr (dNot (dTest (dIsi "list" (dVar 12)))) (dOr (dTest (dOp (dEq true) (dCB cSortAF (dCons (dVar 12) dNil)) (dCB cSortAF (dCons (dVar 10) dNil)))) (dTest (dOp (dIsN false) (dOp dIxS (dVar 15) (dC (.int 0))) (dC .non)))))
      (dRet (dC (.bl false)))
      dNx)
    (dSeq (dLock (dFor (dKeyI (dVar 10)) (dGN 16)
      (dIf (dTest (dOp (dEq true) (dFz (dLc (dSeqI (dOp dIxU (dVar 10) (dVar 16))) (dGN 17) (dTest (dOp rGt (dBM "list" mIndex (dVar 12) (dCons (dVar 17) dNil)) (dBM "list" mIndex (dVar 12) (dCons (dVar 16) dNil)))) (dVar 17) [17])) (dLstF dNil)))
      (dRet (dC (.bl false)))
      dNx)))
    (dRet (dC (.bl true)))))))))))))))))))
abbrev N_law : List Str := ["_law_script", "_law_feed_here", "_law_heads", "_law_marks", "_law_rules", "_law_onward", "_law_k", "_law_at", "_law_words", "_law_pattern_here", "_law_led_here", "_law_handed", "_law_told", "_law_ring_here", "_law_alone", "_law_again", "_law_word", "_law_one"]
theorem r_law {CG : Addr} (ds S Q E) (h : sp_law ds S Q E) : t_law CG (dEnd Q E) (dstart N_law ds) S := by
  obtain ⟨ns, rfl, hl, h⟩ := h
  obtain ⟨nmu, nmuu, nmm⟩ := nm_lits
  unfold t_law
  refine dSeq_gen fun R1 hR => ?_
  simp [dstart]
  refine ⟨ns, rfl, hl, fun p o hp fo => ?_⟩
  subst hR
  refine dSeq_gen fun R1 hR => ?_
  simp
  refine ⟨p, 4, 0, o, by simp, by decide, by decide, by simp, fo, by decide, fun v1 o1 b1 fo1 => ?_⟩
  rw [upo_upo]
  refine ⟨p, 1 + v1, 1, o1, by simp, by omega, by simp, fo1.more (by omega), by decide, fun ws o2 w1 w2 w3 fo2 => ?_⟩
  rw [upo_upo]
  subst hR
  refine dSeq_gen fun R1 hR => ?_
  simp
  refine ⟨p, 2, 3, o2, by simp, by decide, by decide, by simp, fo2, by decide, fun v2 o3 b2 fo3 => ?_⟩
  rw [upo_upo]
  simp
  obtain ⟨ms, ems, hms, hml⟩ : ∃ ms : List Str, [D.str "m"].take v2 = strsD ms ∧ (∀ m ∈ ms, Nm m) ∧ ms.length ≤ 1 := ⟨[Str.ofString "m"].take v2, by rw [strsD, List.map_take]; rfl, fun m hm => by
    have := List.mem_of_mem_take hm
    simp at this
    rw [this]
    exact nmm, by simp; omega⟩
  rw [ems]
  subst hR
  refine dSeq_gen fun R1 hR => ?_
  simp
  intro a ha
  have pa : p ≠ a := fun z => by rw [← z] at ha; simp at ha
  subst hR
  refine dSeq_gen fun R1 hR => ?_
  simp
  refine ⟨p, 2, 4, o3, by simp, by decide, by decide, by rw [upo_ne pa]; simp, fo3, by decide, fun v3 o4 b3 fo4 => ?_⟩
  rw [upo_comm pa.symm, upo_upo]
  simp
  subst hR
  refine dSeqFor_gen fun B R1 hB hR => ?_
  simp
  refine ⟨p, 5, 5, o4, by simp, by decide, by decide, by rw [upo_ne pa]; simp, fo4, by decide, fun v4 o5 b4 fo5 => ?_⟩
  rw [upo_comm pa.symm, upo_upo]
  simp
  refine ⟨by omega, ?_⟩
  generalize ((v3 : Int) == 1) = bo
  refine loop_inv (fun i τ S' => ∃ (R : Rl) (o8 : Ob) (x6 x7 x8 x9 : Option D), τ = [some (.rol (ns.map D.int)), some (.ref p), some (.rol (strsD ws)), some (.rol (strsD ms)), some (.ref a), some (.bl bo), x6, x7, x8, x9, none, none, none, none, none, none, none, none] ∧
    S' p = some o8 ∧ FeedC (6 + i * 26) o8 ∧ S' a = some (.lst (rulD R)) ∧ R.length = i ∧ OkY R) ⟨[], o5, none, none, none, none, rfl, by rw [upo_ne pa]; simp, fo5.more (by omega), by simp [rulD], rfl, ⟨fun r h => nomatch h⟩⟩ (fun _ _ _ _ _ => trivial) ?_ ?_
  · rintro i d τ S1 N hd ⟨R, o8, x6, x7, x8, x9, rfl, hp8, fo8, ha8, rl, oy⟩ hN
    have hi : i < v4 := by
      have h1 := (List.getElem?_eq_some_iff.mp hd).1
      simp [rngD] at h1
      omega
    subst hB
    refine dSeq_gen fun R' hR' => ?_
    simp
    refine ⟨p, ws.length, 6 + i * 26, o8, by simp [strsD], by omega, by omega, hp8, fo8, by omega, fun u o9 hu fo9 => ?_⟩
    have hu2 : u < ws.length := hu
    have eu : atI (strsD ws) (u : Int) = some (.str ws[u]) := atI_nat (by simp [strsD, hu2])
    subst hR'
    refine dSeq_gen fun R' hR' => ?_
    simp [catD]
    have cat : ∀ l : List Str, strsD l ++ [D.str (Str.ofString "u"), D.str (Str.ofString "uu")] = strsD (l ++ [Str.ofString "u", Str.ofString "uu"]) := fun l => by simp [strsD]
    refine ⟨by omega, ?_⟩
    rw [cat]
    subst hR'
    refine dSeqIf_gen fun A1 B1 R' hA hB hR' => ?_
    have body : ∀ wl : List Str, wl.length ≤ 100 → (∀ w ∈ wl, Nm w) → R' { nx := N, rt := Rt Q, bk := R1 (dEnd Q E), ct := N, xe := fun C fs x S' => ∃ S'', Dt.Sub S'' S' ∧ E C fs S'' }
        [some (.rol (ns.map D.int)), some (.ref p), some (.rol (strsD ws)), some (.rol (strsD ms)), some (.ref a), some (.bl bo), some d, some (.int (u : Nat)), some (.rol (strsD wl)), x9, none, none, none, none, none, none, none, none] (upo S1 p o9) := by
      intro wl wl1 wl2
      subst hR'
      refine dSeq_gen fun R' hR' => ?_
      simp
      refine ⟨p, 6, 6 + i * 26 + 1, o9, by simp, by decide, by decide, by simp, fo9, by omega, fun v6 o10 b6 fo10 => ?_⟩
      rw [upo_upo]
      intro q hq
      have npq : p ≠ q := fun z => by rw [← z] at hq; simp at hq
      have naq : a ≠ q := fun z => by rw [← z, upo_ne pa.symm] at hq; rw [ha8] at hq; cases hq
      refine ⟨p, q, wl, ms, 3, 1 + v6, 6 + i * 26 + 2, o10, by simp, by omega, by omega, hms, by decide, by rw [upo_ne npq]; simp, fo10.more (by omega), by omega, by omega, by simp, by omega, fun t o11 c ok dp al fo11 => ?_⟩
      rw [upo_comm npq.symm, upo_upo, upo_upo]
      have a5 : upo (upo S1 p o11) q (.lst [.int (c : Nat)]) a = some (.lst (rulD R)) := by rw [upo_ne naq, upo_ne pa.symm]; exact ha8
      have p5 : upo (upo S1 p o11) q (.lst [.int (c : Nat)]) p = some o11 := by rw [upo_ne npq]; simp
      generalize upo (upo S1 p o11) q (.lst [.int (c : Nat)]) = S5 at a5 p5 ⊢
      have okp := okc_okp ok wl2 hms
      subst hR'
      simp [eu, a5]
      have e5 : rulD R ++ [D.tup [.str ws[u], ptD t]] = rulD (R ++ [(ws[u], t)]) := by simp [rulD]
      refine ⟨by simp [rulD]; omega, ?_⟩
      rw [e5]
      refine hN _ _ ⟨R ++ [(ws[u], t)], o11, _, _, _, _, rfl, by rw [upo_ne pa]; exact p5, fo11.more (by omega), by simp, by simp [rl], ⟨fun r hr => ?_⟩⟩
      rcases List.mem_append.mp hr with hr | hr
      · exact oy.r r hr
      · rw [List.mem_singleton.mp hr]
        exact ⟨w2 _ (List.getElem_mem hu2), okp, dp, by show t.all.length ≤ 100; omega, fun q hq => Nat.le_trans (okc_few ok q hq) (by decide)⟩
    cases bo
    · show B1 _ _ _
      subst hB
      show R' _ _ _
      exact body _ (by simp; omega) (fun w hw => by
        simp at hw
        rcases hw with hw | rfl | rfl
        · exact w2 _ hw
        · exact nmu
        · exact nmuu)
    · simp
      subst hA
      simp [catD]
      rw [show (strsD ws).drop (u + 1) = strsD (ws.drop (u + 1)) by simp [strsD], cat]
      refine ⟨by omega, ?_⟩
      exact body _ (by simp; omega) (fun w hw => by
        simp at hw
        rcases hw with hw | rfl | rfl
        · exact w2 _ (List.mem_of_mem_drop hw)
        · exact nmu
        · exact nmuu)
  · rintro τ S1 ⟨R, o8, x6, x7, x8, x9, rfl, hp8, fo8, ha8, rl, oy⟩
    have rl : R.length ≤ 4 := by rw [rl]; simp [rngD]; omega
    have fo8 : FeedC 200 o8 := fo8.more (by simp [rngD]; omega)
    dsimp only
    subst hR
    refine dSeqIf_gen fun A1 B1 R1 hA hB hR => ?_
    have tail : ∀ (dR : D) (R : Rl) (o9 : Ob) (S2 : DH), R.length ≤ 4 → OkY R → seqD S2 dR = some (rulD R) → S2 p = some o9 → FeedC 300 o9 → R1 (dEnd Q E)
        [some (.rol (ns.map D.int)), some (.ref p), some (.rol (strsD ws)), some (.rol (strsD ms)), some dR, some (.bl bo), x6, x7, x8, x9, none, none, none, none, none, none, none, none] S2 := by
      intro dR R o9 S2 rl oy hdR hp9 fo9
      have ok : OkR R := oy.ok rl
      subst hR
      refine dSeq_gen fun R1 hR => ?_
      simp
      refine ⟨R, dR, rfl, hdR, ok, fun b hb => ?_⟩
      have pb : p ≠ b := fun z => by rw [← z, hp9] at hb; cases hb
      have hdR := seqD_nl (q := b) (o := .dK (ledL R)) hdR fun xs z => by rw [hb] at z; cases z
      have hp9 : upo S2 b (.dK (ledL R)) p = some o9 := by rw [upo_ne pb]; exact hp9
      have hb9 : upo S2 b (.dK (ledL R)) b = some (.dK (ledL R)) := by simp
      generalize upo S2 b (.dK (ledL R)) = S3 at hdR hp9 hb9 ⊢
      subst hR
      refine dSeq_gen fun R1 hR => ?_
      simp [catD]
      have cat : strsD ws ++ [D.str (Str.ofString "u")] = strsD (ws ++ [Str.ofString "u"]) := by simp [strsD]
      refine ⟨by omega, ?_⟩
      rw [cat]
      refine ⟨p, 3, 300, o9, by simp, by decide, by decide, hp9, fo9, by decide, fun v6 o10 b6 fo10 => ?_⟩
      intro q hq
      have npq : p ≠ q := fun z => by rw [← z] at hq; simp at hq
      have nbq : b ≠ q := fun z => by rw [← z, upo_ne pb.symm] at hq; rw [hb9] at hq; cases hq
      refine ⟨p, q, ws ++ [Str.ofString "u"], ms, 2, 1 + v6, 301, o10, by simp, by simp; omega, by omega, hms, by decide, by rw [upo_ne npq]; simp, fo10, by omega, by omega, by simp, by omega, fun t o11 c ok1 dp al fo11 => ?_⟩
      rw [upo_comm npq.symm, upo_upo, upo_upo]
      have okp := okc_okp ok1 (fun w hw => by
        simp at hw
        rcases hw with hw | rfl
        · exact w2 _ hw
        · exact nmu) hms
      have few : ∀ q ∈ t.all, q.kids.length ≤ 200 := fun q hq => Nat.le_trans (okc_few ok1 q hq) (by decide)
      have hdR := seqD_nl (q := p) (o := o11) hdR (fo9.nl hp9)
      have hq3 : upo S3 p o11 q = none := by rw [upo_ne npq.symm] at hq ⊢; exact hq
      have hdR := seqD_nl (q := q) (o := .lst [.int (c : Nat)]) hdR fun xs z => by rw [hq3] at z; cases z
      have hb9 : upo (upo S3 p o11) q (.lst [.int (c : Nat)]) b = some (.dK (ledL R)) := by rw [upo_ne nbq, upo_ne pb.symm]; exact hb9
      generalize upo (upo S3 p o11) q (.lst [.int (c : Nat)]) = S4 at hdR hb9 ⊢
      subst hR
      refine dSeq_gen fun R1 hR => ?_
      simp [-cListAF]
      refine list_af hdR ?_
      subst hR
      refine dSeq_gen fun R1 hR => ?_
      simp
      refine ⟨0, R, t, rfl, ok, oy, okp, dp, few, fun od g f d hd => ?_, fun rg r => ?_⟩
      · simp at hd
        subst hd
        simp
        subst hR
        refine dSeq_gen fun R1 hR => ?_
        simp
        refine ⟨1, R, t, rfl, ok, oy, okp, dp, few, fun od' g' f' d hd => ?_, fun rg r => (good_ring g f r).elim⟩
        obtain ⟨p', rfl⟩ : ∃ p' : Pt, d = ptD p' := by simpa using hd
        subst hR
        refine dSeqIf_gen fun A1 B1 R1 hA hB hR => ?_
        simp
        refine dEq_seq (by simp) hdR (rul_sm oy) (rul_sm oy) ?_
        simp
        subst hB
        simp
        subst hR
        refine dSeqIf_gen fun A1 B1 R1 hA hB hR => ?_
        simp
        refine ⟨R, b, rfl, ok, hb9, fun b' hb1 hb2 => ?_⟩
        have := hb2 od g f
        subst this
        simp
        subst hB
        simp
        subst hR
        refine dSeqIf_gen fun A1 B1 R1 hA hB hR => ?_
        simp [-cSortAF]
        have okH : ∀ x ∈ HR R, okS x := fun x hx => nm_ok (ok.nm hx)
        have okO : ∀ x ∈ od, okS x := fun x hx => okH x (g.sub x hx)
        refine .inl ⟨strs_sty okO, ?_⟩
        refine .inr ?_
        have ek : keysD S4 (.ref b) = some (strsD (HR R)) := by simp [hb9, led_keys]
        rw [ek]
        refine ⟨strs_sty okH, ?_⟩
        rw [strs_srt g.nd (HR_nd R) (fun x => ⟨fun hx => g.sub x hx, fun hx => f x hx⟩) okO]
        refine dEq_sm (srt_sm okH) (srt_sm okH) ?_
        obtain ⟨pr, epr⟩ := ptD_tup p'
        rw [epr]
        simp
        subst hB
        simp
        subst hR
        refine dSeqLock_gen b (.dK (ledL R)) (.fK (ledL R)) hb9 rfl ?_
        refine dFor_gen fun B hB => ?_
        simp [led_keys]
        refine loop_inv (fun i τ S' => ∃ x16 x17 : Option D, τ = [some (.rol (ns.map D.int)), some (.ref p), some (.rol (strsD ws)), some (.rol (strsD ms)), some dR, some (.bl bo), x6, x7, x8, some (ptD t), some (.ref b), some (.rol (rulD R)),
          some (.rol (strsD od)), some .non, some (.bl true), some (.tup [.tup pr, .non, .bl true]), x16, x17] ∧ S' = upo S4 b (.fK (ledL R))) ⟨none, none, rfl, rfl⟩ (fun _ _ _ _ _ => trivial) ?_ ?_
        · rintro i d τ S5 N hd ⟨x16, x17, rfl, rfl⟩ hN
          have hi : i < (HR R).length := by
            have := (List.getElem?_eq_some_iff.mp hd).1
            simpa [strsD] using this
          obtain rfl : d = .str (HR R)[i] := by simp [strsD, hi] at hd; exact hd.symm
          have hw := List.getElem_mem hi
          generalize (HR R)[i] = w at hw hN
          have elw := lk_led hw
          subst hB
          refine dIf_gen7 fun A2 B2 hA2 hB2 => ?_
          simp [elw]
          have smO : ∀ e ∈ strsD od, Sm 60 e := strs_sm okO
          have at7 : ∀ (y : Str) (j : Nat), (strsD od)[j]? = some (.str y) ↔ od[j]? = some y := fun y j => by
            unfold strsD
            rw [List.getElem?_map]
            cases od[j]? with
            | none => simp
            | some z => simp
          refine fil_lc (f := fun _ => false) (by simp) (by have := List.length_filter_le (fun x => decide (x ∈ sws R w) || decide (Str.ofString "*" ∈ sws R w)) (HR R); have := ok.hl; show (led R w).length ≤ 1000; unfold led; omega) (fun x hx E' S' q acc K hq e hK => ?_) ?_
          · have hx2 := f x (led_sub hx)
            obtain ⟨j, hj, mj⟩ := idx_ex g.nd hx2
            obtain ⟨k, hk, mk⟩ := idx_ex g.nd (f w hw)
            have lt := good_at g hk hj hx
            simp
            refine ⟨_, strsD od, j, rfl, by simp, smO _ ((at7 x j).mpr hj |> List.mem_of_getElem?), smO, (at7 x j).mpr hj, fun m hm e => mj m hm ((at7 x m).mp e), ?_⟩
            refine ⟨_, strsD od, k, rfl, by simp, smO _ ((at7 w k).mpr hk |> List.mem_of_getElem?), smO, (at7 w k).mpr hk, fun m hm e => mk m hm ((at7 w m).mp e), ?_⟩
            have : ¬ ((k : Int) < (j : Int)) := by omega
            simp [this]
            exact hK
          · have e2 : ((led R w).filter fun _ => false) = [] := List.filter_eq_nil_iff.mpr fun x hx => by simp
            rw [e2]
            refine dEq_sm (rol_sm (l := []) fun x hx => nomatch hx) (Sm_rol (n := 59).mpr fun d hd => nomatch hd) ?_
            rw [strs_nil]
            simp
            subst hB2
            simp
            exact hN _ _ ⟨_, _, rfl, rfl⟩
        · rintro τ S5 ⟨x16, x17, rfl, rfl⟩
          simp
          exact .same (h _)
      · simp
        subst hR
        refine dSeq_gen fun R1 hR => ?_
        simp
        refine ⟨1, R, t, rfl, ok, oy, okp, dp, few, fun od' g' f' d hd => (good_ring g' f' r).elim, fun rg' r' => ?_⟩
        subst hR
        refine dSeqIf_gen fun A1 B1 R1 hA hB hR => ?_
        simp
        refine dEq_seq (by simp) hdR (rul_sm oy) (rul_sm oy) ?_
        simp
        subst hB
        simp
        subst hR
        refine dSeqIf_gen fun A1 B1 R1 hA hB hR => ?_
        simp
        refine ⟨R, b, rfl, ok, hb9, fun b' hb1 hb2 => ?_⟩
        have := hb1 rg r
        subst this
        simp
        subst hA
        simp
        refine ⟨R, b, rg, rfl, ok, hb9, r, ?_⟩
        simp
        refine ⟨R, b, rg', rfl, ok, hb9, r', ?_⟩
        exact .same (h _)
    simp
    refine ⟨p, 4, 200, o8, by simp, by decide, by decide, hp8, fo8, by decide, fun v7 o9 b7 fo9 => ?_⟩
    simp
    split
    · subst hA
      simp
      refine ⟨p, ws, 201, o9, by simp, by omega, by omega, w2, by simp, fo9, by decide, fun R' o10 rl' oy' fo10 => ?_⟩
      rw [upo_upo]
      exact tail _ R' o10 _ rl' oy' rfl (by simp) (fo10.more (by decide))
    · subst hB
      simp
      exact tail _ R o9 _ rl oy (by simp [pa.symm, upo_ne, ha8]) (by simp) (fo9.more (by decide))
end L67
set_option maxRecDepth 100000
set_option maxHeartbeats 4000000
namespace K67X
open PySem PySem.Spec L2
open L67
open L63
open Rc
open Sh hiding N_l_feed N_l_leaf N_l_names N_l_pattern deeps_le deeps_mem r_l_feed r_l_leaf r_l_names r_l_pattern sp_l_leaf sp_l_leaf_mono sp_l_names sp_l_names_mono sp_l_pattern sp_l_pattern_mono t_l_feed t_l_leaf t_l_names t_l_pattern
open Dt hiding nkeys sp_l_feed sp_l_feed_mono
/-! the text by places -/
def topS (i : Nat) : Stmt := PySem.Challenge.pw_pathask_k67_orders_and_rings.main.body.getD i (.Pass ⟨0, 0, 0, 0⟩)
abbrev s_GoesRound_init : Stmt := inClass (topS 8) 0
theorem sc_GoesRound_init : FnScope ["self", "ring"] ["self", "ring"] (defScope s_GoesRound_init) := ⟨rfl, rfl, rfl, by decide +kernel, rfl, by decide +kernel, by decide +kernel⟩
abbrev s_parts_by : Stmt := topS 14
theorem sc_parts_by : FnScope ["pattern"] ["pattern"] (defScope s_parts_by) := ⟨rfl, rfl, rfl, by decide +kernel, rfl, by decide +kernel, by decide +kernel⟩
abbrev s_l_feed : Stmt := topS 23
theorem sc_l_feed : FnScope ["_law_script"] ["_law_script"] (defScope s_l_feed) := ⟨rfl, rfl, rfl, by decide +kernel, rfl, by decide +kernel, by decide +kernel⟩
abbrev s_l_draw : Stmt := topS 24
theorem sc_l_draw : FnScope ["_law_feed_here", "_law_many", "_law_found", "_law_at", "_law_cell", "_law_number"] ["_law_feed_here", "_law_many"] (defScope s_l_draw) := ⟨rfl, rfl, rfl, by decide +kernel, rfl, by decide +kernel, by decide +kernel⟩
abbrev s_l_goes_round : Stmt := topS 30
theorem sc_l_goes_round : FnScope ["_law_led_here", "_law_left", "_law_again", "_law_word", "_law_one"] ["_law_led_here"] (defScope s_l_goes_round) := ⟨rfl, rfl, rfl, by decide +kernel, rfl, by decide +kernel, by decide +kernel⟩
abbrev s_l_ring : Stmt := topS 31
theorem sc_l_ring : FnScope ["_law_led_here", "_law_ring_here", "_law_word", "_law_k"] ["_law_led_here", "_law_ring_here"] (defScope s_l_ring) := ⟨rfl, rfl, rfl, by decide +kernel, rfl, by decide +kernel, by decide +kernel⟩
abbrev s_l_names : Stmt := topS 25
theorem sc_l_names : FnScope ["_law_feed_here", "_law_many", "_law_some", "_law_names_here", "_law_at"] ["_law_feed_here", "_law_many"] (defScope s_l_names) := ⟨rfl, rfl, rfl, by decide +kernel, rfl, by decide +kernel, by decide +kernel⟩
abbrev s_l_leaf : Stmt := topS 26
theorem sc_l_leaf : FnScope ["_law_feed_here", "_law_words", "_law_marks", "_law_way"] ["_law_feed_here", "_law_words", "_law_marks"] (defScope s_l_leaf) := ⟨rfl, rfl, rfl, by decide +kernel, rfl, by decide +kernel, by decide +kernel⟩
abbrev s_l_lead_in : Stmt := topS 33
theorem sc_l_lead_in : FnScope ["_law_feed_here", "_law_heads", "_law_line", "_law_rules", "_law_k", "_law_at"] ["_law_feed_here", "_law_heads"] (defScope s_l_lead_in) := ⟨rfl, rfl, rfl, by decide +kernel, rfl, by decide +kernel, by decide +kernel⟩
abbrev s_l_words_in : Stmt := topS 28
theorem sc_l_words_in : FnScope ["_law_pattern_here", "_law_found", "_law_one"] ["_law_pattern_here"] (defScope s_l_words_in) := ⟨rfl, rfl, rfl, by decide +kernel, rfl, by decide +kernel, by decide +kernel⟩
abbrev s_step_words : Stmt := topS 15
theorem sc_step_words : FnScope ["pattern", "found", "one"] ["pattern"] (defScope s_step_words) := ⟨rfl, rfl, rfl, by decide +kernel, rfl, by decide +kernel, by decide +kernel⟩
abbrev s_l_pattern : Stmt := topS 27
theorem sc_l_pattern : FnScope ["_law_feed_here", "_law_words", "_law_marks", "_law_bag", "_law_deep", "_law_way", "_law_some", "_law_k"] ["_law_feed_here", "_law_words", "_law_marks", "_law_bag", "_law_deep"] (defScope s_l_pattern) := ⟨rfl, rfl, rfl, by decide +kernel, rfl, by decide +kernel, by decide +kernel⟩
abbrev s_l_led : Stmt := topS 29
theorem sc_l_led : FnScope ["_law_rules", "_law_heads", "_law_led_here", "_law_word", "_law_some", "_law_head", "_law_pattern_here", "_law_rule", "_law_one"] ["_law_rules"] (defScope s_l_led) := ⟨rfl, rfl, rfl, by decide +kernel, rfl, by decide +kernel, by decide +kernel⟩
abbrev s_led_to : Stmt := topS 16
theorem sc_led_to : FnScope ["words", "rules", "word", "found", "head", "pattern", "one"] ["words", "rules", "word"] (defScope s_led_to) := ⟨rfl, rfl, rfl, by decide +kernel, rfl, by decide +kernel, by decide +kernel⟩
abbrev s_lay_order : Stmt := topS 17
theorem sc_lay_order : FnScope ["words", "rules", "word", "trail", "order", "one"] ["words", "rules", "word", "trail", "order"] (defScope s_lay_order) := ⟨rfl, rfl, rfl, by decide +kernel, rfl, by decide +kernel, by decide +kernel⟩
abbrev s_order_of : Stmt := topS 18
theorem sc_order_of : FnScope ["rules", "words", "order", "word", "rule"] ["rules"] (defScope s_order_of) := ⟨rfl, rfl, rfl, by decide +kernel, rfl, by decide +kernel, by decide +kernel⟩
abbrev s_backwards : Stmt := topS 11
theorem sc_backwards : FnScope ["pattern", "one"] ["pattern"] (defScope s_backwards) := ⟨rfl, rfl, rfl, by decide +kernel, rfl, by decide +kernel, by decide +kernel⟩
abbrev s_ways_for : Stmt := topS 19
theorem sc_ways_for : FnScope ["meant", "side", "word", "found", "one", "pattern"] ["meant", "side", "word"] (defScope s_ways_for) := ⟨rfl, rfl, rfl, by decide +kernel, rfl, by decide +kernel, by decide +kernel⟩
abbrev s_put_for : Stmt := topS 20
theorem sc_put_for : FnScope ["pattern", "meant", "one"] ["pattern", "meant"] (defScope s_put_for) := ⟨rfl, rfl, rfl, by decide +kernel, rfl, by decide +kernel, by decide +kernel⟩
abbrev s_unfolded : Stmt := topS 21
theorem sc_unfolded : FnScope ["pattern", "rules", "meant", "word", "head", "one"] ["pattern", "rules"] (defScope s_unfolded) := ⟨rfl, rfl, rfl, by decide +kernel, rfl, by decide +kernel, by decide +kernel⟩
abbrev s_l_asked : Stmt := topS 32
theorem sc_l_asked : FnScope ["_law_way", "_law_rules", "_law_pattern_here", "_law_told", "_law_ring_here", "_law_alone", "e"] ["_law_way", "_law_rules", "_law_pattern_here"] (defScope s_l_asked) := ⟨rfl, rfl, rfl, by decide +kernel, rfl, by decide +kernel, by decide +kernel⟩
abbrev s_law : Stmt := topS 34
theorem sc_law : FnScope ["_law_script", "_law_feed_here", "_law_heads", "_law_marks", "_law_rules", "_law_onward", "_law_k", "_law_at", "_law_words", "_law_pattern_here", "_law_led_here", "_law_handed", "_law_told", "_law_ring_here", "_law_alone", "_law_again", "_law_word", "_law_one"] ["_law_script"] (defScope s_law) := ⟨rfl, rfl, rfl, by decide +kernel, rfl, by decide +kernel, by decide +kernel⟩
structure Txt (w : World) (K : PySem.W.Frag) (mg : Str → Option Value) where
  C_GoesRound : Addr
  g_GoesRound : mg "GoesRound" = some (.ref C_GoesRound)
  C_NoKnot : Addr
  g_NoKnot : mg "NoKnot" = some (.ref C_NoKnot)
  C_NoName : Addr
  g_NoName : mg "NoName" = some (.ref C_NoName)
  C_NoTie : Addr
  g_NoTie : mg "NoTie" = some (.ref C_NoTie)
  C_PathError : Addr
  g_PathError : mg "PathError" = some (.ref C_PathError)
  C_TooLong : Addr
  g_TooLong : mg "TooLong" = some (.ref C_TooLong)
  C_TooMany : Addr
  g_TooMany : mg "TooMany" = some (.ref C_TooMany)
  C_Twice : Addr
  g_Twice : mg "Twice" = some (.ref C_Twice)
  a_GoesRound_init : Addr
  f_GoesRound_init : FuncData
  F_GoesRound_init : Fun K "__init__" "GoesRound.__init__" s_GoesRound_init a_GoesRound_init f_GoesRound_init
  x_GoesRound : ExT K C_GoesRound a_GoesRound_init ["ring"]
  d_GoesRound_init : Binds K f_GoesRound_init ["self", "ring"] []
  a_parts_by : Addr
  f_parts_by : FuncData
  F_parts_by : Fun K "parts_by" "parts_by" s_parts_by a_parts_by f_parts_by
  m_parts_by : mg "parts_by" = some (.ref a_parts_by)
  d_parts_by : Binds K f_parts_by ["pattern"] []
  a_l_feed : Addr
  f_l_feed : FuncData
  F_l_feed : Fun K "_law_feed" "_law_feed" s_l_feed a_l_feed f_l_feed
  m_l_feed : mg "_law_feed" = some (.ref a_l_feed)
  d_l_feed : Binds K f_l_feed ["_law_script"] []
  a_l_draw : Addr
  f_l_draw : FuncData
  F_l_draw : Fun K "_law_draw" "_law_draw" s_l_draw a_l_draw f_l_draw
  m_l_draw : mg "_law_draw" = some (.ref a_l_draw)
  d_l_draw : Binds K f_l_draw ["_law_feed_here", "_law_many"] []
  a_l_goes_round : Addr
  f_l_goes_round : FuncData
  F_l_goes_round : Fun K "_law_goes_round" "_law_goes_round" s_l_goes_round a_l_goes_round f_l_goes_round
  m_l_goes_round : mg "_law_goes_round" = some (.ref a_l_goes_round)
  d_l_goes_round : Binds K f_l_goes_round ["_law_led_here"] []
  a_l_ring : Addr
  f_l_ring : FuncData
  F_l_ring : Fun K "_law_ring" "_law_ring" s_l_ring a_l_ring f_l_ring
  m_l_ring : mg "_law_ring" = some (.ref a_l_ring)
  d_l_ring : Binds K f_l_ring ["_law_led_here", "_law_ring_here"] []
  a_l_names : Addr
  f_l_names : FuncData
  F_l_names : Fun K "_law_names" "_law_names" s_l_names a_l_names f_l_names
  m_l_names : mg "_law_names" = some (.ref a_l_names)
  d_l_names : Binds K f_l_names ["_law_feed_here", "_law_many"] []
  a_l_leaf : Addr
  f_l_leaf : FuncData
  F_l_leaf : Fun K "_law_leaf" "_law_leaf" s_l_leaf a_l_leaf f_l_leaf
  m_l_leaf : mg "_law_leaf" = some (.ref a_l_leaf)
  d_l_leaf : Binds K f_l_leaf ["_law_feed_here", "_law_words", "_law_marks"] []
  a_l_lead_in : Addr
  f_l_lead_in : FuncData
  F_l_lead_in : Fun K "_law_lead_in" "_law_lead_in" s_l_lead_in a_l_lead_in f_l_lead_in
  m_l_lead_in : mg "_law_lead_in" = some (.ref a_l_lead_in)
  d_l_lead_in : Binds K f_l_lead_in ["_law_feed_here", "_law_heads"] []
  a_l_words_in : Addr
  f_l_words_in : FuncData
  F_l_words_in : Fun K "_law_words_in" "_law_words_in" s_l_words_in a_l_words_in f_l_words_in
  m_l_words_in : mg "_law_words_in" = some (.ref a_l_words_in)
  d_l_words_in : Binds K f_l_words_in ["_law_pattern_here"] []
  a_step_words : Addr
  f_step_words : FuncData
  F_step_words : Fun K "step_words" "step_words" s_step_words a_step_words f_step_words
  m_step_words : mg "step_words" = some (.ref a_step_words)
  d_step_words : Binds K f_step_words ["pattern"] []
  a_l_pattern : Addr
  f_l_pattern : FuncData
  F_l_pattern : Fun K "_law_pattern" "_law_pattern" s_l_pattern a_l_pattern f_l_pattern
  m_l_pattern : mg "_law_pattern" = some (.ref a_l_pattern)
  d_l_pattern : Binds K f_l_pattern ["_law_feed_here", "_law_words", "_law_marks", "_law_bag", "_law_deep"] []
  a_l_led : Addr
  f_l_led : FuncData
  F_l_led : Fun K "_law_led" "_law_led" s_l_led a_l_led f_l_led
  m_l_led : mg "_law_led" = some (.ref a_l_led)
  d_l_led : Binds K f_l_led ["_law_rules"] []
  a_led_to : Addr
  f_led_to : FuncData
  F_led_to : Fun K "led_to" "led_to" s_led_to a_led_to f_led_to
  m_led_to : mg "led_to" = some (.ref a_led_to)
  d_led_to : Binds K f_led_to ["words", "rules", "word"] []
  a_lay_order : Addr
  f_lay_order : FuncData
  F_lay_order : Fun K "lay_order" "lay_order" s_lay_order a_lay_order f_lay_order
  m_lay_order : mg "lay_order" = some (.ref a_lay_order)
  d_lay_order : Binds K f_lay_order ["words", "rules", "word", "trail", "order"] []
  a_order_of : Addr
  f_order_of : FuncData
  F_order_of : Fun K "order_of" "order_of" s_order_of a_order_of f_order_of
  m_order_of : mg "order_of" = some (.ref a_order_of)
  d_order_of : Binds K f_order_of ["rules"] []
  a_backwards : Addr
  f_backwards : FuncData
  F_backwards : Fun K "backwards" "backwards" s_backwards a_backwards f_backwards
  m_backwards : mg "backwards" = some (.ref a_backwards)
  d_backwards : Binds K f_backwards ["pattern"] []
  a_ways_for : Addr
  f_ways_for : FuncData
  F_ways_for : Fun K "ways_for" "ways_for" s_ways_for a_ways_for f_ways_for
  m_ways_for : mg "ways_for" = some (.ref a_ways_for)
  d_ways_for : Binds K f_ways_for ["meant", "side", "word"] []
  a_put_for : Addr
  f_put_for : FuncData
  F_put_for : Fun K "put_for" "put_for" s_put_for a_put_for f_put_for
  m_put_for : mg "put_for" = some (.ref a_put_for)
  d_put_for : Binds K f_put_for ["pattern", "meant"] []
  a_unfolded : Addr
  f_unfolded : FuncData
  F_unfolded : Fun K "unfolded" "unfolded" s_unfolded a_unfolded f_unfolded
  m_unfolded : mg "unfolded" = some (.ref a_unfolded)
  d_unfolded : Binds K f_unfolded ["pattern", "rules"] []
  a_l_asked : Addr
  f_l_asked : FuncData
  F_l_asked : Fun K "_law_asked" "_law_asked" s_l_asked a_l_asked f_l_asked
  m_l_asked : mg "_law_asked" = some (.ref a_l_asked)
  d_l_asked : Binds K f_l_asked ["_law_way", "_law_rules", "_law_pattern_here"] []
  a_law : Addr
  f_law : FuncData
  F_law : Fun K "law" "law" s_law a_law f_law
  m_law : mg "law" = some (.ref a_law)
  d_law : Binds K f_law ["_law_script"] []
  t_ANY_WORD : Tok
  g_ANY_WORD : mg "ANY_WORD" = some (.str "*" t_ANY_WORD)
  i_PathError : BaseI K C_PathError
  ex_PathError : ∀ p ∈ [(C_GoesRound, true)], PySem.W.exmOne K (.ref p.1) (.ref C_PathError) = some p.2
  kt_GoesRound : ∀ p ∈ [(C_GoesRound, true)], PySem.W.kitOne K (.ref p.1) (.ref C_GoesRound) = some p.2
  kt_ValueError : ∀ p ∈ [(C_GoesRound, true)], PySem.W.kitOne K (.ref p.1) (.type "ValueError") = some p.2
  kts_NoKnot_NoName_NoTie_TooLong_TooMany_Twice : ∀ p ∈ [(C_GoesRound, false)], PySem.W.kitAny K (.ref p.1) ([C_NoKnot, C_NoName, C_NoTie, C_TooLong, C_TooMany, C_Twice].map Value.ref) = some p.2
  a_OTHER_SIDES : Addr
  g_OTHER_SIDES : mg "OTHER_SIDES" = some (.ref a_OTHER_SIDES)
  k_OTHER_SIDES : KTbl K w a_OTHER_SIDES [("on", .str "back"), ("back", .str "on")]
  b_ValueError : mg "ValueError" = none
  b_isinstance : mg "isinstance" = none
  b_len : mg "len" = none
  b_list : mg "list" = none
  b_range : mg "range" = none
  b_reversed : mg "reversed" = none
  b_set : mg "set" = none
  b_sorted : mg "sorted" = none
  b_tuple : mg "tuple" = none
end K67X
set_option maxRecDepth 100000
set_option maxHeartbeats 4000000
namespace K67X
open PySem PySem.Spec L2
open L67
open L63
open Rc
open Sh hiding N_l_feed N_l_leaf N_l_names N_l_pattern deeps_le deeps_mem r_l_feed r_l_leaf r_l_names r_l_pattern sp_l_leaf sp_l_leaf_mono sp_l_names sp_l_names_mono sp_l_pattern sp_l_pattern_mono t_l_feed t_l_leaf t_l_names t_l_pattern
open Dt hiding nkeys sp_l_feed sp_l_feed_mono

/-! GoesRound_init -/
def t_GoesRound_init (C_GoesRound : Addr) : DTS := (dSeq (dDrop (dVeI C_GoesRound (dCons (dVar 0) (dCons (dOp dAddF (dC (.str "the rules go round: ")) (dBM "str" mJoin (dC (.str " ")) (dCons (dVar 1) dNil))) dNil))))
    (dPutX C_GoesRound "ring" (dVar 0) (dCB cListAF (dCons (dVar 1) dNil))))
abbrev N_GoesRound_init : List Str := ["self", "ring"]
theorem ok_GoesRound_init {P : Program} {w : World} {K : PySem.W.Frag} {mg : Str → Option Value} {base : Heap} (T : Txt w K mg) {sp : DSp}
    (mono : SpMono sp) (len : ∀ ds S Q E, sp ds S Q E → ds.length = 2)
    (h : ∀ ds S Q E, sp ds S Q E → (t_GoesRound_init T.C_GoesRound) (dEnd Q E) (dstart ["self", "ring"] ds) S) : DFn P w K mg base 1 T.a_GoesRound_init T.f_GoesRound_init ["self", "ring"] sp := by
  refine dfn_of2 (t := (t_GoesRound_init T.C_GoesRound)) T.F_GoesRound_init sc_GoesRound_init mono len (fun cdv A outer s H E hr gu => ?_) h
  have hu1 := hu_of hr
  have hu2 := hu_big hr
  exact (dss_cons (ds_expr (de_veinit T.i_PathError T.x_GoesRound.oc (by rfl) T.g_PathError (da_cons (dv 0) (da_cons (de_op od_addF de_str (de_bm PySem.F.plainAttrs_str PySem.F.slot_str_join PySem.F.type_str_join md_join de_str (da_cons (dv 1) da_nil))) da_nil))))
    (dss_one (ds_oput T.x_GoesRound.oc (T.x_GoesRound.no _ (by decide +kernel)) (dv 0) (de_callTy (cd_listAF rfl) (by rfl) T.b_list (by decide +kernel) (da_cons (dv 1) da_nil)))))

/-! parts_by -/
def t_parts_by : DTS := (dSeq (dIf (dTest (dOp (dEq false) (dOp dIxS (dVar 0) (dC (.int 0))) (dC (.str "many"))))
      (dRet (dLstF (dCons (dOp dIxS (dVar 0) (dC (.int 1))) dNil)))
      dNx)
    (dSeq (dIf (dTest (dOp (dIn false) (dOp dIxS (dVar 0) (dC (.int 0))) (dTup (dCons (dC (.str "then")) (dCons (dC (.str "either")) dNil)))))
      (dRet (dCB cListAF (dCons (dOp dIxS (dVar 0) (dC (.int 1))) dNil)))
      dNx)
    (dRet (dLstF dNil))))
abbrev N_parts_by : List Str := ["pattern"]
theorem ok_parts_by {P : Program} {w : World} {K : PySem.W.Frag} {mg : Str → Option Value} {base : Heap} (T : Txt w K mg) {sp : DSp}
    (mono : SpMono sp) (len : ∀ ds S Q E, sp ds S Q E → ds.length = 1)
    (h : ∀ ds S Q E, sp ds S Q E → t_parts_by (dEnd Q E) (dstart ["pattern"] ds) S) : DFn P w K mg base 1 T.a_parts_by T.f_parts_by ["pattern"] sp := by
  refine dfn_of2 (t := t_parts_by) T.F_parts_by sc_parts_by mono len (fun cdv A outer s H E hr gu => ?_) h
  have hu1 := hu_of hr
  have hu2 := hu_big hr
  exact (dss_cons (ds_if (dt_cmp (od_eq hr.units) (de_ix (ixD_any hu2) (dv 0) de_int) de_str (nomark _))
      (dss_one (ds_ret (de_lstF (da_cons (de_ix (ixD_any hu2) (dv 0) de_int) da_nil))))
      dss_nil)
    (dss_cons (ds_if (dt_cmp (od_in hu2) (de_ix (ixD_any hu2) (dv 0) de_int) (de_tup (da_cons de_str (da_cons de_str da_nil))) (by rfl))
      (dss_one (ds_ret (de_callTy (cd_listAF rfl) (by rfl) T.b_list (by decide +kernel) (da_cons (de_ix (ixD_any hu2) (dv 0) de_int) da_nil))))
      dss_nil)
    (dss_one (ds_ret (de_lstF da_nil)))))

/-! l_feed -/
def t_l_feed : DTS := (dRet (dDisp [("cells", (dCB cListAF (dCons (dSlF (dVar 0) dNoP (dSoP (dC (.int 63)))) dNil))), ("at", (dC (.int 0))), ("left", (dC (.int 0)))]))
abbrev N_l_feed : List Str := ["_law_script"]
theorem ok_l_feed {P : Program} {w : World} {K : PySem.W.Frag} {mg : Str → Option Value} {base : Heap} (T : Txt w K mg) {sp : DSp}
    (mono : SpMono sp) (len : ∀ ds S Q E, sp ds S Q E → ds.length = 1)
    (h : ∀ ds S Q E, sp ds S Q E → t_l_feed (dEnd Q E) (dstart ["_law_script"] ds) S) : DFn P w K mg base 1 T.a_l_feed T.f_l_feed ["_law_script"] sp := by
  refine dfn_of2 (t := t_l_feed) T.F_l_feed sc_l_feed mono len (fun cdv A outer s H E hr gu => ?_) h
  have hu1 := hu_of hr
  have hu2 := hu_big hr
  exact (dss_one (ds_ret (de_disp (DPs.cons (de_callTy (cd_listAF rfl) (by rfl) T.b_list (by decide +kernel) (da_cons (de_slF (dv 0) do_none (do_some de_int)) da_nil)) (DPs.cons de_int (DPs.cons de_int DPs.nil))))))

/-! l_draw -/
def t_l_draw : DTS := (dSeq (dIf (dTest (dOp rGt (dOp dIxS (dVar 0) (dC (.str "left"))) (dC (.int 0))))
      (dSeq (dAsg (dOp rMod (dOp dIxS (dVar 0) (dC (.str "left"))) (dVar 1)) (dGN 2))
    (dSeq (dPut (dVar 0) (dC (.str "left")) (dOp rFdiv (dOp dIxS (dVar 0) (dC (.str "left"))) (dVar 1)))
    (dRet (dVar 2))))
      dNx)
    (dSeq (dAsg (dOp dIxS (dVar 0) (dC (.str "at"))) (dGN 3))
    (dSeq (dPut (dVar 0) (dC (.str "at")) (dOp dAddF (dVar 3) (dC (.int 1))))
    (dSeq (dAsg (dVar 3) (dGN 4))
    (dSeq (dIf (dTest (dOp (dEq true) (dOp dIxS (dVar 0) (dC (.str "cells"))) (dLstF dNil)))
      (dAsg (dOp dIxS (dOp dIxS (dVar 0) (dC (.str "cells"))) (dOp rMod (dVar 3) (dCB cLen (dCons (dOp dIxS (dVar 0) (dC (.str "cells"))) dNil)))) (dGN 4))
      dNx)
    (dSeq (dIf (dTest (dOp rGe (dVar 4) (dOp rPow (dC (.int 10)) (dC (.int 18)))))
      (dSeq (dPut (dVar 0) (dC (.str "left")) (dOp rFdiv (dVar 4) (dVar 1)))
    (dRet (dOp rMod (dVar 4) (dVar 1))))
      dNx)
    (dSeq (dAsg (dOp rMod (dOp dMul (dOp dAddF (dOp dAddF (dOp dAddF (dOp rMod (dVar 4) (dC (.int 1000003))) (dOp dMul (dOp dMul (dC (.int 7)) (dVar 3)) (dVar 3))) (dOp dMul (dC (.int 31)) (dVar 3))) (dC (.int 1))) (dC (.int 48271))) (dC (.int 999983))) (dGN 5))
    (dSeq (dAsg (dOp rMod (dOp dMul (dOp dAddF (dOp dMul (dVar 5) (dVar 5)) (dVar 3)) (dC (.int 30269))) (dC (.int 2147483629))) (dGN 5))
    (dRet (dOp rMod (dOp rFdiv (dVar 5) (dC (.int 7))) (dVar 1)))))))))))
abbrev N_l_draw : List Str := ["_law_feed_here", "_law_many", "_law_found", "_law_at", "_law_cell", "_law_number"]
theorem ok_l_draw {P : Program} {w : World} {K : PySem.W.Frag} {mg : Str → Option Value} {base : Heap} (T : Txt w K mg) {sp : DSp}
    (mono : SpMono sp) (len : ∀ ds S Q E, sp ds S Q E → ds.length = 2)
    (h : ∀ ds S Q E, sp ds S Q E → t_l_draw (dEnd Q E) (dstart ["_law_feed_here", "_law_many", "_law_found", "_law_at", "_law_cell", "_law_number"] ds) S) : DFn P w K mg base 1 T.a_l_draw T.f_l_draw ["_law_feed_here", "_law_many"] sp := by
  refine dfn_of2 (t := t_l_draw) T.F_l_draw sc_l_draw mono len (fun cdv A outer s H E hr gu => ?_) h
  have hu1 := hu_of hr
  have hu2 := hu_big hr
  exact (dss_cons (ds_if (dt_cmp od_gt (de_ix (ixD_any hu2) (dv 0) de_str) de_int (nomark _))
      (dss_cons (ds_set (i := 2) sc_l_draw.nd rfl (by first | exact Or.inl rfl | exact Or.inr rfl) (de_op od_mod (de_ix (ixD_any hu2) (dv 0) de_str) (dv 1)))
    (dss_cons (ds_put hu2 (dv 0) de_str (de_op od_fdiv (de_ix (ixD_any hu2) (dv 0) de_str) (dv 1)))
    (dss_one (ds_ret (dv 2)))))
      dss_nil)
    (dss_cons (ds_set (i := 3) sc_l_draw.nd rfl (by first | exact Or.inl rfl | exact Or.inr rfl) (de_ix (ixD_any hu2) (dv 0) de_str))
    (dss_cons (ds_put hu2 (dv 0) de_str (de_op od_addF (dv 3) de_int))
    (dss_cons (ds_set (i := 4) sc_l_draw.nd rfl (by first | exact Or.inl rfl | exact Or.inr rfl) (dv 3))
    (dss_cons (ds_if (dt_cmp (od_ne hr.units) (de_ix (ixD_any hu2) (dv 0) de_str) (de_lstF da_nil) (nomark _))
      (dss_one (ds_set (i := 4) sc_l_draw.nd rfl (by first | exact Or.inl rfl | exact Or.inr rfl) (de_ix (ixD_any hu2) (de_ix (ixD_any hu2) (dv 0) de_str) (de_op od_mod (dv 3) (de_callB cd_len (by rfl) T.b_len (by decide +kernel) (da_cons (de_ix (ixD_any hu2) (dv 0) de_str) da_nil))))))
      dss_nil)
    (dss_cons (ds_if (dt_cmp od_ge (dv 4) (de_op od_pow de_int de_int) (nomark _))
      (dss_cons (ds_put hu2 (dv 0) de_str (de_op od_fdiv (dv 4) (dv 1)))
    (dss_one (ds_ret (de_op od_mod (dv 4) (dv 1)))))
      dss_nil)
    (dss_cons (ds_set (i := 5) sc_l_draw.nd rfl (by first | exact Or.inl rfl | exact Or.inr rfl) (de_op od_mod (de_op od_mul (de_op od_addF (de_op od_addF (de_op od_addF (de_op od_mod (dv 4) de_int) (de_op od_mul (de_op od_mul de_int (dv 3)) (dv 3))) (de_op od_mul de_int (dv 3))) de_int) de_int) de_int))
    (dss_cons (ds_set (i := 5) sc_l_draw.nd rfl (by first | exact Or.inl rfl | exact Or.inr rfl) (de_op od_mod (de_op od_mul (de_op od_addF (de_op od_mul (dv 5) (dv 5)) (dv 3)) de_int) de_int))
    (dss_one (ds_ret (de_op od_mod (de_op od_fdiv (dv 5) de_int) (dv 1))))))))))))

/-! l_goes_round -/
def t_l_goes_round : DTS := (dSeq (dAsg (dCB cListAF (dCons (dVar 0) dNil)) (dGN 1))
    (dSeq (dAsg (dC (.bl true)) (dGN 2))
    (dSeq (dWhile (dTest (dVar 2))
      (dSeq (dAsg (dC (.bl false)) (dGN 2))
    (dFor (dSeqI (dVar 1)) (dGN 3)
      (dIf (dTest (dOp (dEq false) (dFz (dLc (dSeqI (dOp dIxS (dVar 0) (dVar 3))) (dGN 4) (dTest (dOp (dIn false) (dVar 4) (dVar 1))) (dVar 4) [4])) (dLstF dNil)))
      (dSeq (dAsg (dFz (dLc (dSeqI (dVar 1)) (dGN 4) (dTest (dOp (dEq true) (dVar 4) (dVar 3))) (dVar 4) [4])) (dGN 1))
    (dAsg (dC (.bl true)) (dGN 2)))
      dNx))))
    (dRet (dOp (dEq true) (dVar 1) (dLstF dNil))))))
abbrev N_l_goes_round : List Str := ["_law_led_here", "_law_left", "_law_again", "_law_word", "_law_one"]
theorem ok_l_goes_round {P : Program} {w : World} {K : PySem.W.Frag} {mg : Str → Option Value} {base : Heap} (T : Txt w K mg) {sp : DSp}
    (mono : SpMono sp) (len : ∀ ds S Q E, sp ds S Q E → ds.length = 1)
    (h : ∀ ds S Q E, sp ds S Q E → t_l_goes_round (dEnd Q E) (dstart ["_law_led_here", "_law_left", "_law_again", "_law_word", "_law_one"] ds) S) : DFn P w K mg base 1 T.a_l_goes_round T.f_l_goes_round ["_law_led_here"] sp := by
  refine dfn_of2 (t := t_l_goes_round) T.F_l_goes_round sc_l_goes_round mono len (fun cdv A outer s H E hr gu => ?_) h
  have hu1 := hu_of hr
  have hu2 := hu_big hr
  exact (dss_cons (ds_set (i := 1) sc_l_goes_round.nd rfl (by first | exact Or.inl rfl | exact Or.inr rfl) (de_callTy (cd_listAF rfl) (by rfl) T.b_list (by decide +kernel) (da_cons (dv 0) da_nil)))
    (dss_cons (ds_set (i := 2) sc_l_goes_round.nd rfl (by first | exact Or.inl rfl | exact Or.inr rfl) de_bl)
    (dss_cons (ds_while (passes_of rfl) (dt_val (dv 2))
      (dss_cons (ds_set (i := 2) sc_l_goes_round.nd rfl (by first | exact Or.inl rfl | exact Or.inr rfl) de_bl)
    (dss_one (ds_for (passes_of rfl) rfl (di_seq (dv 1)) (dg_name (i := 3) sc_l_goes_round.nd rfl (by first | exact Or.inl rfl | exact Or.inr rfl))
      (dss_one (ds_if (dt_cmp (od_eq hr.units) (de_fz (de_lc (own := [("_law_one", 4)]) rfl sc_l_goes_round.nd (di_seq (de_ix (ixD_any hu2) (dv 0) (dv 3))) (blkOk_by (own := [("_law_one", 4)]) (N := ["_law_led_here", "_law_left", "_law_again", "_law_word", "_law_one"]) (sc := defScope s_l_goes_round) (by decide +kernel)) ⟨fun _ _ _ _ _ => (dw_name (i := 4) sc_l_goes_round.nd rfl (by first | exact Or.inl rfl | exact Or.inr rfl) (by decide)), fun _ _ _ _ _ => (dts_one (dt_cmp (od_in hu2) (dv 4) (dv 1) (by rfl))), fun _ _ _ _ _ => (dv 4)⟩)) (de_lstF da_nil) (nomark _))
      (dss_cons (ds_set (i := 1) sc_l_goes_round.nd rfl (by first | exact Or.inl rfl | exact Or.inr rfl) (de_fz (de_lc (own := [("_law_one", 4)]) rfl sc_l_goes_round.nd (di_seq (dv 1)) (blkOk_by (own := [("_law_one", 4)]) (N := ["_law_led_here", "_law_left", "_law_again", "_law_word", "_law_one"]) (sc := defScope s_l_goes_round) (by decide +kernel)) ⟨fun _ _ _ _ _ => (dw_name (i := 4) sc_l_goes_round.nd rfl (by first | exact Or.inl rfl | exact Or.inr rfl) (by decide)), fun _ _ _ _ _ => (dts_one (dt_cmp (od_ne hr.units) (dv 4) (dv 3) (nomark _))), fun _ _ _ _ _ => (dv 4)⟩)))
    (dss_one (ds_set (i := 2) sc_l_goes_round.nd rfl (by first | exact Or.inl rfl | exact Or.inr rfl) de_bl)))
      dss_nil))))))
    (dss_one (ds_ret (de_cmp (od_ne hr.units) (dv 1) (de_lstF da_nil) (nomark _)))))))

/-! l_ring -/
def t_l_ring : DTS := (dSeq (dIf (dOr (dNot (dTest (dIsi "list" (dVar 1)))) (dOr (dTest (dOp (dEq false) (dVar 1) (dLstF dNil))) (dTest (dOp (dEq true) (dLenSet (dVar 1)) (dCB cLen (dCons (dVar 1) dNil))))))
      (dRet (dC (.bl false)))
      dNx)
    (dSeq (dIf (dTest (dOp (dEq true) (dFz (dLc (dSeqI (dVar 1)) (dGN 2) (dTest (dOp (dIn true) (dVar 2) (dVar 0))) (dVar 2) [2])) (dLstF dNil)))
      (dRet (dC (.bl false)))
      dNx)
    (dRet (dOp (dIn true) (dC (.bl false)) (dFz (dLc (dRng1 (dCons (dCB cLen (dCons (dVar 1) dNil)) dNil)) (dGN 3) dYes (dOp (dIn false) (dOp dIxS (dVar 1) (dOp rMod (dOp dAddF (dVar 3) (dC (.int 1))) (dCB cLen (dCons (dVar 1) dNil)))) (dOp dIxS (dVar 0) (dOp dIxS (dVar 1) (dVar 3)))) [3]))))))
abbrev N_l_ring : List Str := ["_law_led_here", "_law_ring_here", "_law_word", "_law_k"]
theorem ok_l_ring {P : Program} {w : World} {K : PySem.W.Frag} {mg : Str → Option Value} {base : Heap} (T : Txt w K mg) {sp : DSp}
    (mono : SpMono sp) (len : ∀ ds S Q E, sp ds S Q E → ds.length = 2)
    (h : ∀ ds S Q E, sp ds S Q E → t_l_ring (dEnd Q E) (dstart ["_law_led_here", "_law_ring_here", "_law_word", "_law_k"] ds) S) : DFn P w K mg base 1 T.a_l_ring T.f_l_ring ["_law_led_here", "_law_ring_here"] sp := by
  refine dfn_of2 (t := t_l_ring) T.F_l_ring sc_l_ring mono len (fun cdv A outer s H E hr gu => ?_) h
  have hu1 := hu_of hr
  have hu2 := hu_big hr
  exact (dss_cons (ds_if (DWt.pt (dw_or (dt_not (dt_val (de_isi (T := "list") (by decide) (dv 1) (by rfl) T.b_isinstance (by rfl) T.b_list (by decide +kernel)))) (dw_or (dt_cmp (od_eq hr.units) (dv 1) (de_lstF da_nil) (nomark _)) (dw_or1 (dt_cmp (od_ne hr.units) (de_lenSet rfl (by rfl) T.b_len (by rfl) T.b_set (by decide +kernel) (by decide +kernel) (dv 1)) (de_callB cd_len (by rfl) T.b_len (by decide +kernel) (da_cons (dv 1) da_nil)) (nomark _))))))
      (dss_one (ds_ret de_bl))
      dss_nil)
    (dss_cons (ds_if (dt_cmp (od_ne hr.units) (de_fz (de_lc (own := [("_law_word", 2)]) rfl sc_l_ring.nd (di_seq (dv 1)) (blkOk_by (own := [("_law_word", 2)]) (N := ["_law_led_here", "_law_ring_here", "_law_word", "_law_k"]) (sc := defScope s_l_ring) (by decide +kernel)) ⟨fun _ _ _ _ _ => (dw_name (i := 2) sc_l_ring.nd rfl (by first | exact Or.inl rfl | exact Or.inr rfl) (by decide)), fun _ _ _ _ _ => (dts_one (dt_cmp (od_nin hu2) (dv 2) (dv 0) (by rfl))), fun _ _ _ _ _ => (dv 2)⟩)) (de_lstF da_nil) (nomark _))
      (dss_one (ds_ret de_bl))
      dss_nil)
    (dss_one (ds_ret (de_cmp (od_nin hu2) de_bl (de_fz (de_lc (own := [("_law_k", 3)]) rfl sc_l_ring.nd (di_rng1 (by rfl) T.b_range (da_cons (de_callB cd_len (by rfl) T.b_len (by decide +kernel) (da_cons (dv 1) da_nil)) da_nil)) (blkOk_by (own := [("_law_k", 3)]) (N := ["_law_led_here", "_law_ring_here", "_law_word", "_law_k"]) (sc := defScope s_l_ring) (by decide +kernel)) ⟨fun _ _ _ _ _ => (dw_name (i := 3) sc_l_ring.nd rfl (by first | exact Or.inl rfl | exact Or.inr rfl) (by decide)), fun _ _ _ _ _ => dts_nil, fun _ _ _ _ _ => (de_cmp (od_in hu2) (de_ix (ixD_any hu2) (dv 1) (de_op od_mod (de_op od_addF (dv 3) de_int) (de_callB cd_len (by rfl) T.b_len (by decide +kernel) (da_cons (dv 1) da_nil)))) (de_ix (ixD_any hu2) (dv 0) (de_ix (ixD_any hu2) (dv 1) (dv 3))) (by rfl))⟩)) (by rfl))))))

/-! l_names -/
def t_l_names : DTS := (dSeq (dAsg (dLst (dCons (dLstF (dCons (dC (.str "a")) (dCons (dC (.str "ab")) (dCons (dC (.str "abc")) (dCons (dC (.str "b")) (dCons (dC (.str "ba")) (dCons (dC (.str "bab")) (dCons (dC (.str "c")) dNil)))))))) (dCons (dLstF (dCons (dC (.str "on")) (dCons (dC (.str "back")) (dCons (dC (.str "at")) (dCons (dC (.str "stay")) (dCons (dC (.str "many")) (dCons (dC (.str "then")) (dCons (dC (.str "tie")) dNil)))))))) dNil))) (dGN 2))
    (dSeq (dDrop (dBM "list" mAppend (dVar 2) (dCons (dLstF (dCons (dC (.str "k")) (dCons (dC (.str "w")) (dCons (dC (.str "xxxxxxxx")) (dCons (dC (.str "xxxxxxx")) (dCons (dC (.str "m")) (dCons (dC (.str "q")) (dCons (dC (.str "z")) dNil)))))))) dNil)))
    (dSeq (dAsg (dOp dIxS (dVar 2) (dCall sp_l_draw (dCons (dVar 0) (dCons (dC (.int 3)) dNil)))) (dGN 3))
    (dSeq (dAsg (dCall sp_l_draw (dCons (dVar 0) (dCons (dC (.int 7)) dNil))) (dGN 4))
    (dRet (dSlF (dOp dAddF (dSlF (dVar 3) (dSoP (dVar 4)) dNoP) (dSlF (dVar 3) dNoP (dSoP (dVar 4)))) dNoP (dSoP (dVar 1))))))))
abbrev N_l_names : List Str := ["_law_feed_here", "_law_many", "_law_some", "_law_names_here", "_law_at"]
theorem ok_l_names {P : Program} {w : World} {K : PySem.W.Frag} {mg : Str → Option Value} {base : Heap} (T : Txt w K mg) (G_l_draw : DFn P w K mg base 1 T.a_l_draw T.f_l_draw ["_law_feed_here", "_law_many"] sp_l_draw) {sp : DSp}
    (mono : SpMono sp) (len : ∀ ds S Q E, sp ds S Q E → ds.length = 2)
    (h : ∀ ds S Q E, sp ds S Q E → t_l_names (dEnd Q E) (dstart ["_law_feed_here", "_law_many", "_law_some", "_law_names_here", "_law_at"] ds) S) : DFn P w K mg base 2 T.a_l_names T.f_l_names ["_law_feed_here", "_law_many"] sp := by
  refine dfn_of2 (t := t_l_names) T.F_l_names sc_l_names mono len (fun cdv A outer s H E hr gu => ?_) h
  have hu1 := hu_of hr
  have hu2 := hu_big hr
  exact (dss_cons (ds_set (i := 2) sc_l_names.nd rfl (by first | exact Or.inl rfl | exact Or.inr rfl) (de_lst (da_cons (de_lstF (da_cons de_str (da_cons de_str (da_cons de_str (da_cons de_str (da_cons de_str (da_cons de_str (da_cons de_str da_nil)))))))) (da_cons (de_lstF (da_cons de_str (da_cons de_str (da_cons de_str (da_cons de_str (da_cons de_str (da_cons de_str (da_cons de_str da_nil)))))))) da_nil))))
    (dss_cons (ds_expr (de_bm PySem.F.plainAttrs_list PySem.F.slot_list_append PySem.F.type_list_append md_append (dv 2) (da_cons (de_lstF (da_cons de_str (da_cons de_str (da_cons de_str (da_cons de_str (da_cons de_str (da_cons de_str (da_cons de_str da_nil)))))))) da_nil)))
    (dss_cons (ds_set (i := 3) sc_l_names.nd rfl (by first | exact Or.inl rfl | exact Or.inr rfl) (de_ix (ixD_any hu2) (dv 2) (de_call G_l_draw (hr.mono (by decide)) gu (by rfl) T.m_l_draw T.F_l_draw.kp T.d_l_draw (da_cons (dv 0) (da_cons de_int da_nil)))))
    (dss_cons (ds_set (i := 4) sc_l_names.nd rfl (by first | exact Or.inl rfl | exact Or.inr rfl) (de_call G_l_draw (hr.mono (by decide)) gu (by rfl) T.m_l_draw T.F_l_draw.kp T.d_l_draw (da_cons (dv 0) (da_cons de_int da_nil))))
    (dss_one (ds_ret (de_slF (de_op od_addF (de_slF (dv 3) (do_some (dv 4)) do_none) (de_slF (dv 3) do_none (do_some (dv 4)))) do_none (do_some (dv 1)))))))))
end K67X
set_option maxRecDepth 100000
set_option maxHeartbeats 4000000
namespace K67X
open PySem PySem.Spec L2
open L67
open L63
open Rc
open Sh hiding N_l_feed N_l_leaf N_l_names N_l_pattern deeps_le deeps_mem r_l_feed r_l_leaf r_l_names r_l_pattern sp_l_leaf sp_l_leaf_mono sp_l_names sp_l_names_mono sp_l_pattern sp_l_pattern_mono t_l_feed t_l_leaf t_l_names t_l_pattern
open Dt hiding nkeys sp_l_feed sp_l_feed_mono

/-! l_leaf -/
def t_l_leaf : DTS := (dSeq (dAsg (dCall sp_l_draw (dCons (dVar 0) (dCons (dC (.int 9)) dNil))) (dGN 3))
    (dSeq (dIf (dTest (dOp (dEq false) (dVar 3) (dC (.int 0))))
      (dRet (dTup (dCons (dC (.str "stay")) dNil)))
      dNx)
    (dSeq (dIf (dAnd (dTest (dOp rLt (dVar 3) (dC (.int 3)))) (dTest (dOp (dEq true) (dVar 2) (dLstF dNil))))
      (dRet (dTup (dCons (dOp dIxS (dLstF (dCons (dC (.str "at")) (dCons (dC (.str "off")) dNil))) (dOp rSub (dVar 3) (dC (.int 1)))) (dCons (dOp dIxS (dVar 2) (dCall sp_l_draw (dCons (dVar 0) (dCons (dCB cLen (dCons (dVar 2) dNil)) dNil)))) dNil))))
      dNx)
    (dRet (dTup (dCons (dC (.str "step")) (dCons (dOp dIxS (dLstF (dCons (dC (.str "on")) (dCons (dC (.str "on")) (dCons (dC (.str "back")) dNil)))) (dOp rMod (dVar 3) (dC (.int 3)))) (dCons (dOp dIxS (dOp dAddF (dVar 1) (dLstF (dCons (dC (.str "*")) dNil))) (dCall sp_l_draw (dCons (dVar 0) (dCons (dOp dAddF (dCB cLen (dCons (dVar 1) dNil)) (dC (.int 1))) dNil)))) dNil))))))))
abbrev N_l_leaf : List Str := ["_law_feed_here", "_law_words", "_law_marks", "_law_way"]
theorem ok_l_leaf {P : Program} {w : World} {K : PySem.W.Frag} {mg : Str → Option Value} {base : Heap} (T : Txt w K mg) (G_l_draw : DFn P w K mg base 1 T.a_l_draw T.f_l_draw ["_law_feed_here", "_law_many"] sp_l_draw) {sp : DSp}
    (mono : SpMono sp) (len : ∀ ds S Q E, sp ds S Q E → ds.length = 3)
    (h : ∀ ds S Q E, sp ds S Q E → t_l_leaf (dEnd Q E) (dstart ["_law_feed_here", "_law_words", "_law_marks", "_law_way"] ds) S) : DFn P w K mg base 2 T.a_l_leaf T.f_l_leaf ["_law_feed_here", "_law_words", "_law_marks"] sp := by
  refine dfn_of2 (t := t_l_leaf) T.F_l_leaf sc_l_leaf mono len (fun cdv A outer s H E hr gu => ?_) h
  have hu1 := hu_of hr
  have hu2 := hu_big hr
  exact (dss_cons (ds_set (i := 3) sc_l_leaf.nd rfl (by first | exact Or.inl rfl | exact Or.inr rfl) (de_call G_l_draw (hr.mono (by decide)) gu (by rfl) T.m_l_draw T.F_l_draw.kp T.d_l_draw (da_cons (dv 0) (da_cons de_int da_nil))))
    (dss_cons (ds_if (dt_cmp (od_eq hr.units) (dv 3) de_int (nomark _))
      (dss_one (ds_ret (de_tup (da_cons de_str da_nil))))
      dss_nil)
    (dss_cons (ds_if (DWt.pt (dw_and (dt_cmp od_lt (dv 3) de_int (nomark _)) (dw_and1 (dt_cmp (od_ne hr.units) (dv 2) (de_lstF da_nil) (nomark _)))))
      (dss_one (ds_ret (de_tup (da_cons (de_ix (ixD_any hu2) (de_lstF (da_cons de_str (da_cons de_str da_nil))) (de_op od_sub (dv 3) de_int)) (da_cons (de_ix (ixD_any hu2) (dv 2) (de_call G_l_draw (hr.mono (by decide)) gu (by rfl) T.m_l_draw T.F_l_draw.kp T.d_l_draw (da_cons (dv 0) (da_cons (de_callB cd_len (by rfl) T.b_len (by decide +kernel) (da_cons (dv 2) da_nil)) da_nil)))) da_nil)))))
      dss_nil)
    (dss_one (ds_ret (de_tup (da_cons de_str (da_cons (de_ix (ixD_any hu2) (de_lstF (da_cons de_str (da_cons de_str (da_cons de_str da_nil)))) (de_op od_mod (dv 3) de_int)) (da_cons (de_ix (ixD_any hu2) (de_op od_addF (dv 1) (de_lstF (da_cons de_str da_nil))) (de_call G_l_draw (hr.mono (by decide)) gu (by rfl) T.m_l_draw T.F_l_draw.kp T.d_l_draw (da_cons (dv 0) (da_cons (de_op od_addF (de_callB cd_len (by rfl) T.b_len (by decide +kernel) (da_cons (dv 1) da_nil)) de_int) da_nil)))) da_nil)))))))))

/-! l_lead_in -/
def t_l_lead_in : DTS := (dSeq (dIf (dTest (dOp (dEq false) (dCall sp_l_draw (dCons (dVar 0) (dCons (dC (.int 2)) dNil))) (dC (.int 0))))
      (dAsg (dRevLF (dVar 1)) (dGN 1))
      dNx)
    (dSeq (dAsg (dOp dAddF (dVar 1) (dLstF (dCons (dOp dIxS (dVar 1) (dCall sp_l_draw (dCons (dVar 0) (dCons (dCB cLen (dCons (dVar 1) dNil)) dNil)))) dNil))) (dGN 2))
    (dSeq (dAsg (dLst dNil) (dGN 3))
    (dSeq (dFor (dRng1 (dCons (dCB cLen (dCons (dVar 1) dNil)) dNil)) (dGN 4)
      (dDrop (dBM "list" mAppend (dVar 3) (dCons (dTup (dCons (dOp dIxS (dVar 1) (dVar 4)) (dCons (dTup (dCons (dC (.str "then")) (dCons (dTup (dCons (dTup (dCons (dC (.str "step")) (dCons (dC (.str "on")) (dCons (dOp dIxS (dVar 2) (dOp dAddF (dVar 4) (dC (.int 1)))) dNil)))) (dCons (dTup (dCons (dC (.str "stay")) dNil)) dNil))) dNil))) dNil))) dNil))))
    (dSeq (dAsg (dCall sp_l_draw (dCons (dVar 0) (dCons (dCB cLen (dCons (dVar 3) dNil)) dNil))) (dGN 5))
    (dRet (dOp dAddF (dSlF (dVar 3) (dSoP (dVar 5)) dNoP) (dSlF (dVar 3) dNoP (dSoP (dVar 5))))))))))
abbrev N_l_lead_in : List Str := ["_law_feed_here", "_law_heads", "_law_line", "_law_rules", "_law_k", "_law_at"]
theorem ok_l_lead_in {P : Program} {w : World} {K : PySem.W.Frag} {mg : Str → Option Value} {base : Heap} (T : Txt w K mg) (G_l_draw : DFn P w K mg base 1 T.a_l_draw T.f_l_draw ["_law_feed_here", "_law_many"] sp_l_draw) {sp : DSp}
    (mono : SpMono sp) (len : ∀ ds S Q E, sp ds S Q E → ds.length = 2)
    (h : ∀ ds S Q E, sp ds S Q E → t_l_lead_in (dEnd Q E) (dstart ["_law_feed_here", "_law_heads", "_law_line", "_law_rules", "_law_k", "_law_at"] ds) S) : DFn P w K mg base 2 T.a_l_lead_in T.f_l_lead_in ["_law_feed_here", "_law_heads"] sp := by
  refine dfn_of2 (t := t_l_lead_in) T.F_l_lead_in sc_l_lead_in mono len (fun cdv A outer s H E hr gu => ?_) h
  have hu1 := hu_of hr
  have hu2 := hu_big hr
  exact (dss_cons (ds_if (dt_cmp (od_eq hr.units) (de_call G_l_draw (hr.mono (by decide)) gu (by rfl) T.m_l_draw T.F_l_draw.kp T.d_l_draw (da_cons (dv 0) (da_cons de_int da_nil))) de_int (nomark _))
      (dss_one (ds_set (i := 1) sc_l_lead_in.nd rfl (by first | exact Or.inl rfl | exact Or.inr rfl) (de_revLF (dv 1))))
      dss_nil)
    (dss_cons (ds_set (i := 2) sc_l_lead_in.nd rfl (by first | exact Or.inl rfl | exact Or.inr rfl) (de_op od_addF (dv 1) (de_lstF (da_cons (de_ix (ixD_any hu2) (dv 1) (de_call G_l_draw (hr.mono (by decide)) gu (by rfl) T.m_l_draw T.F_l_draw.kp T.d_l_draw (da_cons (dv 0) (da_cons (de_callB cd_len (by rfl) T.b_len (by decide +kernel) (da_cons (dv 1) da_nil)) da_nil)))) da_nil))))
    (dss_cons (ds_set (i := 3) sc_l_lead_in.nd rfl (by first | exact Or.inl rfl | exact Or.inr rfl) (de_lst da_nil))
    (dss_cons (ds_for (passes_of rfl) rfl (di_rng1 (by rfl) T.b_range (da_cons (de_callB cd_len (by rfl) T.b_len (by decide +kernel) (da_cons (dv 1) da_nil)) da_nil)) (dg_name (i := 4) sc_l_lead_in.nd rfl (by first | exact Or.inl rfl | exact Or.inr rfl))
      (dss_one (ds_expr (de_bm PySem.F.plainAttrs_list PySem.F.slot_list_append PySem.F.type_list_append md_append (dv 3) (da_cons (de_tup (da_cons (de_ix (ixD_any hu2) (dv 1) (dv 4)) (da_cons (de_tup (da_cons de_str (da_cons (de_tup (da_cons (de_tup (da_cons de_str (da_cons de_str (da_cons (de_ix (ixD_any hu2) (dv 2) (de_op od_addF (dv 4) de_int)) da_nil)))) (da_cons (de_tup (da_cons de_str da_nil)) da_nil))) da_nil))) da_nil))) da_nil)))))
    (dss_cons (ds_set (i := 5) sc_l_lead_in.nd rfl (by first | exact Or.inl rfl | exact Or.inr rfl) (de_call G_l_draw (hr.mono (by decide)) gu (by rfl) T.m_l_draw T.F_l_draw.kp T.d_l_draw (da_cons (dv 0) (da_cons (de_callB cd_len (by rfl) T.b_len (by decide +kernel) (da_cons (dv 3) da_nil)) da_nil))))
    (dss_one (ds_ret (de_op od_addF (de_slF (dv 3) (do_some (dv 5)) do_none) (de_slF (dv 3) do_none (do_some (dv 5)))))))))))

/-! l_words_in -/
def t_l_words_in (spR : DSp) : DTS := (dSeq (dIf (dTest (dOp (dEq false) (dOp dIxS (dVar 0) (dC (.int 0))) (dC (.str "step"))))
      (dRet (dLstF (dCons (dOp dIxS (dVar 0) (dC (.int 2))) dNil)))
      dNx)
    (dSeq (dAsg (dLstF dNil) (dGN 1))
    (dSeq (dIf (dTest (dOp (dEq false) (dOp dIxS (dVar 0) (dC (.int 0))) (dC (.str "many"))))
      (dRet (dCall spR (dCons (dOp dIxS (dVar 0) (dC (.int 1))) dNil)))
      dNx)
    (dSeq (dIf (dTest (dOp (dIn false) (dOp dIxS (dVar 0) (dC (.int 0))) (dTup (dCons (dC (.str "then")) (dCons (dC (.str "either")) dNil)))))
      (dFor (dSeqI (dOp dIxS (dVar 0) (dC (.int 1)))) (dGN 2)
      (dAsg (dOp dAddF (dVar 1) (dCall spR (dCons (dVar 2) dNil))) (dGN 1)))
      dNx)
    (dRet (dVar 1))))))
abbrev N_l_words_in : List Str := ["_law_pattern_here", "_law_found", "_law_one"]
theorem ok_l_words_in {P : Program} {w : World} {K : PySem.W.Frag} {mg : Str → Option Value} {base : Heap} (T : Txt w K mg) (n : Nat) {spR : DSp} (G_l_words_in : DFn P w K mg base (0 + n) T.a_l_words_in T.f_l_words_in ["_law_pattern_here"] spR) {sp : DSp}
    (mono : SpMono sp) (len : ∀ ds S Q E, sp ds S Q E → ds.length = 1)
    (h : ∀ ds S Q E, sp ds S Q E → (t_l_words_in spR) (dEnd Q E) (dstart ["_law_pattern_here", "_law_found", "_law_one"] ds) S) : DFn P w K mg base (0 + n + 1) T.a_l_words_in T.f_l_words_in ["_law_pattern_here"] sp := by
  refine dfn_of2 (t := (t_l_words_in spR)) T.F_l_words_in sc_l_words_in mono len (fun cdv A outer s H E hr gu => ?_) h
  have hu1 := hu_of hr
  have hu2 := hu_big hr
  exact (dss_cons (ds_if (dt_cmp (od_eq hr.units) (de_ix (ixD_any hu2) (dv 0) de_int) de_str (nomark _))
      (dss_one (ds_ret (de_lstF (da_cons (de_ix (ixD_any hu2) (dv 0) de_int) da_nil))))
      dss_nil)
    (dss_cons (ds_set (i := 1) sc_l_words_in.nd rfl (by first | exact Or.inl rfl | exact Or.inr rfl) (de_lstF da_nil))
    (dss_cons (ds_if (dt_cmp (od_eq hr.units) (de_ix (ixD_any hu2) (dv 0) de_int) de_str (nomark _))
      (dss_one (ds_ret (de_call G_l_words_in (hr.mono (Nat.le_refl _)) gu (by rfl) T.m_l_words_in T.F_l_words_in.kp T.d_l_words_in (da_cons (de_ix (ixD_any hu2) (dv 0) de_int) da_nil))))
      dss_nil)
    (dss_cons (ds_if (dt_cmp (od_in hu2) (de_ix (ixD_any hu2) (dv 0) de_int) (de_tup (da_cons de_str (da_cons de_str da_nil))) (by rfl))
      (dss_one (ds_for (passes_of rfl) rfl (di_seq (de_ix (ixD_any hu2) (dv 0) de_int)) (dg_name (i := 2) sc_l_words_in.nd rfl (by first | exact Or.inl rfl | exact Or.inr rfl))
      (dss_one (ds_set (i := 1) sc_l_words_in.nd rfl (by first | exact Or.inl rfl | exact Or.inr rfl) (de_op od_addF (dv 1) (de_call G_l_words_in (hr.mono (Nat.le_refl _)) gu (by rfl) T.m_l_words_in T.F_l_words_in.kp T.d_l_words_in (da_cons (dv 2) da_nil)))))))
      dss_nil)
    (dss_one (ds_ret (dv 1)))))))

/-! step_words -/
def t_step_words (spR : DSp) : DTS := (dSeq (dIf (dTest (dOp (dEq false) (dOp dIxS (dVar 0) (dC (.int 0))) (dC (.str "step"))))
      (dRet (dLstF (dCons (dOp dIxS (dVar 0) (dC (.int 2))) dNil)))
      dNx)
    (dSeq (dAsg (dLst dNil) (dGN 1))
    (dSeq (dFor (dSeqI (dCall sp_parts_by (dCons (dVar 0) dNil))) (dGN 2)
      (dDrop (dBM "list" mExtend (dVar 1) (dCons (dCall spR (dCons (dVar 2) dNil)) dNil))))
    (dRet (dVar 1)))))
abbrev N_step_words : List Str := ["pattern", "found", "one"]
theorem ok_step_words {P : Program} {w : World} {K : PySem.W.Frag} {mg : Str → Option Value} {base : Heap} (T : Txt w K mg) (G_parts_by : DFn P w K mg base 1 T.a_parts_by T.f_parts_by ["pattern"] sp_parts_by) (n : Nat) {spR : DSp} (G_step_words : DFn P w K mg base (1 + n) T.a_step_words T.f_step_words ["pattern"] spR) {sp : DSp}
    (mono : SpMono sp) (len : ∀ ds S Q E, sp ds S Q E → ds.length = 1)
    (h : ∀ ds S Q E, sp ds S Q E → (t_step_words spR) (dEnd Q E) (dstart ["pattern", "found", "one"] ds) S) : DFn P w K mg base (1 + n + 1) T.a_step_words T.f_step_words ["pattern"] sp := by
  refine dfn_of2 (t := (t_step_words spR)) T.F_step_words sc_step_words mono len (fun cdv A outer s H E hr gu => ?_) h
  have hu1 := hu_of hr
  have hu2 := hu_big hr
  exact (dss_cons (ds_if (dt_cmp (od_eq hr.units) (de_ix (ixD_any hu2) (dv 0) de_int) de_str (nomark _))
      (dss_one (ds_ret (de_lstF (da_cons (de_ix (ixD_any hu2) (dv 0) de_int) da_nil))))
      dss_nil)
    (dss_cons (ds_set (i := 1) sc_step_words.nd rfl (by first | exact Or.inl rfl | exact Or.inr rfl) (de_lst da_nil))
    (dss_cons (ds_for (passes_of rfl) rfl (di_seq (de_call G_parts_by (hr.mono (by omega)) gu (by rfl) T.m_parts_by T.F_parts_by.kp T.d_parts_by (da_cons (dv 0) da_nil))) (dg_name (i := 2) sc_step_words.nd rfl (by first | exact Or.inl rfl | exact Or.inr rfl))
      (dss_one (ds_expr (de_bm PySem.F.plainAttrs_list PySem.F.slot_list_extend PySem.F.type_list_extend md_extend (dv 1) (da_cons (de_call G_step_words (hr.mono (Nat.le_refl _)) gu (by rfl) T.m_step_words T.F_step_words.kp T.d_step_words (da_cons (dv 2) da_nil)) da_nil)))))
    (dss_one (ds_ret (dv 1))))))

/-! l_pattern -/
def t_l_pattern (spR : DSp) : DTS := (dSeq (dPut (dVar 3) (dC (.int 0)) (dOp rSub (dOp dIxS (dVar 3) (dC (.int 0))) (dC (.int 1))))
    (dSeq (dAsg (dCall sp_l_draw (dCons (dVar 0) (dCons (dC (.int 8)) dNil))) (dGN 5))
    (dSeq (dIf (dOr (dTest (dOp rLt (dVar 5) (dC (.int 3)))) (dOr (dTest (dOp rLt (dOp dIxS (dVar 3) (dC (.int 0))) (dC (.int 1)))) (dTest (dOp (dEq false) (dVar 4) (dC (.int 0))))))
      (dRet (dCall sp_l_leaf (dCons (dVar 0) (dCons (dVar 1) (dCons (dVar 2) dNil)))))
      dNx)
    (dSeq (dIf (dTest (dOp (dEq false) (dVar 5) (dC (.int 3))))
      (dRet (dTup (dCons (dC (.str "many")) (dCons (dCall spR (dCons (dVar 0) (dCons (dVar 1) (dCons (dVar 2) (dCons (dVar 3) (dCons (dOp rSub (dVar 4) (dC (.int 1))) dNil)))))) dNil))))
      dNx)
    (dSeq (dAsg (dLst dNil) (dGN 6))
    (dSeq (dFor (dRng1 (dCons (dOp dIxS (dLstF (dCons (dC (.int 2)) (dCons (dC (.int 3)) (dCons (dC (.int 0)) (dCons (dC (.int 1)) (dCons (dC (.int 2)) (dCons (dC (.int 2)) (dCons (dC (.int 4)) (dCons (dC (.int 3)) dNil))))))))) (dCall sp_l_draw (dCons (dVar 0) (dCons (dC (.int 8)) dNil)))) dNil)) (dGN 7)
      (dIf (dTest (dOp rGt (dOp dIxS (dVar 3) (dC (.int 0))) (dC (.int 0))))
      (dDrop (dBM "list" mAppend (dVar 6) (dCons (dCall spR (dCons (dVar 0) (dCons (dVar 1) (dCons (dVar 2) (dCons (dVar 3) (dCons (dOp rSub (dVar 4) (dC (.int 1))) dNil)))))) dNil)))
      dNx))
    (dRet (dTup (dCons (dOp dIxS (dLstF (dCons (dC (.str "then")) (dCons (dC (.str "either")) dNil))) (dOp rMod (dVar 5) (dC (.int 2)))) (dCons (dCB cTuple (dCons (dVar 6) dNil)) dNil))))))))))
abbrev N_l_pattern : List Str := ["_law_feed_here", "_law_words", "_law_marks", "_law_bag", "_law_deep", "_law_way", "_law_some", "_law_k"]
theorem ok_l_pattern {P : Program} {w : World} {K : PySem.W.Frag} {mg : Str → Option Value} {base : Heap} (T : Txt w K mg) (G_l_draw : DFn P w K mg base 1 T.a_l_draw T.f_l_draw ["_law_feed_here", "_law_many"] sp_l_draw) (G_l_leaf : DFn P w K mg base 2 T.a_l_leaf T.f_l_leaf ["_law_feed_here", "_law_words", "_law_marks"] sp_l_leaf) (n : Nat) {spR : DSp} (G_l_pattern : DFn P w K mg base (2 + n) T.a_l_pattern T.f_l_pattern ["_law_feed_here", "_law_words", "_law_marks", "_law_bag", "_law_deep"] spR) {sp : DSp}
    (mono : SpMono sp) (len : ∀ ds S Q E, sp ds S Q E → ds.length = 5)
    (h : ∀ ds S Q E, sp ds S Q E → (t_l_pattern spR) (dEnd Q E) (dstart ["_law_feed_here", "_law_words", "_law_marks", "_law_bag", "_law_deep", "_law_way", "_law_some", "_law_k"] ds) S) : DFn P w K mg base (2 + n + 1) T.a_l_pattern T.f_l_pattern ["_law_feed_here", "_law_words", "_law_marks", "_law_bag", "_law_deep"] sp := by
  refine dfn_of2 (t := (t_l_pattern spR)) T.F_l_pattern sc_l_pattern mono len (fun cdv A outer s H E hr gu => ?_) h
  have hu1 := hu_of hr
  have hu2 := hu_big hr
  exact (dss_cons (ds_put hu2 (dv 3) de_int (de_op od_sub (de_ix (ixD_any hu2) (dv 3) de_int) de_int))
    (dss_cons (ds_set (i := 5) sc_l_pattern.nd rfl (by first | exact Or.inl rfl | exact Or.inr rfl) (de_call G_l_draw (hr.mono (by omega)) gu (by rfl) T.m_l_draw T.F_l_draw.kp T.d_l_draw (da_cons (dv 0) (da_cons de_int da_nil))))
    (dss_cons (ds_if (DWt.pt (dw_or (dt_cmp od_lt (dv 5) de_int (nomark _)) (dw_or (dt_cmp od_lt (de_ix (ixD_any hu2) (dv 3) de_int) de_int (nomark _)) (dw_or1 (dt_cmp (od_eq hr.units) (dv 4) de_int (nomark _))))))
      (dss_one (ds_ret (de_call G_l_leaf (hr.mono (by omega)) gu (by rfl) T.m_l_leaf T.F_l_leaf.kp T.d_l_leaf (da_cons (dv 0) (da_cons (dv 1) (da_cons (dv 2) da_nil))))))
      dss_nil)
    (dss_cons (ds_if (dt_cmp (od_eq hr.units) (dv 5) de_int (nomark _))
      (dss_one (ds_ret (de_tup (da_cons de_str (da_cons (de_call G_l_pattern (hr.mono (Nat.le_refl _)) gu (by rfl) T.m_l_pattern T.F_l_pattern.kp T.d_l_pattern (da_cons (dv 0) (da_cons (dv 1) (da_cons (dv 2) (da_cons (dv 3) (da_cons (de_op od_sub (dv 4) de_int) da_nil)))))) da_nil)))))
      dss_nil)
    (dss_cons (ds_set (i := 6) sc_l_pattern.nd rfl (by first | exact Or.inl rfl | exact Or.inr rfl) (de_lst da_nil))
    (dss_cons (ds_for (passes_of rfl) rfl (di_rng1 (by rfl) T.b_range (da_cons (de_ix (ixD_any hu2) (de_lstF (da_cons de_int (da_cons de_int (da_cons de_int (da_cons de_int (da_cons de_int (da_cons de_int (da_cons de_int (da_cons de_int da_nil))))))))) (de_call G_l_draw (hr.mono (by omega)) gu (by rfl) T.m_l_draw T.F_l_draw.kp T.d_l_draw (da_cons (dv 0) (da_cons de_int da_nil)))) da_nil)) (dg_name (i := 7) sc_l_pattern.nd rfl (by first | exact Or.inl rfl | exact Or.inr rfl))
      (dss_one (ds_if (dt_cmp od_gt (de_ix (ixD_any hu2) (dv 3) de_int) de_int (nomark _))
      (dss_one (ds_expr (de_bm PySem.F.plainAttrs_list PySem.F.slot_list_append PySem.F.type_list_append md_append (dv 6) (da_cons (de_call G_l_pattern (hr.mono (Nat.le_refl _)) gu (by rfl) T.m_l_pattern T.F_l_pattern.kp T.d_l_pattern (da_cons (dv 0) (da_cons (dv 1) (da_cons (dv 2) (da_cons (dv 3) (da_cons (de_op od_sub (dv 4) de_int) da_nil)))))) da_nil))))
      dss_nil)))
    (dss_one (ds_ret (de_tup (da_cons (de_ix (ixD_any hu2) (de_lstF (da_cons de_str (da_cons de_str da_nil))) (de_op od_mod (dv 5) de_int)) (da_cons (de_callTy cd_tuple (by rfl) T.b_tuple (by decide +kernel) (da_cons (dv 6) da_nil)) da_nil)))))))))))

/-! l_led -/
def t_l_led : DTS := (dSeq (dAsg (dSortSetAF (dFz (dLc (dSeqI (dVar 0)) (dGN 7) dYes (dOp dIxS (dVar 7) (dC (.int 0))) [7]))) (dGN 1))
    (dSeq (dAsg dDnK (dGN 2))
    (dSeq (dFor (dSeqI (dVar 1)) (dGN 3)
      (dSeq (dAsg (dLstF dNil) (dGN 4))
    (dSeq (dFor (dSeqI (dVar 0)) (dGTup 2 (dGCons (dGN 5) (dGCons (dGN 6) dGNil)))
      (dIf (dTest (dOp (dEq false) (dVar 5) (dVar 3)))
      (dAsg (dOp dAddF (dVar 4) (dCall (sp_l_words_in 5) (dCons (dVar 6) dNil))) (dGN 4))
      dNx))
    (dPut (dVar 2) (dVar 3) (dFz (dLc (dSeqI (dVar 1)) (dGN 8) (dOr (dTest (dOp (dIn false) (dVar 8) (dVar 4))) (dTest (dOp (dIn false) (dC (.str "*")) (dVar 4)))) (dVar 8) [8]))))))
    (dRet (dVar 2)))))
abbrev N_l_led : List Str := ["_law_rules", "_law_heads", "_law_led_here", "_law_word", "_law_some", "_law_head", "_law_pattern_here", "_law_rule", "_law_one"]
theorem ok_l_led {P : Program} {w : World} {K : PySem.W.Frag} {mg : Str → Option Value} {base : Heap} (T : Txt w K mg) (G_l_words_in : DFn P w K mg base 6 T.a_l_words_in T.f_l_words_in ["_law_pattern_here"] (sp_l_words_in 5)) {sp : DSp}
    (mono : SpMono sp) (len : ∀ ds S Q E, sp ds S Q E → ds.length = 1)
    (h : ∀ ds S Q E, sp ds S Q E → t_l_led (dEnd Q E) (dstart ["_law_rules", "_law_heads", "_law_led_here", "_law_word", "_law_some", "_law_head", "_law_pattern_here", "_law_rule", "_law_one"] ds) S) : DFn P w K mg base 7 T.a_l_led T.f_l_led ["_law_rules"] sp := by
  refine dfn_of2 (t := t_l_led) T.F_l_led sc_l_led mono len (fun cdv A outer s H E hr gu => ?_) h
  have hu1 := hu_of hr
  have hu2 := hu_big hr
  exact (dss_cons (ds_set (i := 1) sc_l_led.nd rfl (by first | exact Or.inl rfl | exact Or.inr rfl) (de_sortSetAF rfl (hu64 hu2) (by rfl) T.b_sorted (by rfl) T.b_set (by decide +kernel) (by decide +kernel) (de_fz (de_lc (own := [("_law_rule", 7)]) rfl sc_l_led.nd (di_seq (dv 0)) (blkOk_by (own := [("_law_rule", 7)]) (N := ["_law_rules", "_law_heads", "_law_led_here", "_law_word", "_law_some", "_law_head", "_law_pattern_here", "_law_rule", "_law_one"]) (sc := defScope s_l_led) (by decide +kernel)) ⟨fun _ _ _ _ _ => (dw_name (i := 7) sc_l_led.nd rfl (by first | exact Or.inl rfl | exact Or.inr rfl) (by decide)), fun _ _ _ _ _ => dts_nil, fun _ _ _ _ _ => (de_ix (ixD_any hu2) (dv 7) de_int)⟩))))
    (dss_cons (ds_set (i := 2) sc_l_led.nd rfl (by first | exact Or.inl rfl | exact Or.inr rfl) de_dnK)
    (dss_cons (ds_for (passes_of rfl) rfl (di_seq (dv 1)) (dg_name (i := 3) sc_l_led.nd rfl (by first | exact Or.inl rfl | exact Or.inr rfl))
      (dss_cons (ds_set (i := 4) sc_l_led.nd rfl (by first | exact Or.inl rfl | exact Or.inr rfl) (de_lstF da_nil))
    (dss_cons (ds_for (passes_of rfl) rfl (di_seq (dv 0)) (dg_tup rfl (dgs_cons (dg_name (i := 5) sc_l_led.nd rfl (by first | exact Or.inl rfl | exact Or.inr rfl)) (dgs_cons (dg_name (i := 6) sc_l_led.nd rfl (by first | exact Or.inl rfl | exact Or.inr rfl)) dgs_nil)))
      (dss_one (ds_if (dt_cmp (od_eq hr.units) (dv 5) (dv 3) (nomark _))
      (dss_one (ds_set (i := 4) sc_l_led.nd rfl (by first | exact Or.inl rfl | exact Or.inr rfl) (de_op od_addF (dv 4) (de_call G_l_words_in (hr.mono (by decide)) gu (by rfl) T.m_l_words_in T.F_l_words_in.kp T.d_l_words_in (da_cons (dv 6) da_nil)))))
      dss_nil)))
    (dss_one (ds_put hu2 (dv 2) (dv 3) (de_fz (de_lc (own := [("_law_one", 8)]) rfl sc_l_led.nd (di_seq (dv 1)) (blkOk_by (own := [("_law_one", 8)]) (N := ["_law_rules", "_law_heads", "_law_led_here", "_law_word", "_law_some", "_law_head", "_law_pattern_here", "_law_rule", "_law_one"]) (sc := defScope s_l_led) (by decide +kernel)) ⟨fun _ _ _ _ _ => (dw_name (i := 8) sc_l_led.nd rfl (by first | exact Or.inl rfl | exact Or.inr rfl) (by decide)), fun _ _ _ _ _ => (dts_one (DWt.pt (dw_or (dt_cmp (od_in hu2) (dv 8) (dv 4) (by rfl)) (dw_or1 (dt_cmp (od_in hu2) de_str (dv 4) (by rfl)))))), fun _ _ _ _ _ => (dv 8)⟩)))))))
    (dss_one (ds_ret (dv 2))))))

/-! led_to -/
def t_led_to : DTS := (dSeq (dAsg (dLst dNil) (dGN 3))
    (dSeq (dFor (dSeqI (dVar 1)) (dGTup 2 (dGCons (dGN 4) (dGCons (dGN 5) dGNil)))
      (dIf (dTest (dOp (dEq false) (dVar 4) (dVar 2)))
      (dDrop (dBM "list" mExtend (dVar 3) (dCons (dCall (sp_step_words 5) (dCons (dVar 5) dNil)) dNil)))
      dNx))
    (dSeq (dIf (dTest (dOp (dIn false) (dC (.str "*")) (dVar 3)))
      (dRet (dCB cListAF (dCons (dVar 0) dNil)))
      dNx)
    (dRet (dFz (dLc (dSeqI (dVar 0)) (dGN 6) (dTest (dOp (dIn false) (dVar 6) (dVar 3))) (dVar 6) [6]))))))
abbrev N_led_to : List Str := ["words", "rules", "word", "found", "head", "pattern", "one"]
theorem ok_led_to {P : Program} {w : World} {K : PySem.W.Frag} {mg : Str → Option Value} {base : Heap} (T : Txt w K mg) (G_step_words : DFn P w K mg base 7 T.a_step_words T.f_step_words ["pattern"] (sp_step_words 5)) {sp : DSp}
    (mono : SpMono sp) (len : ∀ ds S Q E, sp ds S Q E → ds.length = 3)
    (h : ∀ ds S Q E, sp ds S Q E → t_led_to (dEnd Q E) (dstart ["words", "rules", "word", "found", "head", "pattern", "one"] ds) S) : DFn P w K mg base 8 T.a_led_to T.f_led_to ["words", "rules", "word"] sp := by
  refine dfn_of2 (t := t_led_to) T.F_led_to sc_led_to mono len (fun cdv A outer s H E hr gu => ?_) h
  have hu1 := hu_of hr
  have hu2 := hu_big hr
  exact (dss_cons (ds_set (i := 3) sc_led_to.nd rfl (by first | exact Or.inl rfl | exact Or.inr rfl) (de_lst da_nil))
    (dss_cons (ds_for (passes_of rfl) rfl (di_seq (dv 1)) (dg_tup rfl (dgs_cons (dg_name (i := 4) sc_led_to.nd rfl (by first | exact Or.inl rfl | exact Or.inr rfl)) (dgs_cons (dg_name (i := 5) sc_led_to.nd rfl (by first | exact Or.inl rfl | exact Or.inr rfl)) dgs_nil)))
      (dss_one (ds_if (dt_cmp (od_eq hr.units) (dv 4) (dv 2) (nomark _))
      (dss_one (ds_expr (de_bm PySem.F.plainAttrs_list PySem.F.slot_list_extend PySem.F.type_list_extend md_extend (dv 3) (da_cons (de_call G_step_words (hr.mono (by decide)) gu (by rfl) T.m_step_words T.F_step_words.kp T.d_step_words (da_cons (dv 5) da_nil)) da_nil))))
      dss_nil)))
    (dss_cons (ds_if (dt_cmp (od_in hu2) (de_gstr (by rfl) T.g_ANY_WORD) (dv 3) (by rfl))
      (dss_one (ds_ret (de_callTy (cd_listAF rfl) (by rfl) T.b_list (by decide +kernel) (da_cons (dv 0) da_nil))))
      dss_nil)
    (dss_one (ds_ret (de_fz (de_lc (own := [("one", 6)]) rfl sc_led_to.nd (di_seq (dv 0)) (blkOk_by (own := [("one", 6)]) (N := ["words", "rules", "word", "found", "head", "pattern", "one"]) (sc := defScope s_led_to) (by decide +kernel)) ⟨fun _ _ _ _ _ => (dw_name (i := 6) sc_led_to.nd rfl (by first | exact Or.inl rfl | exact Or.inr rfl) (by decide)), fun _ _ _ _ _ => (dts_one (dt_cmp (od_in hu2) (dv 6) (dv 3) (by rfl))), fun _ _ _ _ _ => (dv 6)⟩)))))))
end K67X
set_option maxRecDepth 100000
set_option maxHeartbeats 4000000
namespace K67X
open PySem PySem.Spec L2
open L67
open L63
open Rc
open Sh hiding N_l_feed N_l_leaf N_l_names N_l_pattern deeps_le deeps_mem r_l_feed r_l_leaf r_l_names r_l_pattern sp_l_leaf sp_l_leaf_mono sp_l_names sp_l_names_mono sp_l_pattern sp_l_pattern_mono t_l_feed t_l_leaf t_l_names t_l_pattern
open Dt hiding nkeys sp_l_feed sp_l_feed_mono

/-! lay_order -/
def t_lay_order (C_GoesRound : Addr) (spR : DSp) : DTS := (dSeq (dIf (dTest (dOp (dIn false) (dVar 2) (dVar 3)))
      (dRaise C_GoesRound (sp_GoesRound_init C_GoesRound) (dCons (dSlF (dVar 3) (dSoP (dBM "list" mIndex (dVar 3) (dCons (dVar 2) dNil))) dNoP) dNil))
      dNx)
    (dIf (dTest (dOp (dIn true) (dVar 2) (dVar 4)))
      (dSeq (dFor (dSeqI (dCall sp_led_to (dCons (dVar 0) (dCons (dVar 1) (dCons (dVar 2) dNil))))) (dGN 5)
      (dDrop (dCall spR (dCons (dVar 0) (dCons (dVar 1) (dCons (dVar 5) (dCons (dOp dAddF (dVar 3) (dLstF (dCons (dVar 2) dNil))) (dCons (dVar 4) dNil))))))))
    (dDrop (dBM "list" mAppend (dVar 4) (dCons (dVar 2) dNil))))
      dNx))
abbrev N_lay_order : List Str := ["words", "rules", "word", "trail", "order", "one"]
theorem ok_lay_order {P : Program} {w : World} {K : PySem.W.Frag} {mg : Str → Option Value} {base : Heap} (T : Txt w K mg) (G_GoesRound_init : DFn P w K mg base 1 T.a_GoesRound_init T.f_GoesRound_init ["self", "ring"] (sp_GoesRound_init T.C_GoesRound)) (G_led_to : DFn P w K mg base 8 T.a_led_to T.f_led_to ["words", "rules", "word"] sp_led_to) (n : Nat) {spR : DSp} (G_lay_order : DFn P w K mg base (8 + n) T.a_lay_order T.f_lay_order ["words", "rules", "word", "trail", "order"] spR) {sp : DSp}
    (mono : SpMono sp) (len : ∀ ds S Q E, sp ds S Q E → ds.length = 5)
    (h : ∀ ds S Q E, sp ds S Q E → (t_lay_order T.C_GoesRound spR) (dEnd Q E) (dstart ["words", "rules", "word", "trail", "order", "one"] ds) S) : DFn P w K mg base (8 + n + 1) T.a_lay_order T.f_lay_order ["words", "rules", "word", "trail", "order"] sp := by
  refine dfn_of2 (t := (t_lay_order T.C_GoesRound spR)) T.F_lay_order sc_lay_order mono len (fun cdv A outer s H E hr gu => ?_) h
  have hu1 := hu_of hr
  have hu2 := hu_big hr
  exact (dss_cons (ds_if (dt_cmp (od_in hu2) (dv 2) (dv 3) (by rfl))
      (dss_one (ds_raise rfl T.x_GoesRound G_GoesRound_init (hr.mono (by omega)) gu T.d_GoesRound_init (by rfl) T.g_GoesRound (da_cons (de_slF (dv 3) (do_some (de_bm PySem.F.plainAttrs_list PySem.F.slot_list_index PySem.F.type_list_index (md_index (hu65 hu2)) (dv 3) (da_cons (dv 2) da_nil))) do_none) da_nil)))
      dss_nil)
    (dss_one (ds_if (dt_cmp (od_nin hu2) (dv 2) (dv 4) (by rfl))
      (dss_cons (ds_for (passes_of rfl) rfl (di_seq (de_call G_led_to (hr.mono (by omega)) gu (by rfl) T.m_led_to T.F_led_to.kp T.d_led_to (da_cons (dv 0) (da_cons (dv 1) (da_cons (dv 2) da_nil))))) (dg_name (i := 5) sc_lay_order.nd rfl (by first | exact Or.inl rfl | exact Or.inr rfl))
      (dss_one (ds_expr (de_call G_lay_order (hr.mono (Nat.le_refl _)) gu (by rfl) T.m_lay_order T.F_lay_order.kp T.d_lay_order (da_cons (dv 0) (da_cons (dv 1) (da_cons (dv 5) (da_cons (de_op od_addF (dv 3) (de_lstF (da_cons (dv 2) da_nil))) (da_cons (dv 4) da_nil)))))))))
    (dss_one (ds_expr (de_bm PySem.F.plainAttrs_list PySem.F.slot_list_append PySem.F.type_list_append md_append (dv 4) (da_cons (dv 2) da_nil)))))
      dss_nil)))

/-! order_of -/
def t_order_of (C_GoesRound : Addr) : DTS := (dSeq (dAsg (dSortSetAF (dFz (dLc (dSeqI (dVar 0)) (dGN 4) dYes (dOp dIxS (dVar 4) (dC (.int 0))) [4]))) (dGN 1))
    (dSeq (dAsg (dLst dNil) (dGN 2))
    (dSeq (dFor (dSeqI (dVar 1)) (dGN 3)
      (dDrop (dCall (sp_lay_order C_GoesRound 6) (dCons (dVar 1) (dCons (dVar 0) (dCons (dVar 3) (dCons (dLstF dNil) (dCons (dVar 2) dNil))))))))
    (dRet (dVar 2)))))
abbrev N_order_of : List Str := ["rules", "words", "order", "word", "rule"]
theorem ok_order_of {P : Program} {w : World} {K : PySem.W.Frag} {mg : Str → Option Value} {base : Heap} (T : Txt w K mg) (G_lay_order : DFn P w K mg base 15 T.a_lay_order T.f_lay_order ["words", "rules", "word", "trail", "order"] (sp_lay_order T.C_GoesRound 6)) {sp : DSp}
    (mono : SpMono sp) (len : ∀ ds S Q E, sp ds S Q E → ds.length = 1)
    (h : ∀ ds S Q E, sp ds S Q E → (t_order_of T.C_GoesRound) (dEnd Q E) (dstart ["rules", "words", "order", "word", "rule"] ds) S) : DFn P w K mg base 16 T.a_order_of T.f_order_of ["rules"] sp := by
  refine dfn_of2 (t := (t_order_of T.C_GoesRound)) T.F_order_of sc_order_of mono len (fun cdv A outer s H E hr gu => ?_) h
  have hu1 := hu_of hr
  have hu2 := hu_big hr
  exact (dss_cons (ds_set (i := 1) sc_order_of.nd rfl (by first | exact Or.inl rfl | exact Or.inr rfl) (de_sortSetAF rfl (hu64 hu2) (by rfl) T.b_sorted (by rfl) T.b_set (by decide +kernel) (by decide +kernel) (de_fz (de_lc (own := [("rule", 4)]) rfl sc_order_of.nd (di_seq (dv 0)) (blkOk_by (own := [("rule", 4)]) (N := ["rules", "words", "order", "word", "rule"]) (sc := defScope s_order_of) (by decide +kernel)) ⟨fun _ _ _ _ _ => (dw_name (i := 4) sc_order_of.nd rfl (by first | exact Or.inl rfl | exact Or.inr rfl) (by decide)), fun _ _ _ _ _ => dts_nil, fun _ _ _ _ _ => (de_ix (ixD_any hu2) (dv 4) de_int)⟩))))
    (dss_cons (ds_set (i := 2) sc_order_of.nd rfl (by first | exact Or.inl rfl | exact Or.inr rfl) (de_lst da_nil))
    (dss_cons (ds_for (passes_of rfl) rfl (di_seq (dv 1)) (dg_name (i := 3) sc_order_of.nd rfl (by first | exact Or.inl rfl | exact Or.inr rfl))
      (dss_one (ds_expr (de_call G_lay_order (hr.mono (by decide)) gu (by rfl) T.m_lay_order T.F_lay_order.kp T.d_lay_order (da_cons (dv 1) (da_cons (dv 0) (da_cons (dv 3) (da_cons (de_lstF da_nil) (da_cons (dv 2) da_nil)))))))))
    (dss_one (ds_ret (dv 2))))))

/-! backwards -/
def t_backwards (spR : DSp) : DTS := (dSeq (dIf (dTest (dOp (dEq false) (dOp dIxS (dVar 0) (dC (.int 0))) (dC (.str "step"))))
      (dRet (dTup (dCons (dC (.str "step")) (dCons (dKix [("on", .str "back"), ("back", .str "on")] (dOp dIxS (dVar 0) (dC (.int 1)))) (dCons (dOp dIxS (dVar 0) (dC (.int 2))) dNil)))))
      dNx)
    (dSeq (dIf (dTest (dOp (dEq false) (dOp dIxS (dVar 0) (dC (.int 0))) (dC (.str "many"))))
      (dRet (dTup (dCons (dC (.str "many")) (dCons (dCall spR (dCons (dOp dIxS (dVar 0) (dC (.int 1))) dNil)) dNil))))
      dNx)
    (dSeq (dIf (dTest (dOp (dEq false) (dOp dIxS (dVar 0) (dC (.int 0))) (dC (.str "then"))))
      (dRet (dTup (dCons (dC (.str "then")) (dCons (dCB cTuple (dCons (dFz (dLc (dRev (dOp dIxS (dVar 0) (dC (.int 1)))) (dGN 1) dYes (dCall spR (dCons (dVar 1) dNil)) [1])) dNil)) dNil))))
      dNx)
    (dSeq (dIf (dTest (dOp (dEq false) (dOp dIxS (dVar 0) (dC (.int 0))) (dC (.str "either"))))
      (dRet (dTup (dCons (dC (.str "either")) (dCons (dCB cTuple (dCons (dFz (dLc (dSeqI (dOp dIxS (dVar 0) (dC (.int 1)))) (dGN 1) dYes (dCall spR (dCons (dVar 1) dNil)) [1])) dNil)) dNil))))
      dNx)
    (dRet (dVar 0))))))
abbrev N_backwards : List Str := ["pattern", "one"]
theorem ok_backwards {P : Program} {w : World} {K : PySem.W.Frag} {mg : Str → Option Value} {base : Heap} (T : Txt w K mg) (n : Nat) {spR : DSp} (G_backwards : DFn P w K mg base (0 + n) T.a_backwards T.f_backwards ["pattern"] spR) {sp : DSp}
    (mono : SpMono sp) (len : ∀ ds S Q E, sp ds S Q E → ds.length = 1)
    (h : ∀ ds S Q E, sp ds S Q E → (t_backwards spR) (dEnd Q E) (dstart ["pattern", "one"] ds) S) : DFn P w K mg base (0 + n + 1) T.a_backwards T.f_backwards ["pattern"] sp := by
  refine dfn_of2 (t := (t_backwards spR)) T.F_backwards sc_backwards mono len (fun cdv A outer s H E hr gu => ?_) h
  have hu1 := hu_of hr
  have hu2 := hu_big hr
  exact (dss_cons (ds_if (dt_cmp (od_eq hr.units) (de_ix (ixD_any hu2) (dv 0) de_int) de_str (nomark _))
      (dss_one (ds_ret (de_tup (da_cons de_str (da_cons (de_kix T.k_OTHER_SIDES (by rfl) T.g_OTHER_SIDES (de_ix (ixD_any hu2) (dv 0) de_int)) (da_cons (de_ix (ixD_any hu2) (dv 0) de_int) da_nil))))))
      dss_nil)
    (dss_cons (ds_if (dt_cmp (od_eq hr.units) (de_ix (ixD_any hu2) (dv 0) de_int) de_str (nomark _))
      (dss_one (ds_ret (de_tup (da_cons de_str (da_cons (de_call G_backwards (hr.mono (Nat.le_refl _)) gu (by rfl) T.m_backwards T.F_backwards.kp T.d_backwards (da_cons (de_ix (ixD_any hu2) (dv 0) de_int) da_nil)) da_nil)))))
      dss_nil)
    (dss_cons (ds_if (dt_cmp (od_eq hr.units) (de_ix (ixD_any hu2) (dv 0) de_int) de_str (nomark _))
      (dss_one (ds_ret (de_tup (da_cons de_str (da_cons (de_callTy cd_tuple (by rfl) T.b_tuple (by decide +kernel) (da_cons (de_fz (de_lc (own := [("one", 1)]) rfl sc_backwards.nd (di_rev (by rfl) T.b_reversed (de_ix (ixD_any hu2) (dv 0) de_int)) (blkOk_by (own := [("one", 1)]) (N := ["pattern", "one"]) (sc := defScope s_backwards) (by decide +kernel)) ⟨fun _ _ _ _ _ => (dw_name (i := 1) sc_backwards.nd rfl (by first | exact Or.inl rfl | exact Or.inr rfl) (by decide)), fun _ _ _ _ _ => dts_nil, fun _ _ _ _ _ => (de_call G_backwards (hr.mono (Nat.le_refl _)) gu (by rfl) T.m_backwards T.F_backwards.kp T.d_backwards (da_cons (dv 1) da_nil))⟩)) da_nil)) da_nil)))))
      dss_nil)
    (dss_cons (ds_if (dt_cmp (od_eq hr.units) (de_ix (ixD_any hu2) (dv 0) de_int) de_str (nomark _))
      (dss_one (ds_ret (de_tup (da_cons de_str (da_cons (de_callTy cd_tuple (by rfl) T.b_tuple (by decide +kernel) (da_cons (de_fz (de_lc (own := [("one", 1)]) rfl sc_backwards.nd (di_seq (de_ix (ixD_any hu2) (dv 0) de_int)) (blkOk_by (own := [("one", 1)]) (N := ["pattern", "one"]) (sc := defScope s_backwards) (by decide +kernel)) ⟨fun _ _ _ _ _ => (dw_name (i := 1) sc_backwards.nd rfl (by first | exact Or.inl rfl | exact Or.inr rfl) (by decide)), fun _ _ _ _ _ => dts_nil, fun _ _ _ _ _ => (de_call G_backwards (hr.mono (Nat.le_refl _)) gu (by rfl) T.m_backwards T.F_backwards.kp T.d_backwards (da_cons (dv 1) da_nil))⟩)) da_nil)) da_nil)))))
      dss_nil)
    (dss_one (ds_ret (dv 0)))))))

/-! ways_for -/
def t_ways_for (spR : DSp) : DTS := (dSeq (dIf (dTest (dOp (dEq false) (dVar 2) (dC (.str "*"))))
      (dSeq (dAsg (dLst (dCons (dTup (dCons (dC (.str "step")) (dCons (dVar 1) (dCons (dVar 2) dNil)))) dNil)) (dGN 3))
    (dSeq (dLock (dFor (dKeyI (dVar 0)) (dGN 4)
      (dDrop (dBM "list" mExtend (dVar 3) (dCons (dCall spR (dCons (dVar 0) (dCons (dVar 1) (dCons (dVar 4) dNil)))) dNil)))))
    (dRet (dVar 3))))
      dNx)
    (dSeq (dIf (dTest (dOp (dEq false) (dVar 1) (dC (.str "on"))))
      (dRet (dCB cListAF (dCons (dOp dIxU (dVar 0) (dVar 2)) dNil)))
      dNx)
    (dRet (dFz (dLc (dSeqI (dOp dIxU (dVar 0) (dVar 2))) (dGN 5) dYes (dCall (sp_backwards 20) (dCons (dVar 5) dNil)) [5])))))
abbrev N_ways_for : List Str := ["meant", "side", "word", "found", "one", "pattern"]
theorem ok_ways_for {P : Program} {w : World} {K : PySem.W.Frag} {mg : Str → Option Value} {base : Heap} (T : Txt w K mg) (G_backwards : DFn P w K mg base 21 T.a_backwards T.f_backwards ["pattern"] (sp_backwards 20)) (n : Nat) {spR : DSp} (G_ways_for : DFn P w K mg base (21 + n) T.a_ways_for T.f_ways_for ["meant", "side", "word"] spR) {sp : DSp}
    (mono : SpMono sp) (len : ∀ ds S Q E, sp ds S Q E → ds.length = 3)
    (h : ∀ ds S Q E, sp ds S Q E → (t_ways_for spR) (dEnd Q E) (dstart ["meant", "side", "word", "found", "one", "pattern"] ds) S) : DFn P w K mg base (21 + n + 1) T.a_ways_for T.f_ways_for ["meant", "side", "word"] sp := by
  refine dfn_of2 (t := (t_ways_for spR)) T.F_ways_for sc_ways_for mono len (fun cdv A outer s H E hr gu => ?_) h
  have hu1 := hu_of hr
  have hu2 := hu_big hr
  exact (dss_cons (ds_if (dt_cmp (od_eq hr.units) (dv 2) (de_gstr (by rfl) T.g_ANY_WORD) (nomark _))
      (dss_cons (ds_set (i := 3) sc_ways_for.nd rfl (by first | exact Or.inl rfl | exact Or.inr rfl) (de_lst (da_cons (de_tup (da_cons de_str (da_cons (dv 1) (da_cons (dv 2) da_nil)))) da_nil)))
    (dss_cons (ds_lock (ds_for (passes_of rfl) rfl (di_keys (dv 0)) (dg_name (i := 4) sc_ways_for.nd rfl (by first | exact Or.inl rfl | exact Or.inr rfl))
      (dss_one (ds_expr (de_bm PySem.F.plainAttrs_list PySem.F.slot_list_extend PySem.F.type_list_extend md_extend (dv 3) (da_cons (de_call G_ways_for (hr.mono (Nat.le_refl _)) gu (by rfl) T.m_ways_for T.F_ways_for.kp T.d_ways_for (da_cons (dv 0) (da_cons (dv 1) (da_cons (dv 4) da_nil)))) da_nil))))))
    (dss_one (ds_ret (dv 3)))))
      dss_nil)
    (dss_cons (ds_if (dt_cmp (od_eq hr.units) (dv 1) de_str (nomark _))
      (dss_one (ds_ret (de_callTy (cd_listAF rfl) (by rfl) T.b_list (by decide +kernel) (da_cons (de_ix (ixD_u hu2) (dv 0) (dv 2)) da_nil))))
      dss_nil)
    (dss_one (ds_ret (de_fz (de_lc (own := [("pattern", 5)]) rfl sc_ways_for.nd (di_seq (de_ix (ixD_u hu2) (dv 0) (dv 2))) (blkOk_by (own := [("pattern", 5)]) (N := ["meant", "side", "word", "found", "one", "pattern"]) (sc := defScope s_ways_for) (by decide +kernel)) ⟨fun _ _ _ _ _ => (dw_name (i := 5) sc_ways_for.nd rfl (by first | exact Or.inl rfl | exact Or.inr rfl) (by decide)), fun _ _ _ _ _ => dts_nil, fun _ _ _ _ _ => (de_call G_backwards (hr.mono (by omega)) gu (by rfl) T.m_backwards T.F_backwards.kp T.d_backwards (da_cons (dv 5) da_nil))⟩))))))

/-! put_for -/
def t_put_for (spR : DSp) : DTS := (dSeq (dIf (dAnd (dTest (dOp (dEq false) (dOp dIxS (dVar 0) (dC (.int 0))) (dC (.str "step")))) (dOr (dTest (dOp (dEq false) (dOp dIxS (dVar 0) (dC (.int 2))) (dC (.str "*")))) (dTest (dOp (dIn false) (dOp dIxS (dVar 0) (dC (.int 2))) (dVar 1)))))
      (dRet (dTup (dCons (dC (.str "either")) (dCons (dCB cTuple (dCons (dCall (sp_ways_for 1) (dCons (dVar 1) (dCons (dOp dIxS (dVar 0) (dC (.int 1))) (dCons (dOp dIxS (dVar 0) (dC (.int 2))) dNil)))) dNil)) dNil))))
      dNx)
    (dSeq (dIf (dTest (dOp (dEq false) (dOp dIxS (dVar 0) (dC (.int 0))) (dC (.str "many"))))
      (dRet (dTup (dCons (dC (.str "many")) (dCons (dCall spR (dCons (dOp dIxS (dVar 0) (dC (.int 1))) (dCons (dVar 1) dNil))) dNil))))
      dNx)
    (dSeq (dIf (dTest (dOp (dIn false) (dOp dIxS (dVar 0) (dC (.int 0))) (dTup (dCons (dC (.str "then")) (dCons (dC (.str "either")) dNil)))))
      (dRet (dTup (dCons (dOp dIxS (dVar 0) (dC (.int 0))) (dCons (dCB cTuple (dCons (dFz (dLc (dSeqI (dOp dIxS (dVar 0) (dC (.int 1)))) (dGN 2) dYes (dCall spR (dCons (dVar 2) (dCons (dVar 1) dNil))) [2])) dNil)) dNil))))
      dNx)
    (dRet (dVar 0)))))
abbrev N_put_for : List Str := ["pattern", "meant", "one"]
theorem ok_put_for {P : Program} {w : World} {K : PySem.W.Frag} {mg : Str → Option Value} {base : Heap} (T : Txt w K mg) (G_ways_for : DFn P w K mg base 23 T.a_ways_for T.f_ways_for ["meant", "side", "word"] (sp_ways_for 1)) (n : Nat) {spR : DSp} (G_put_for : DFn P w K mg base (23 + n) T.a_put_for T.f_put_for ["pattern", "meant"] spR) {sp : DSp}
    (mono : SpMono sp) (len : ∀ ds S Q E, sp ds S Q E → ds.length = 2)
    (h : ∀ ds S Q E, sp ds S Q E → (t_put_for spR) (dEnd Q E) (dstart ["pattern", "meant", "one"] ds) S) : DFn P w K mg base (23 + n + 1) T.a_put_for T.f_put_for ["pattern", "meant"] sp := by
  refine dfn_of2 (t := (t_put_for spR)) T.F_put_for sc_put_for mono len (fun cdv A outer s H E hr gu => ?_) h
  have hu1 := hu_of hr
  have hu2 := hu_big hr
  exact (dss_cons (ds_if (DWt.pt (dw_and (dt_cmp (od_eq hr.units) (de_ix (ixD_any hu2) (dv 0) de_int) de_str (nomark _)) (dw_and1 (DWt.pt (dw_or (dt_cmp (od_eq hr.units) (de_ix (ixD_any hu2) (dv 0) de_int) (de_gstr (by rfl) T.g_ANY_WORD) (nomark _)) (dw_or1 (dt_cmp (od_in hu2) (de_ix (ixD_any hu2) (dv 0) de_int) (dv 1) (by rfl))))))))
      (dss_one (ds_ret (de_tup (da_cons de_str (da_cons (de_callTy cd_tuple (by rfl) T.b_tuple (by decide +kernel) (da_cons (de_call G_ways_for (hr.mono (by omega)) gu (by rfl) T.m_ways_for T.F_ways_for.kp T.d_ways_for (da_cons (dv 1) (da_cons (de_ix (ixD_any hu2) (dv 0) de_int) (da_cons (de_ix (ixD_any hu2) (dv 0) de_int) da_nil)))) da_nil)) da_nil)))))
      dss_nil)
    (dss_cons (ds_if (dt_cmp (od_eq hr.units) (de_ix (ixD_any hu2) (dv 0) de_int) de_str (nomark _))
      (dss_one (ds_ret (de_tup (da_cons de_str (da_cons (de_call G_put_for (hr.mono (Nat.le_refl _)) gu (by rfl) T.m_put_for T.F_put_for.kp T.d_put_for (da_cons (de_ix (ixD_any hu2) (dv 0) de_int) (da_cons (dv 1) da_nil))) da_nil)))))
      dss_nil)
    (dss_cons (ds_if (dt_cmp (od_in hu2) (de_ix (ixD_any hu2) (dv 0) de_int) (de_tup (da_cons de_str (da_cons de_str da_nil))) (by rfl))
      (dss_one (ds_ret (de_tup (da_cons (de_ix (ixD_any hu2) (dv 0) de_int) (da_cons (de_callTy cd_tuple (by rfl) T.b_tuple (by decide +kernel) (da_cons (de_fz (de_lc (own := [("one", 2)]) rfl sc_put_for.nd (di_seq (de_ix (ixD_any hu2) (dv 0) de_int)) (blkOk_by (own := [("one", 2)]) (N := ["pattern", "meant", "one"]) (sc := defScope s_put_for) (by decide +kernel)) ⟨fun _ _ _ _ _ => (dw_name (i := 2) sc_put_for.nd rfl (by first | exact Or.inl rfl | exact Or.inr rfl) (by decide)), fun _ _ _ _ _ => dts_nil, fun _ _ _ _ _ => (de_call G_put_for (hr.mono (Nat.le_refl _)) gu (by rfl) T.m_put_for T.F_put_for.kp T.d_put_for (da_cons (dv 2) (da_cons (dv 1) da_nil)))⟩)) da_nil)) da_nil)))))
      dss_nil)
    (dss_one (ds_ret (dv 0))))))

/-! unfolded -/
def t_unfolded (C_GoesRound : Addr) : DTS := (dSeq (dAsg dDnK (dGN 2))
    (dSeq (dFor (dSeqI (dCall (sp_order_of C_GoesRound) (dCons (dVar 1) dNil))) (dGN 3)
      (dPut (dVar 2) (dVar 3) (dFz (dLc (dSeqI (dVar 1)) (dGTup 2 (dGCons (dGN 4) (dGCons (dGN 5) dGNil))) (dTest (dOp (dEq false) (dVar 4) (dVar 3))) (dCall (sp_put_for 5) (dCons (dVar 5) (dCons (dVar 2) dNil))) [4, 5]))))
    (dRet (dCall (sp_put_for 5) (dCons (dVar 0) (dCons (dVar 2) dNil))))))
abbrev N_unfolded : List Str := ["pattern", "rules", "meant", "word", "head", "one"]
theorem ok_unfolded {P : Program} {w : World} {K : PySem.W.Frag} {mg : Str → Option Value} {base : Heap} (T : Txt w K mg) (G_order_of : DFn P w K mg base 16 T.a_order_of T.f_order_of ["rules"] (sp_order_of T.C_GoesRound)) (G_put_for : DFn P w K mg base 29 T.a_put_for T.f_put_for ["pattern", "meant"] (sp_put_for 5)) {sp : DSp}
    (mono : SpMono sp) (len : ∀ ds S Q E, sp ds S Q E → ds.length = 2)
    (h : ∀ ds S Q E, sp ds S Q E → (t_unfolded T.C_GoesRound) (dEnd Q E) (dstart ["pattern", "rules", "meant", "word", "head", "one"] ds) S) : DFn P w K mg base 30 T.a_unfolded T.f_unfolded ["pattern", "rules"] sp := by
  refine dfn_of2 (t := (t_unfolded T.C_GoesRound)) T.F_unfolded sc_unfolded mono len (fun cdv A outer s H E hr gu => ?_) h
  have hu1 := hu_of hr
  have hu2 := hu_big hr
  exact (dss_cons (ds_set (i := 2) sc_unfolded.nd rfl (by first | exact Or.inl rfl | exact Or.inr rfl) de_dnK)
    (dss_cons (ds_for (passes_of rfl) rfl (di_seq (de_call G_order_of (hr.mono (by decide)) gu (by rfl) T.m_order_of T.F_order_of.kp T.d_order_of (da_cons (dv 1) da_nil))) (dg_name (i := 3) sc_unfolded.nd rfl (by first | exact Or.inl rfl | exact Or.inr rfl))
      (dss_one (ds_put hu2 (dv 2) (dv 3) (de_fz (de_lc (own := [("head", 4), ("one", 5)]) rfl sc_unfolded.nd (di_seq (dv 1)) (blkOk_by (own := [("head", 4), ("one", 5)]) (N := ["pattern", "rules", "meant", "word", "head", "one"]) (sc := defScope s_unfolded) (by decide +kernel)) ⟨fun _ _ _ _ _ => (dw_tup rfl (dws_cons (dw_name (i := 4) sc_unfolded.nd rfl (by first | exact Or.inl rfl | exact Or.inr rfl) (by decide)) (dws_cons (dw_name (i := 5) sc_unfolded.nd rfl (by first | exact Or.inl rfl | exact Or.inr rfl) (by decide)) dws_nil))), fun _ _ _ _ _ => (dts_one (dt_cmp (od_eq hr.units) (dv 4) (dv 3) (nomark _))), fun _ _ _ _ _ => (de_call G_put_for (hr.mono (by decide)) gu (by rfl) T.m_put_for T.F_put_for.kp T.d_put_for (da_cons (dv 5) (da_cons (dv 2) da_nil)))⟩)))))
    (dss_one (ds_ret (de_call G_put_for (hr.mono (by decide)) gu (by rfl) T.m_put_for T.F_put_for.kp T.d_put_for (da_cons (dv 0) (da_cons (dv 2) da_nil)))))))

/-! l_asked -/
def t_l_asked (C_GoesRound : Addr) : DTS := (dSeq (dAsg (dC .non) (dGN 3))
    (dSeq (dAsg (dC .non) (dGN 4))
    (dSeq (dAsg (dC (.bl true)) (dGN 5))
    (dSeq (dTry [(C_GoesRound, true)] 6
      (dIf (dTest (dOp (dEq false) (dVar 0) (dC (.int 0))))
      (dAsg (dCall (sp_order_of C_GoesRound) (dCons (dVar 1) dNil)) (dGN 3))
      (dAsg (dCall (sp_unfolded C_GoesRound) (dCons (dVar 2) (dCons (dVar 1) dNil))) (dGN 3)))
      (dSeq (dAsg (dAndV (dIsE [(C_GoesRound, true)] (dVar 6)) (dNotV (dIsE [(C_GoesRound, false)] (dVar 6)))) (dGN 5))
    (dIf (dTest (dIsE [(C_GoesRound, true)] (dVar 6)))
      (dAsg (dFldX [C_GoesRound] "ring" (dVar 6)) (dGN 4))
      dNx)))
    (dRet (dTup (dCons (dVar 3) (dCons (dVar 4) (dCons (dVar 5) dNil)))))))))
abbrev N_l_asked : List Str := ["_law_way", "_law_rules", "_law_pattern_here", "_law_told", "_law_ring_here", "_law_alone", "e"]
theorem ok_l_asked {P : Program} {w : World} {K : PySem.W.Frag} {mg : Str → Option Value} {base : Heap} (T : Txt w K mg) (G_order_of : DFn P w K mg base 16 T.a_order_of T.f_order_of ["rules"] (sp_order_of T.C_GoesRound)) (G_unfolded : DFn P w K mg base 30 T.a_unfolded T.f_unfolded ["pattern", "rules"] (sp_unfolded T.C_GoesRound)) {sp : DSp}
    (mono : SpMono sp) (len : ∀ ds S Q E, sp ds S Q E → ds.length = 3)
    (h : ∀ ds S Q E, sp ds S Q E → (t_l_asked T.C_GoesRound) (dEnd Q E) (dstart ["_law_way", "_law_rules", "_law_pattern_here", "_law_told", "_law_ring_here", "_law_alone", "e"] ds) S) : DFn P w K mg base 31 T.a_l_asked T.f_l_asked ["_law_way", "_law_rules", "_law_pattern_here"] sp := by
  refine dfn_of2 (t := (t_l_asked T.C_GoesRound)) T.F_l_asked sc_l_asked mono len (fun cdv A outer s H E hr gu => ?_) h
  have hu1 := hu_of hr
  have hu2 := hu_big hr
  exact (dss_cons (ds_set (i := 3) sc_l_asked.nd rfl (by first | exact Or.inl rfl | exact Or.inr rfl) de_non)
    (dss_cons (ds_set (i := 4) sc_l_asked.nd rfl (by first | exact Or.inl rfl | exact Or.inr rfl) de_non)
    (dss_cons (ds_set (i := 5) sc_l_asked.nd rfl (by first | exact Or.inl rfl | exact Or.inr rfl) de_bl)
    (dss_cons (ds_try (i := 6) rfl rfl rfl sc_l_asked.nd rfl rfl ⟨by rfl, by decide, .inl T.g_PathError⟩ T.ex_PathError (fun pn xe hp => (dss_one (ds_if (dt_cmp (od_eq hr.units) (dv 0) de_int (nomark _))
      (dss_one (ds_set (i := 3) sc_l_asked.nd rfl (by first | exact Or.inl rfl | exact Or.inr rfl) (de_call G_order_of (hr.mono (by decide)) gu (by rfl) T.m_order_of T.F_order_of.kp T.d_order_of (da_cons (dv 1) da_nil))))
      (dss_one (ds_set (i := 3) sc_l_asked.nd rfl (by first | exact Or.inl rfl | exact Or.inr rfl) (de_call G_unfolded (hr.mono (by decide)) gu (by rfl) T.m_unfolded T.F_unfolded.kp T.d_unfolded (da_cons (dv 2) (da_cons (dv 1) da_nil)))))))) (fun a pn => (dss_cons (ds_set (i := 5) sc_l_asked.nd rfl (by first | exact Or.inl rfl | exact Or.inr rfl) (de_and (de_ise (c := .ty "ValueError") (cv := .type "ValueError") (xc_cons T.x_GoesRound xc_nil) T.kt_ValueError (fun _ h => h) (pe_bltn (v := .ty "ValueError") (by rfl) T.b_ValueError PyProof.Rows.Boot.«ValueError» rfl (by decide) (by decide)) (dv 6) (by rfl) T.b_isinstance) (de_one (de_not (de_ises (xc_cons T.x_GoesRound xc_nil) T.kts_NoKnot_NoName_NoTie_TooLong_TooMany_Twice (da_cs (by rfl) T.g_NoKnot (da_cs (by rfl) T.g_NoName (da_cs (by rfl) T.g_NoTie (da_cs (by rfl) T.g_TooLong (da_cs (by rfl) T.g_TooMany (da_cs (by rfl) T.g_Twice da_cs_nil)))))) (dv 6) (by rfl) T.b_isinstance (by rw [sizeLine_eq]; simp))))))
    (dss_one (ds_if (dt_val (de_ise (c := .ref T.C_GoesRound) (cv := .ref T.C_GoesRound) (xc_cons T.x_GoesRound xc_nil) T.kt_GoesRound (fun _ h => h) (pe_glob (v := .ref T.C_GoesRound) (by rfl) T.g_GoesRound rfl (by decide)) (dv 6) (by rfl) T.b_isinstance))
      (dss_one (ds_set (i := 4) sc_l_asked.nd rfl (by first | exact Or.inl rfl | exact Or.inr rfl) (de_fldx (fx_cons T.x_GoesRound (by decide +kernel) fx_nil) (dv 6))))
      dss_nil)))))
    (dss_one (ds_ret (de_tup (da_cons (dv 3) (da_cons (dv 4) (da_cons (dv 5) da_nil))))))))))

/-! law -/
def t_law (C_GoesRound : Addr) : DTS := (dSeq (dAsg (dCall sp_l_feed (dCons (dVar 0) dNil)) (dGN 1))
    (dSeq (dAsg (dCall sp_l_names (dCons (dVar 1) (dCons (dOp dAddF (dC (.int 1)) (dCall sp_l_draw (dCons (dVar 1) (dCons (dC (.int 4)) dNil)))) dNil))) (dGN 2))
    (dSeq (dAsg (dSlF (dLstF (dCons (dC (.str "m")) dNil)) dNoP (dSoP (dCall sp_l_draw (dCons (dVar 1) (dCons (dC (.int 2)) dNil))))) (dGN 3))
    (dSeq (dAsg (dLst dNil) (dGN 4))
    (dSeq (dAsg (dOp (dEq false) (dCall sp_l_draw (dCons (dVar 1) (dCons (dC (.int 2)) dNil))) (dC (.int 1))) (dGN 5))
    (dSeq (dFor (dRng1 (dCons (dCall sp_l_draw (dCons (dVar 1) (dCons (dC (.int 5)) dNil))) dNil)) (dGN 6)
      (dSeq (dAsg (dCall sp_l_draw (dCons (dVar 1) (dCons (dCB cLen (dCons (dVar 2) dNil)) dNil))) (dGN 7))
    (dSeq (dAsg (dOp dAddF (dVar 2) (dLstF (dCons (dC (.str "u")) (dCons (dC (.str "uu")) dNil)))) (dGN 8))
    (dSeq (dIf (dTest (dVar 5))
      (dAsg (dOp dAddF (dSlF (dVar 2) (dSoP (dOp dAddF (dVar 7) (dC (.int 1)))) dNoP) (dLstF (dCons (dC (.str "u")) (dCons (dC (.str "uu")) dNil)))) (dGN 8))
      dNx)
    (dSeq (dAsg (dCall (sp_l_pattern 4) (dCons (dVar 1) (dCons (dVar 8) (dCons (dVar 3) (dCons (dLst (dCons (dOp dAddF (dC (.int 1)) (dCall sp_l_draw (dCons (dVar 1) (dCons (dC (.int 6)) dNil)))) dNil)) (dCons (dC (.int 3)) dNil)))))) (dGN 9))
    (dDrop (dBM "list" mAppend (dVar 4) (dCons (dTup (dCons (dOp dIxS (dVar 2) (dVar 7)) (dCons (dVar 9) dNil))) dNil))))))))
    (dSeq (dIf (dTest (dOp (dEq false) (dCall sp_l_draw (dCons (dVar 1) (dCons (dC (.int 4)) dNil))) (dC (.int 0))))
      (dAsg (dCall sp_l_lead_in (dCons (dVar 1) (dCons (dVar 2) dNil))) (dGN 4))
      dNx)
    (dSeq (dAsg (dCall sp_l_led (dCons (dVar 4) dNil)) (dGN 10))
    (dSeq (dAsg (dCall (sp_l_pattern 4) (dCons (dVar 1) (dCons (dOp dAddF (dVar 2) (dLstF (dCons (dC (.str "u")) dNil))) (dCons (dVar 3) (dCons (dLst (dCons (dOp dAddF (dC (.int 1)) (dCall sp_l_draw (dCons (dVar 1) (dCons (dC (.int 3)) dNil)))) dNil)) (dCons (dC (.int 2)) dNil)))))) (dGN 9))
    (dSeq (dAsg (dCB cListAF (dCons (dVar 4) dNil)) (dGN 11))
    (dSeq (dAsg (dCall (sp_l_asked C_GoesRound) (dCons (dC (.int 0)) (dCons (dVar 11) (dCons (dVar 9) dNil)))) (dGTupA 3 (dGCons (dGN 12) (dGCons (dGN 13) (dGCons (dGN 14) dGNil)))))
    (dSeq (dAsg (dCall (sp_l_asked C_GoesRound) (dCons (dC (.int 1)) (dCons (dVar 11) (dCons (dVar 9) dNil)))) (dGN 15))
    (dSeq (dIf (dOr (dTest (dOp (dEq true) (dVar 11) (dVar 4))) (dOr (dNot (dTest (dVar 14))) (dNot (dTest (dOp dIxS (dVar 15) (dC (.int 2)))))))
      (dRet (dC (.bl false)))
      dNx)
    (dSeq (dIf (dTest (dCall sp_l_goes_round (dCons (dVar 10) dNil)))
      (dRet (dAndV (dOp (dIsN false) (dVar 12) (dC .non)) (dAndV (dCall sp_l_ring (dCons (dVar 10) (dCons (dVar 13) dNil))) (dAndV (dOp (dIsN false) (dOp dIxS (dVar 15) (dC (.int 0))) (dC .non)) (dCall sp_l_ring (dCons (dVar 10) (dCons (dOp dIxS (dVar 15) (dC (.int 1))) dNil)))))))
      dNx)
    (dSeq (dIf (dOr (dNot (dTest (dIsi "list" (dVar 12)))) (dOr (dTest (dOp (dEq true) (dCB cSortAF (dCons (dVar 12) dNil)) (dCB cSortAF (dCons (dVar 10) dNil)))) (dTest (dOp (dIsN false) (dOp dIxS (dVar 15) (dC (.int 0))) (dC .non)))))
      (dRet (dC (.bl false)))
      dNx)
    (dSeq (dLock (dFor (dKeyI (dVar 10)) (dGN 16)
      (dIf (dTest (dOp (dEq true) (dFz (dLc (dSeqI (dOp dIxU (dVar 10) (dVar 16))) (dGN 17) (dTest (dOp rGt (dBM "list" mIndex (dVar 12) (dCons (dVar 17) dNil)) (dBM "list" mIndex (dVar 12) (dCons (dVar 16) dNil)))) (dVar 17) [17])) (dLstF dNil)))
      (dRet (dC (.bl false)))
      dNx)))
    (dRet (dC (.bl true)))))))))))))))))))
abbrev N_law : List Str := ["_law_script", "_law_feed_here", "_law_heads", "_law_marks", "_law_rules", "_law_onward", "_law_k", "_law_at", "_law_words", "_law_pattern_here", "_law_led_here", "_law_handed", "_law_told", "_law_ring_here", "_law_alone", "_law_again", "_law_word", "_law_one"]
theorem ok_law {P : Program} {w : World} {K : PySem.W.Frag} {mg : Str → Option Value} {base : Heap} (T : Txt w K mg) (G_l_feed : DFn P w K mg base 1 T.a_l_feed T.f_l_feed ["_law_script"] sp_l_feed) (G_l_draw : DFn P w K mg base 1 T.a_l_draw T.f_l_draw ["_law_feed_here", "_law_many"] sp_l_draw) (G_l_goes_round : DFn P w K mg base 1 T.a_l_goes_round T.f_l_goes_round ["_law_led_here"] sp_l_goes_round) (G_l_ring : DFn P w K mg base 1 T.a_l_ring T.f_l_ring ["_law_led_here", "_law_ring_here"] sp_l_ring) (G_l_names : DFn P w K mg base 2 T.a_l_names T.f_l_names ["_law_feed_here", "_law_many"] sp_l_names) (G_l_lead_in : DFn P w K mg base 2 T.a_l_lead_in T.f_l_lead_in ["_law_feed_here", "_law_heads"] sp_l_lead_in) (G_l_pattern : DFn P w K mg base 7 T.a_l_pattern T.f_l_pattern ["_law_feed_here", "_law_words", "_law_marks", "_law_bag", "_law_deep"] (sp_l_pattern 4)) (G_l_led : DFn P w K mg base 7 T.a_l_led T.f_l_led ["_law_rules"] sp_l_led) (G_l_asked : DFn P w K mg base 31 T.a_l_asked T.f_l_asked ["_law_way", "_law_rules", "_law_pattern_here"] (sp_l_asked T.C_GoesRound)) {sp : DSp}
    (mono : SpMono sp) (len : ∀ ds S Q E, sp ds S Q E → ds.length = 1)
    (h : ∀ ds S Q E, sp ds S Q E → (t_law T.C_GoesRound) (dEnd Q E) (dstart ["_law_script", "_law_feed_here", "_law_heads", "_law_marks", "_law_rules", "_law_onward", "_law_k", "_law_at", "_law_words", "_law_pattern_here", "_law_led_here", "_law_handed", "_law_told", "_law_ring_here", "_law_alone", "_law_again", "_law_word", "_law_one"] ds) S) : DFn P w K mg base 32 T.a_law T.f_law ["_law_script"] sp := by
  refine dfn_of2 (t := (t_law T.C_GoesRound)) T.F_law sc_law mono len (fun cdv A outer s H E hr gu => ?_) h
  have hu1 := hu_of hr
  have hu2 := hu_big hr
  exact (dss_cons (ds_set (i := 1) sc_law.nd rfl (by first | exact Or.inl rfl | exact Or.inr rfl) (de_call G_l_feed (hr.mono (by decide)) gu (by rfl) T.m_l_feed T.F_l_feed.kp T.d_l_feed (da_cons (dv 0) da_nil)))
    (dss_cons (ds_set (i := 2) sc_law.nd rfl (by first | exact Or.inl rfl | exact Or.inr rfl) (de_call G_l_names (hr.mono (by decide)) gu (by rfl) T.m_l_names T.F_l_names.kp T.d_l_names (da_cons (dv 1) (da_cons (de_op od_addF de_int (de_call G_l_draw (hr.mono (by decide)) gu (by rfl) T.m_l_draw T.F_l_draw.kp T.d_l_draw (da_cons (dv 1) (da_cons de_int da_nil)))) da_nil))))
    (dss_cons (ds_set (i := 3) sc_law.nd rfl (by first | exact Or.inl rfl | exact Or.inr rfl) (de_slF (de_lstF (da_cons de_str da_nil)) do_none (do_some (de_call G_l_draw (hr.mono (by decide)) gu (by rfl) T.m_l_draw T.F_l_draw.kp T.d_l_draw (da_cons (dv 1) (da_cons de_int da_nil))))))
    (dss_cons (ds_set (i := 4) sc_law.nd rfl (by first | exact Or.inl rfl | exact Or.inr rfl) (de_lst da_nil))
    (dss_cons (ds_set (i := 5) sc_law.nd rfl (by first | exact Or.inl rfl | exact Or.inr rfl) (de_cmp (od_eq hr.units) (de_call G_l_draw (hr.mono (by decide)) gu (by rfl) T.m_l_draw T.F_l_draw.kp T.d_l_draw (da_cons (dv 1) (da_cons de_int da_nil))) de_int (nomark _)))
    (dss_cons (ds_for (passes_of rfl) rfl (di_rng1 (by rfl) T.b_range (da_cons (de_call G_l_draw (hr.mono (by decide)) gu (by rfl) T.m_l_draw T.F_l_draw.kp T.d_l_draw (da_cons (dv 1) (da_cons de_int da_nil))) da_nil)) (dg_name (i := 6) sc_law.nd rfl (by first | exact Or.inl rfl | exact Or.inr rfl))
      (dss_cons (ds_set (i := 7) sc_law.nd rfl (by first | exact Or.inl rfl | exact Or.inr rfl) (de_call G_l_draw (hr.mono (by decide)) gu (by rfl) T.m_l_draw T.F_l_draw.kp T.d_l_draw (da_cons (dv 1) (da_cons (de_callB cd_len (by rfl) T.b_len (by decide +kernel) (da_cons (dv 2) da_nil)) da_nil))))
    (dss_cons (ds_set (i := 8) sc_law.nd rfl (by first | exact Or.inl rfl | exact Or.inr rfl) (de_op od_addF (dv 2) (de_lstF (da_cons de_str (da_cons de_str da_nil)))))
    (dss_cons (ds_if (dt_val (dv 5))
      (dss_one (ds_set (i := 8) sc_law.nd rfl (by first | exact Or.inl rfl | exact Or.inr rfl) (de_op od_addF (de_slF (dv 2) (do_some (de_op od_addF (dv 7) de_int)) do_none) (de_lstF (da_cons de_str (da_cons de_str da_nil))))))
      dss_nil)
    (dss_cons (ds_set (i := 9) sc_law.nd rfl (by first | exact Or.inl rfl | exact Or.inr rfl) (de_call G_l_pattern (hr.mono (by decide)) gu (by rfl) T.m_l_pattern T.F_l_pattern.kp T.d_l_pattern (da_cons (dv 1) (da_cons (dv 8) (da_cons (dv 3) (da_cons (de_lst (da_cons (de_op od_addF de_int (de_call G_l_draw (hr.mono (by decide)) gu (by rfl) T.m_l_draw T.F_l_draw.kp T.d_l_draw (da_cons (dv 1) (da_cons de_int da_nil)))) da_nil)) (da_cons de_int da_nil)))))))
    (dss_one (ds_expr (de_bm PySem.F.plainAttrs_list PySem.F.slot_list_append PySem.F.type_list_append md_append (dv 4) (da_cons (de_tup (da_cons (de_ix (ixD_any hu2) (dv 2) (dv 7)) (da_cons (dv 9) da_nil))) da_nil)))))))))
    (dss_cons (ds_if (dt_cmp (od_eq hr.units) (de_call G_l_draw (hr.mono (by decide)) gu (by rfl) T.m_l_draw T.F_l_draw.kp T.d_l_draw (da_cons (dv 1) (da_cons de_int da_nil))) de_int (nomark _))
      (dss_one (ds_set (i := 4) sc_law.nd rfl (by first | exact Or.inl rfl | exact Or.inr rfl) (de_call G_l_lead_in (hr.mono (by decide)) gu (by rfl) T.m_l_lead_in T.F_l_lead_in.kp T.d_l_lead_in (da_cons (dv 1) (da_cons (dv 2) da_nil)))))
      dss_nil)
    (dss_cons (ds_set (i := 10) sc_law.nd rfl (by first | exact Or.inl rfl | exact Or.inr rfl) (de_call G_l_led (hr.mono (by decide)) gu (by rfl) T.m_l_led T.F_l_led.kp T.d_l_led (da_cons (dv 4) da_nil)))
    (dss_cons (ds_set (i := 9) sc_law.nd rfl (by first | exact Or.inl rfl | exact Or.inr rfl) (de_call G_l_pattern (hr.mono (by decide)) gu (by rfl) T.m_l_pattern T.F_l_pattern.kp T.d_l_pattern (da_cons (dv 1) (da_cons (de_op od_addF (dv 2) (de_lstF (da_cons de_str da_nil))) (da_cons (dv 3) (da_cons (de_lst (da_cons (de_op od_addF de_int (de_call G_l_draw (hr.mono (by decide)) gu (by rfl) T.m_l_draw T.F_l_draw.kp T.d_l_draw (da_cons (dv 1) (da_cons de_int da_nil)))) da_nil)) (da_cons de_int da_nil)))))))
    (dss_cons (ds_set (i := 11) sc_law.nd rfl (by first | exact Or.inl rfl | exact Or.inr rfl) (de_callTy (cd_listAF rfl) (by rfl) T.b_list (by decide +kernel) (da_cons (dv 4) da_nil)))
    (dss_cons (ds_asg (de_call G_l_asked (hr.mono (by decide)) gu (by rfl) T.m_l_asked T.F_l_asked.kp T.d_l_asked (da_cons de_int (da_cons (dv 11) (da_cons (dv 9) da_nil)))) (dg_tupA rfl (dgs_cons (dg_name (i := 12) sc_law.nd rfl (by first | exact Or.inl rfl | exact Or.inr rfl)) (dgs_cons (dg_name (i := 13) sc_law.nd rfl (by first | exact Or.inl rfl | exact Or.inr rfl)) (dgs_cons (dg_name (i := 14) sc_law.nd rfl (by first | exact Or.inl rfl | exact Or.inr rfl)) dgs_nil)))))
    (dss_cons (ds_set (i := 15) sc_law.nd rfl (by first | exact Or.inl rfl | exact Or.inr rfl) (de_call G_l_asked (hr.mono (by decide)) gu (by rfl) T.m_l_asked T.F_l_asked.kp T.d_l_asked (da_cons de_int (da_cons (dv 11) (da_cons (dv 9) da_nil)))))
    (dss_cons (ds_if (DWt.pt (dw_or (dt_cmp (od_ne hr.units) (dv 11) (dv 4) (nomark _)) (dw_or (dt_not (dt_val (dv 14))) (dw_or1 (dt_not (dt_val (de_ix (ixD_any hu2) (dv 15) de_int)))))))
      (dss_one (ds_ret de_bl))
      dss_nil)
    (dss_cons (ds_if (dt_val (de_call G_l_goes_round (hr.mono (by decide)) gu (by rfl) T.m_l_goes_round T.F_l_goes_round.kp T.d_l_goes_round (da_cons (dv 10) da_nil)))
      (dss_one (ds_ret (de_and (de_cmp od_is (dv 12) de_non (nomark _)) (de_and (de_call G_l_ring (hr.mono (by decide)) gu (by rfl) T.m_l_ring T.F_l_ring.kp T.d_l_ring (da_cons (dv 10) (da_cons (dv 13) da_nil))) (de_and (de_cmp od_is (de_ix (ixD_any hu2) (dv 15) de_int) de_non (nomark _)) (de_one (de_call G_l_ring (hr.mono (by decide)) gu (by rfl) T.m_l_ring T.F_l_ring.kp T.d_l_ring (da_cons (dv 10) (da_cons (de_ix (ixD_any hu2) (dv 15) de_int) da_nil)))))))))
      dss_nil)
    (dss_cons (ds_if (DWt.pt (dw_or (dt_not (dt_val (de_isi (T := "list") (by decide) (dv 12) (by rfl) T.b_isinstance (by rfl) T.b_list (by decide +kernel)))) (dw_or (dt_cmp (od_ne hr.units) (de_callB (cd_sortAF rfl (hu64 hu2)) (by rfl) T.b_sorted (by decide +kernel) (da_cons (dv 12) da_nil)) (de_callB (cd_sortAF rfl (hu64 hu2)) (by rfl) T.b_sorted (by decide +kernel) (da_cons (dv 10) da_nil)) (nomark _)) (dw_or1 (dt_cmp od_is (de_ix (ixD_any hu2) (dv 15) de_int) de_non (nomark _))))))
      (dss_one (ds_ret de_bl))
      dss_nil)
    (dss_cons (ds_lock (ds_for (passes_of rfl) rfl (di_keys (dv 10)) (dg_name (i := 16) sc_law.nd rfl (by first | exact Or.inl rfl | exact Or.inr rfl))
      (dss_one (ds_if (dt_cmp (od_ne hr.units) (de_fz (de_lc (own := [("_law_one", 17)]) rfl sc_law.nd (di_seq (de_ix (ixD_u hu2) (dv 10) (dv 16))) (blkOk_by (own := [("_law_one", 17)]) (N := ["_law_script", "_law_feed_here", "_law_heads", "_law_marks", "_law_rules", "_law_onward", "_law_k", "_law_at", "_law_words", "_law_pattern_here", "_law_led_here", "_law_handed", "_law_told", "_law_ring_here", "_law_alone", "_law_again", "_law_word", "_law_one"]) (sc := defScope s_law) (by decide +kernel)) ⟨fun _ _ _ _ _ => (dw_name (i := 17) sc_law.nd rfl (by first | exact Or.inl rfl | exact Or.inr rfl) (by decide)), fun _ _ _ _ _ => (dts_one (dt_cmp od_gt (de_bm PySem.F.plainAttrs_list PySem.F.slot_list_index PySem.F.type_list_index (md_index (hu65 hu2)) (dv 12) (da_cons (dv 17) da_nil)) (de_bm PySem.F.plainAttrs_list PySem.F.slot_list_index PySem.F.type_list_index (md_index (hu65 hu2)) (dv 12) (da_cons (dv 16) da_nil)) (nomark _))), fun _ _ _ _ _ => (dv 17)⟩)) (de_lstF da_nil) (nomark _))
      (dss_one (ds_ret de_bl))
      dss_nil))))
    (dss_one (ds_ret de_bl))))))))))))))))))
end K67X
set_option maxRecDepth 100000
set_option maxHeartbeats 4000000
namespace K67X
open PySem PySem.Spec L2
open L67
open L63
open Rc
open Sh hiding N_l_feed N_l_leaf N_l_names N_l_pattern deeps_le deeps_mem r_l_feed r_l_leaf r_l_names r_l_pattern sp_l_leaf sp_l_leaf_mono sp_l_names sp_l_names_mono sp_l_pattern sp_l_pattern_mono t_l_feed t_l_leaf t_l_names t_l_pattern
open Dt hiding nkeys sp_l_feed sp_l_feed_mono

section
theorem all_mk {l : PySem.W.OpenLaw} {w : World} {K : PySem.W.Frag} {h : Heap} {mg : Str → Option Value} {fa : Addr} (X : K.In h) (G : h.Ns mainGlobals mg) (hfa : mg "law" = some (.ref fa))
    {f0 f1 f2 f3 f4 f5 f6 f7 f8 f9 f10 f11 f12 f13 f14 f15 f16 f17 f18 f19 f20 f21 : Addr} {od0 an0 od1 an1 od2 an2 od3 an3 od4 an4 od5 an5 od6 an6 od7 an7 od8 an8 od9 an9 od10 an10 od11 an11 od12 an12 od13 an13 od14 an14 od15 an15 od16 an16 od17 an17 od18 an18 od19 an19 od20 an20 od21 an21 : Option Addr} {sl0 sl1 sl2 sl3 sl4 sl5 sl6 sl7 sl8 sl9 sl10 sl11 sl12 sl13 sl14 sl15 sl16 sl17 sl18 sl19 sl20 sl21 : Array (Option Value)} {oc0 kV0 dc0 pm0 cd0 ct0 oc1 kV1 dc1 pm1 cd1 ct1 oc2 kV2 dc2 pm2 cd2 ct2 oc3 kV3 dc3 pm3 cd3 ct3 oc4 kV4 dc4 pm4 cd4 ct4 oc5 kV5 dc5 pm5 cd5 ct5 oc6 kV6 dc6 pm6 cd6 ct6 oc7 kV7 dc7 pm7 cd7 ct7 oc8 kV8 dc8 pm8 cd8 ct8 oc9 kV9 dc9 pm9 cd9 ct9 oc10 kV10 dc10 pm10 cd10 ct10 oc11 kV11 dc11 pm11 cd11 ct11 oc12 kV12 dc12 pm12 cd12 ct12 oc13 kV13 dc13 pm13 cd13 ct13 oc14 kV14 dc14 pm14 cd14 ct14 oc15 kV15 dc15 pm15 cd15 ct15 oc16 kV16 dc16 pm16 cd16 ct16 oc17 kV17 dc17 pm17 cd17 ct17 oc18 kV18 dc18 pm18 cd18 ct18 oc19 kV19 dc19 pm19 cd19 ct19 oc20 kV20 dc20 pm20 cd20 ct20 oc21 kV21 dc21 pm21 cd21 ct21 : Value}
    {vC0 : Addr} (aC0 : PySem.W.nsIn K mainGlobals "GoesRound" = some (some (.ref vC0)))
    {vC1 : Addr} (aC1 : PySem.W.nsIn K mainGlobals "NoKnot" = some (some (.ref vC1)))
    {vC2 : Addr} (aC2 : PySem.W.nsIn K mainGlobals "NoName" = some (some (.ref vC2)))
    {vC3 : Addr} (aC3 : PySem.W.nsIn K mainGlobals "NoTie" = some (some (.ref vC3)))
    {vC4 : Addr} (aC4 : PySem.W.nsIn K mainGlobals "PathError" = some (some (.ref vC4)))
    {vC5 : Addr} (aC5 : PySem.W.nsIn K mainGlobals "TooLong" = some (some (.ref vC5)))
    {vC6 : Addr} (aC6 : PySem.W.nsIn K mainGlobals "TooMany" = some (some (.ref vC6)))
    {vC7 : Addr} (aC7 : PySem.W.nsIn K mainGlobals "Twice" = some (some (.ref vC7)))
    (a0 : PySem.W.findIn K (.ref vC0) "__init__" = some (some (.ref f0))) (l0 : K.lookup f0 = some ⟨oc0, od0, .func (PySem.W.fnOf "__init__" "GoesRound.__init__" (defArgs s_GoesRound_init) (defBody s_GoesRound_init) (defScope s_GoesRound_init) .none kV0 dc0 pm0 an0 cd0 ct0), sl0⟩) (c0 : PySem.W.codeIn K cd0 "GoesRound.__init__" = true) (k0 : PySem.W.keepIn K (.ref f0) = true)
    {xn0 xq0 : Str} {xN0 : Addr} {xb0 xm0 xu0 : List Value} {xs0 : List Str} {xa0 : Bool} {xc0 : Option Bool} {xd0 : Option Addr} {xk00 xk01 xk02 xk03 xk05 : Option Value}
    (xl0 : K.lookup vC0 = some (excClassObj xn0 xq0 vC0 xN0 xb0 xm0 true xs0 xu0 xa0 xc0 xd0 xk00 xk01 xk02 xk03 xk05 "ValueError.__new__")) (xr0 : PySem.HandSPX.refsVE xm0 = true) (xf0 : xfactB K vC0 f0 ["ring"] = true)
    (a1 : PySem.W.nsIn K mainGlobals "parts_by" = some (some (.ref f1))) (l1 : K.lookup f1 = some ⟨oc1, od1, .func (PySem.W.fnOf "parts_by" "parts_by" (defArgs s_parts_by) (defBody s_parts_by) (defScope s_parts_by) .none kV1 dc1 pm1 an1 cd1 ct1), sl1⟩) (c1 : PySem.W.codeIn K cd1 "parts_by" = true) (k1 : PySem.W.keepIn K (.ref f1) = true)
    (a2 : PySem.W.nsIn K mainGlobals "_law_feed" = some (some (.ref f2))) (l2 : K.lookup f2 = some ⟨oc2, od2, .func (PySem.W.fnOf "_law_feed" "_law_feed" (defArgs s_l_feed) (defBody s_l_feed) (defScope s_l_feed) .none kV2 dc2 pm2 an2 cd2 ct2), sl2⟩) (c2 : PySem.W.codeIn K cd2 "_law_feed" = true) (k2 : PySem.W.keepIn K (.ref f2) = true)
    (a3 : PySem.W.nsIn K mainGlobals "_law_draw" = some (some (.ref f3))) (l3 : K.lookup f3 = some ⟨oc3, od3, .func (PySem.W.fnOf "_law_draw" "_law_draw" (defArgs s_l_draw) (defBody s_l_draw) (defScope s_l_draw) .none kV3 dc3 pm3 an3 cd3 ct3), sl3⟩) (c3 : PySem.W.codeIn K cd3 "_law_draw" = true) (k3 : PySem.W.keepIn K (.ref f3) = true)
    (a4 : PySem.W.nsIn K mainGlobals "_law_goes_round" = some (some (.ref f4))) (l4 : K.lookup f4 = some ⟨oc4, od4, .func (PySem.W.fnOf "_law_goes_round" "_law_goes_round" (defArgs s_l_goes_round) (defBody s_l_goes_round) (defScope s_l_goes_round) .none kV4 dc4 pm4 an4 cd4 ct4), sl4⟩) (c4 : PySem.W.codeIn K cd4 "_law_goes_round" = true) (k4 : PySem.W.keepIn K (.ref f4) = true)
    (a5 : PySem.W.nsIn K mainGlobals "_law_ring" = some (some (.ref f5))) (l5 : K.lookup f5 = some ⟨oc5, od5, .func (PySem.W.fnOf "_law_ring" "_law_ring" (defArgs s_l_ring) (defBody s_l_ring) (defScope s_l_ring) .none kV5 dc5 pm5 an5 cd5 ct5), sl5⟩) (c5 : PySem.W.codeIn K cd5 "_law_ring" = true) (k5 : PySem.W.keepIn K (.ref f5) = true)
    (a6 : PySem.W.nsIn K mainGlobals "_law_names" = some (some (.ref f6))) (l6 : K.lookup f6 = some ⟨oc6, od6, .func (PySem.W.fnOf "_law_names" "_law_names" (defArgs s_l_names) (defBody s_l_names) (defScope s_l_names) .none kV6 dc6 pm6 an6 cd6 ct6), sl6⟩) (c6 : PySem.W.codeIn K cd6 "_law_names" = true) (k6 : PySem.W.keepIn K (.ref f6) = true)
    (a7 : PySem.W.nsIn K mainGlobals "_law_leaf" = some (some (.ref f7))) (l7 : K.lookup f7 = some ⟨oc7, od7, .func (PySem.W.fnOf "_law_leaf" "_law_leaf" (defArgs s_l_leaf) (defBody s_l_leaf) (defScope s_l_leaf) .none kV7 dc7 pm7 an7 cd7 ct7), sl7⟩) (c7 : PySem.W.codeIn K cd7 "_law_leaf" = true) (k7 : PySem.W.keepIn K (.ref f7) = true)
    (a8 : PySem.W.nsIn K mainGlobals "_law_lead_in" = some (some (.ref f8))) (l8 : K.lookup f8 = some ⟨oc8, od8, .func (PySem.W.fnOf "_law_lead_in" "_law_lead_in" (defArgs s_l_lead_in) (defBody s_l_lead_in) (defScope s_l_lead_in) .none kV8 dc8 pm8 an8 cd8 ct8), sl8⟩) (c8 : PySem.W.codeIn K cd8 "_law_lead_in" = true) (k8 : PySem.W.keepIn K (.ref f8) = true)
    (a9 : PySem.W.nsIn K mainGlobals "_law_words_in" = some (some (.ref f9))) (l9 : K.lookup f9 = some ⟨oc9, od9, .func (PySem.W.fnOf "_law_words_in" "_law_words_in" (defArgs s_l_words_in) (defBody s_l_words_in) (defScope s_l_words_in) .none kV9 dc9 pm9 an9 cd9 ct9), sl9⟩) (c9 : PySem.W.codeIn K cd9 "_law_words_in" = true) (k9 : PySem.W.keepIn K (.ref f9) = true)
    (a10 : PySem.W.nsIn K mainGlobals "step_words" = some (some (.ref f10))) (l10 : K.lookup f10 = some ⟨oc10, od10, .func (PySem.W.fnOf "step_words" "step_words" (defArgs s_step_words) (defBody s_step_words) (defScope s_step_words) .none kV10 dc10 pm10 an10 cd10 ct10), sl10⟩) (c10 : PySem.W.codeIn K cd10 "step_words" = true) (k10 : PySem.W.keepIn K (.ref f10) = true)
    (a11 : PySem.W.nsIn K mainGlobals "_law_pattern" = some (some (.ref f11))) (l11 : K.lookup f11 = some ⟨oc11, od11, .func (PySem.W.fnOf "_law_pattern" "_law_pattern" (defArgs s_l_pattern) (defBody s_l_pattern) (defScope s_l_pattern) .none kV11 dc11 pm11 an11 cd11 ct11), sl11⟩) (c11 : PySem.W.codeIn K cd11 "_law_pattern" = true) (k11 : PySem.W.keepIn K (.ref f11) = true)
    (a12 : PySem.W.nsIn K mainGlobals "_law_led" = some (some (.ref f12))) (l12 : K.lookup f12 = some ⟨oc12, od12, .func (PySem.W.fnOf "_law_led" "_law_led" (defArgs s_l_led) (defBody s_l_led) (defScope s_l_led) .none kV12 dc12 pm12 an12 cd12 ct12), sl12⟩) (c12 : PySem.W.codeIn K cd12 "_law_led" = true) (k12 : PySem.W.keepIn K (.ref f12) = true)
    (a13 : PySem.W.nsIn K mainGlobals "led_to" = some (some (.ref f13))) (l13 : K.lookup f13 = some ⟨oc13, od13, .func (PySem.W.fnOf "led_to" "led_to" (defArgs s_led_to) (defBody s_led_to) (defScope s_led_to) .none kV13 dc13 pm13 an13 cd13 ct13), sl13⟩) (c13 : PySem.W.codeIn K cd13 "led_to" = true) (k13 : PySem.W.keepIn K (.ref f13) = true)
    (a14 : PySem.W.nsIn K mainGlobals "lay_order" = some (some (.ref f14))) (l14 : K.lookup f14 = some ⟨oc14, od14, .func (PySem.W.fnOf "lay_order" "lay_order" (defArgs s_lay_order) (defBody s_lay_order) (defScope s_lay_order) .none kV14 dc14 pm14 an14 cd14 ct14), sl14⟩) (c14 : PySem.W.codeIn K cd14 "lay_order" = true) (k14 : PySem.W.keepIn K (.ref f14) = true)
    (a15 : PySem.W.nsIn K mainGlobals "order_of" = some (some (.ref f15))) (l15 : K.lookup f15 = some ⟨oc15, od15, .func (PySem.W.fnOf "order_of" "order_of" (defArgs s_order_of) (defBody s_order_of) (defScope s_order_of) .none kV15 dc15 pm15 an15 cd15 ct15), sl15⟩) (c15 : PySem.W.codeIn K cd15 "order_of" = true) (k15 : PySem.W.keepIn K (.ref f15) = true)
    (a16 : PySem.W.nsIn K mainGlobals "backwards" = some (some (.ref f16))) (l16 : K.lookup f16 = some ⟨oc16, od16, .func (PySem.W.fnOf "backwards" "backwards" (defArgs s_backwards) (defBody s_backwards) (defScope s_backwards) .none kV16 dc16 pm16 an16 cd16 ct16), sl16⟩) (c16 : PySem.W.codeIn K cd16 "backwards" = true) (k16 : PySem.W.keepIn K (.ref f16) = true)
    (a17 : PySem.W.nsIn K mainGlobals "ways_for" = some (some (.ref f17))) (l17 : K.lookup f17 = some ⟨oc17, od17, .func (PySem.W.fnOf "ways_for" "ways_for" (defArgs s_ways_for) (defBody s_ways_for) (defScope s_ways_for) .none kV17 dc17 pm17 an17 cd17 ct17), sl17⟩) (c17 : PySem.W.codeIn K cd17 "ways_for" = true) (k17 : PySem.W.keepIn K (.ref f17) = true)
    (a18 : PySem.W.nsIn K mainGlobals "put_for" = some (some (.ref f18))) (l18 : K.lookup f18 = some ⟨oc18, od18, .func (PySem.W.fnOf "put_for" "put_for" (defArgs s_put_for) (defBody s_put_for) (defScope s_put_for) .none kV18 dc18 pm18 an18 cd18 ct18), sl18⟩) (c18 : PySem.W.codeIn K cd18 "put_for" = true) (k18 : PySem.W.keepIn K (.ref f18) = true)
    (a19 : PySem.W.nsIn K mainGlobals "unfolded" = some (some (.ref f19))) (l19 : K.lookup f19 = some ⟨oc19, od19, .func (PySem.W.fnOf "unfolded" "unfolded" (defArgs s_unfolded) (defBody s_unfolded) (defScope s_unfolded) .none kV19 dc19 pm19 an19 cd19 ct19), sl19⟩) (c19 : PySem.W.codeIn K cd19 "unfolded" = true) (k19 : PySem.W.keepIn K (.ref f19) = true)
    (a20 : PySem.W.nsIn K mainGlobals "_law_asked" = some (some (.ref f20))) (l20 : K.lookup f20 = some ⟨oc20, od20, .func (PySem.W.fnOf "_law_asked" "_law_asked" (defArgs s_l_asked) (defBody s_l_asked) (defScope s_l_asked) .none kV20 dc20 pm20 an20 cd20 ct20), sl20⟩) (c20 : PySem.W.codeIn K cd20 "_law_asked" = true) (k20 : PySem.W.keepIn K (.ref f20) = true)
    (a21 : PySem.W.nsIn K mainGlobals "law" = some (some (.ref f21))) (l21 : K.lookup f21 = some ⟨oc21, od21, .func (PySem.W.fnOf "law" "law" (defArgs s_law) (defBody s_law) (defScope s_law) .none kV21 dc21 pm21 an21 cd21 ct21), sl21⟩) (c21 : PySem.W.codeIn K cd21 "law" = true) (k21 : PySem.W.keepIn K (.ref f21) = true)
    {u0 : Tok}
    (gg0 : PySem.W.nsIn K mainGlobals "ANY_WORD" = some (some (.str "*" u0)))
    (xB0 : basexB K vC4 = true)
    (xK0 : exmfB K (.ref vC4) [(vC0, true)] = true)
    (xK1 : kitfB K (.ref vC0) [(vC0, true)] = true)
    (xK2 : kitfB K (.type "ValueError") [(vC0, true)] = true)
    (xK3 : kitsB K ([vC1, vC2, vC3, vC5, vC6, vC7].map Value.ref) [(vC0, false)] = true)
    {kda0 : Addr} {kde0 : Array DictEntry} {kdn0 : Nat} {kdt0_0 kdt0_1 : Tok}
    (kdg0 : PySem.W.nsIn K mainGlobals "OTHER_SIDES" = some (some (.ref kda0))) (kdl0 : K.lookup kda0 = some ⟨.type "dict", none, .dict kde0 kdn0, #[]⟩) (kdk0 : PySem.W.KeysLit w.params kde0.toList)
    (kdv0_0 : PySem.W.nsIn K kda0 "on" = some (some (.str "back" kdt0_0)))
    (kdv0_1 : PySem.W.nsIn K kda0 "back" = some (some (.str "on" kdt0_1)))
    (z0 : PySem.W.nsIn K mainGlobals "ValueError" = some none)
    (z1 : PySem.W.nsIn K mainGlobals "isinstance" = some none)
    (z2 : PySem.W.nsIn K mainGlobals "len" = some none)
    (z3 : PySem.W.nsIn K mainGlobals "list" = some none)
    (z4 : PySem.W.nsIn K mainGlobals "range" = some none)
    (z5 : PySem.W.nsIn K mainGlobals "reversed" = some none)
    (z6 : PySem.W.nsIn K mainGlobals "set" = some none)
    (z7 : PySem.W.nsIn K mainGlobals "sorted" = some none)
    (z8 : PySem.W.nsIn K mainGlobals "tuple" = some none)
    : ∃ fd : FuncData, (∀ (s : Shared) (v : Value), BindsTo s fd ⟨[v], []⟩ [("_law_script", v)]) ∧ ∀ base : Heap, K.In base → base.Ns mainGlobals mg → DFn l.prog w K mg base 32 fa fd ["_law_script"] sp_law := by
  have e := hfa.symm.trans (PySem.W.mg_of X G a21)
  cases e
  have F0 := fun_mk (st := s_GoesRound_init) l0 c0 k0
  have F1 := fun_mk (st := s_parts_by) l1 c1 k1
  have F2 := fun_mk (st := s_l_feed) l2 c2 k2
  have F3 := fun_mk (st := s_l_draw) l3 c3 k3
  have F4 := fun_mk (st := s_l_goes_round) l4 c4 k4
  have F5 := fun_mk (st := s_l_ring) l5 c5 k5
  have F6 := fun_mk (st := s_l_names) l6 c6 k6
  have F7 := fun_mk (st := s_l_leaf) l7 c7 k7
  have F8 := fun_mk (st := s_l_lead_in) l8 c8 k8
  have F9 := fun_mk (st := s_l_words_in) l9 c9 k9
  have F10 := fun_mk (st := s_step_words) l10 c10 k10
  have F11 := fun_mk (st := s_l_pattern) l11 c11 k11
  have F12 := fun_mk (st := s_l_led) l12 c12 k12
  have F13 := fun_mk (st := s_led_to) l13 c13 k13
  have F14 := fun_mk (st := s_lay_order) l14 c14 k14
  have F15 := fun_mk (st := s_order_of) l15 c15 k15
  have F16 := fun_mk (st := s_backwards) l16 c16 k16
  have F17 := fun_mk (st := s_ways_for) l17 c17 k17
  have F18 := fun_mk (st := s_put_for) l18 c18 k18
  have F19 := fun_mk (st := s_unfolded) l19 c19 k19
  have F20 := fun_mk (st := s_l_asked) l20 c20 k20
  have F21 := fun_mk (st := s_law) l21 c21 k21
  obtain ⟨T, e1, e2⟩ : ∃ T : Txt w K mg, T.a_law = fa ∧ T.f_law = PySem.W.fnOf "law" "law" (defArgs s_law) (defBody s_law) (defScope s_law) .none kV21 dc21 pm21 an21 cd21 ct21 :=
    ⟨{ C_GoesRound := vC0, g_GoesRound := PySem.W.mg_of X G aC0,
       C_NoKnot := vC1, g_NoKnot := PySem.W.mg_of X G aC1,
       C_NoName := vC2, g_NoName := PySem.W.mg_of X G aC2,
       C_NoTie := vC3, g_NoTie := PySem.W.mg_of X G aC3,
       C_PathError := vC4, g_PathError := PySem.W.mg_of X G aC4,
       C_TooLong := vC5, g_TooLong := PySem.W.mg_of X G aC5,
       C_TooMany := vC6, g_TooMany := PySem.W.mg_of X G aC6,
       C_Twice := vC7, g_Twice := PySem.W.mg_of X G aC7,
       a_GoesRound_init := f0, f_GoesRound_init := _, F_GoesRound_init := F0, x_GoesRound := ext_of xl0 xr0 xf0, d_GoesRound_init := F0.binds (ps := ["self", "ring"]) fun _ _ _ _ _ _ us hl => match us, hl with | [_, _], _ => rfl,
       a_parts_by := f1, f_parts_by := _, F_parts_by := F1, m_parts_by := PySem.W.mg_of X G a1, d_parts_by := F1.binds (ps := ["pattern"]) fun _ _ _ _ _ _ us hl => match us, hl with | [_], _ => rfl,
       a_l_feed := f2, f_l_feed := _, F_l_feed := F2, m_l_feed := PySem.W.mg_of X G a2, d_l_feed := F2.binds (ps := ["_law_script"]) fun _ _ _ _ _ _ us hl => match us, hl with | [_], _ => rfl,
       a_l_draw := f3, f_l_draw := _, F_l_draw := F3, m_l_draw := PySem.W.mg_of X G a3, d_l_draw := F3.binds (ps := ["_law_feed_here", "_law_many"]) fun _ _ _ _ _ _ us hl => match us, hl with | [_, _], _ => rfl,
       a_l_goes_round := f4, f_l_goes_round := _, F_l_goes_round := F4, m_l_goes_round := PySem.W.mg_of X G a4, d_l_goes_round := F4.binds (ps := ["_law_led_here"]) fun _ _ _ _ _ _ us hl => match us, hl with | [_], _ => rfl,
       a_l_ring := f5, f_l_ring := _, F_l_ring := F5, m_l_ring := PySem.W.mg_of X G a5, d_l_ring := F5.binds (ps := ["_law_led_here", "_law_ring_here"]) fun _ _ _ _ _ _ us hl => match us, hl with | [_, _], _ => rfl,
       a_l_names := f6, f_l_names := _, F_l_names := F6, m_l_names := PySem.W.mg_of X G a6, d_l_names := F6.binds (ps := ["_law_feed_here", "_law_many"]) fun _ _ _ _ _ _ us hl => match us, hl with | [_, _], _ => rfl,
       a_l_leaf := f7, f_l_leaf := _, F_l_leaf := F7, m_l_leaf := PySem.W.mg_of X G a7, d_l_leaf := F7.binds (ps := ["_law_feed_here", "_law_words", "_law_marks"]) fun _ _ _ _ _ _ us hl => match us, hl with | [_, _, _], _ => rfl,
       a_l_lead_in := f8, f_l_lead_in := _, F_l_lead_in := F8, m_l_lead_in := PySem.W.mg_of X G a8, d_l_lead_in := F8.binds (ps := ["_law_feed_here", "_law_heads"]) fun _ _ _ _ _ _ us hl => match us, hl with | [_, _], _ => rfl,
       a_l_words_in := f9, f_l_words_in := _, F_l_words_in := F9, m_l_words_in := PySem.W.mg_of X G a9, d_l_words_in := F9.binds (ps := ["_law_pattern_here"]) fun _ _ _ _ _ _ us hl => match us, hl with | [_], _ => rfl,
       a_step_words := f10, f_step_words := _, F_step_words := F10, m_step_words := PySem.W.mg_of X G a10, d_step_words := F10.binds (ps := ["pattern"]) fun _ _ _ _ _ _ us hl => match us, hl with | [_], _ => rfl,
       a_l_pattern := f11, f_l_pattern := _, F_l_pattern := F11, m_l_pattern := PySem.W.mg_of X G a11, d_l_pattern := F11.binds (ps := ["_law_feed_here", "_law_words", "_law_marks", "_law_bag", "_law_deep"]) fun _ _ _ _ _ _ us hl => match us, hl with | [_, _, _, _, _], _ => rfl,
       a_l_led := f12, f_l_led := _, F_l_led := F12, m_l_led := PySem.W.mg_of X G a12, d_l_led := F12.binds (ps := ["_law_rules"]) fun _ _ _ _ _ _ us hl => match us, hl with | [_], _ => rfl,
       a_led_to := f13, f_led_to := _, F_led_to := F13, m_led_to := PySem.W.mg_of X G a13, d_led_to := F13.binds (ps := ["words", "rules", "word"]) fun _ _ _ _ _ _ us hl => match us, hl with | [_, _, _], _ => rfl,
       a_lay_order := f14, f_lay_order := _, F_lay_order := F14, m_lay_order := PySem.W.mg_of X G a14, d_lay_order := F14.binds (ps := ["words", "rules", "word", "trail", "order"]) fun _ _ _ _ _ _ us hl => match us, hl with | [_, _, _, _, _], _ => rfl,
       a_order_of := f15, f_order_of := _, F_order_of := F15, m_order_of := PySem.W.mg_of X G a15, d_order_of := F15.binds (ps := ["rules"]) fun _ _ _ _ _ _ us hl => match us, hl with | [_], _ => rfl,
       a_backwards := f16, f_backwards := _, F_backwards := F16, m_backwards := PySem.W.mg_of X G a16, d_backwards := F16.binds (ps := ["pattern"]) fun _ _ _ _ _ _ us hl => match us, hl with | [_], _ => rfl,
       a_ways_for := f17, f_ways_for := _, F_ways_for := F17, m_ways_for := PySem.W.mg_of X G a17, d_ways_for := F17.binds (ps := ["meant", "side", "word"]) fun _ _ _ _ _ _ us hl => match us, hl with | [_, _, _], _ => rfl,
       a_put_for := f18, f_put_for := _, F_put_for := F18, m_put_for := PySem.W.mg_of X G a18, d_put_for := F18.binds (ps := ["pattern", "meant"]) fun _ _ _ _ _ _ us hl => match us, hl with | [_, _], _ => rfl,
       a_unfolded := f19, f_unfolded := _, F_unfolded := F19, m_unfolded := PySem.W.mg_of X G a19, d_unfolded := F19.binds (ps := ["pattern", "rules"]) fun _ _ _ _ _ _ us hl => match us, hl with | [_, _], _ => rfl,
       a_l_asked := f20, f_l_asked := _, F_l_asked := F20, m_l_asked := PySem.W.mg_of X G a20, d_l_asked := F20.binds (ps := ["_law_way", "_law_rules", "_law_pattern_here"]) fun _ _ _ _ _ _ us hl => match us, hl with | [_, _, _], _ => rfl,
       a_law := fa, f_law := _, F_law := F21, m_law := PySem.W.mg_of X G a21, d_law := F21.binds (ps := ["_law_script"]) fun _ _ _ _ _ _ us hl => match us, hl with | [_], _ => rfl,
       t_ANY_WORD := _, g_ANY_WORD := PySem.W.mg_of X G gg0,
       i_PathError := base_of xB0,
       ex_PathError := exmf_of xK0,
       kt_GoesRound := kitf_of xK1,
       kt_ValueError := kitf_of xK2,
       kts_NoKnot_NoName_NoTie_TooLong_TooMany_Twice := kits_of xK3,
       a_OTHER_SIDES := kda0, g_OTHER_SIDES := PySem.W.mg_of X G kdg0, k_OTHER_SIDES := kt_cons kdl0 kdk0 kdv0_0 (v := .str "back") ⟨_, rfl⟩ (fun _ => rfl) (kt_cons kdl0 kdk0 kdv0_1 (v := .str "on") ⟨_, rfl⟩ (fun _ => rfl) (kt_nil)),
       b_ValueError := PySem.W.mg_none_of X G z0,
       b_isinstance := PySem.W.mg_none_of X G z1,
       b_len := PySem.W.mg_none_of X G z2,
       b_list := PySem.W.mg_none_of X G z3,
       b_range := PySem.W.mg_none_of X G z4,
       b_reversed := PySem.W.mg_none_of X G z5,
       b_set := PySem.W.mg_none_of X G z6,
       b_sorted := PySem.W.mg_none_of X G z7,
       b_tuple := PySem.W.mg_none_of X G z8 }, rfl, rfl⟩
  refine ⟨PySem.W.fnOf "law" "law" (defArgs s_law) (defBody s_law) (defScope s_law) .none kV21 dc21 pm21 an21 cd21 ct21, fun s v => .of_eq rfl, fun base _ _ => ?_⟩
  rw [← e1, ← e2]
  have G_GoesRound_init : DFn l.prog w K mg base 1 T.a_GoesRound_init T.f_GoesRound_init ["self", "ring"] (sp_GoesRound_init T.C_GoesRound) := ok_GoesRound_init T (sp_GoesRound_init_mono T.C_GoesRound) (fun ds S Q E h => by first | (obtain ⟨rfl, _⟩ := h; rfl) | (obtain ⟨_, rfl, _⟩ := h; rfl) | (obtain ⟨_, _, rfl, _⟩ := h; rfl) | (obtain ⟨_, _, _, rfl, _⟩ := h; rfl) | (obtain ⟨_, _, _, _, rfl, _⟩ := h; rfl) | (obtain ⟨_, _, _, _, _, rfl, _⟩ := h; rfl) | (obtain ⟨_, _, _, _, _, _, rfl, _⟩ := h; rfl) | (obtain ⟨_, _, _, _, _, _, _, rfl, _⟩ := h; rfl) | (obtain ⟨_, _, _, _, _, _, _, _, rfl, _⟩ := h; rfl) | (obtain ⟨_, _, _, _, _, _, _, _, _, rfl, _⟩ := h; rfl) | (obtain ⟨_, _, _, _, _, _, _, _, _, _, rfl, _⟩ := h; rfl) | (obtain ⟨_, _, _, _, _, _, _, _, _, _, _, rfl, _⟩ := h; rfl) | (obtain ⟨_, _, _, _, _, _, _, _, _, _, _, _, rfl, _⟩ := h; rfl) | (obtain ⟨_, _, _, _, _, _, _, _, _, _, _, _, _, rfl, _⟩ := h; rfl) | (obtain ⟨_, _, _, _, _, _, _, _, _, _, _, _, _, _, rfl, _⟩ := h; rfl) | (obtain ⟨_, _, _, _, _, _, _, _, _, _, _, _, _, _, _, rfl, _⟩ := h; rfl) | (obtain ⟨_, _, _, _, _, _, _, _, _, _, _, _, _, _, _, _, rfl, _⟩ := h; rfl) | (obtain ⟨_, _, _, _, _, _, _, _, _, _, _, _, _, _, _, _, _, rfl, _⟩ := h; rfl) | (obtain ⟨_, rfl⟩ := h; rfl)) r_GoesRound_init
  have G_parts_by : DFn l.prog w K mg base 1 T.a_parts_by T.f_parts_by ["pattern"] sp_parts_by := ok_parts_by T sp_parts_by_mono (fun ds S Q E h => by first | (obtain ⟨rfl, _⟩ := h; rfl) | (obtain ⟨_, rfl, _⟩ := h; rfl) | (obtain ⟨_, _, rfl, _⟩ := h; rfl) | (obtain ⟨_, _, _, rfl, _⟩ := h; rfl) | (obtain ⟨_, _, _, _, rfl, _⟩ := h; rfl) | (obtain ⟨_, _, _, _, _, rfl, _⟩ := h; rfl) | (obtain ⟨_, _, _, _, _, _, rfl, _⟩ := h; rfl) | (obtain ⟨_, _, _, _, _, _, _, rfl, _⟩ := h; rfl) | (obtain ⟨_, _, _, _, _, _, _, _, rfl, _⟩ := h; rfl) | (obtain ⟨_, _, _, _, _, _, _, _, _, rfl, _⟩ := h; rfl) | (obtain ⟨_, _, _, _, _, _, _, _, _, _, rfl, _⟩ := h; rfl) | (obtain ⟨_, _, _, _, _, _, _, _, _, _, _, rfl, _⟩ := h; rfl) | (obtain ⟨_, _, _, _, _, _, _, _, _, _, _, _, rfl, _⟩ := h; rfl) | (obtain ⟨_, _, _, _, _, _, _, _, _, _, _, _, _, rfl, _⟩ := h; rfl) | (obtain ⟨_, _, _, _, _, _, _, _, _, _, _, _, _, _, rfl, _⟩ := h; rfl) | (obtain ⟨_, _, _, _, _, _, _, _, _, _, _, _, _, _, _, rfl, _⟩ := h; rfl) | (obtain ⟨_, _, _, _, _, _, _, _, _, _, _, _, _, _, _, _, rfl, _⟩ := h; rfl) | (obtain ⟨_, _, _, _, _, _, _, _, _, _, _, _, _, _, _, _, _, rfl, _⟩ := h; rfl) | (obtain ⟨_, rfl⟩ := h; rfl)) r_parts_by
  have G_l_feed : DFn l.prog w K mg base 1 T.a_l_feed T.f_l_feed ["_law_script"] sp_l_feed := ok_l_feed T sp_l_feed_mono (fun ds S Q E h => by first | (obtain ⟨rfl, _⟩ := h; rfl) | (obtain ⟨_, rfl, _⟩ := h; rfl) | (obtain ⟨_, _, rfl, _⟩ := h; rfl) | (obtain ⟨_, _, _, rfl, _⟩ := h; rfl) | (obtain ⟨_, _, _, _, rfl, _⟩ := h; rfl) | (obtain ⟨_, _, _, _, _, rfl, _⟩ := h; rfl) | (obtain ⟨_, _, _, _, _, _, rfl, _⟩ := h; rfl) | (obtain ⟨_, _, _, _, _, _, _, rfl, _⟩ := h; rfl) | (obtain ⟨_, _, _, _, _, _, _, _, rfl, _⟩ := h; rfl) | (obtain ⟨_, _, _, _, _, _, _, _, _, rfl, _⟩ := h; rfl) | (obtain ⟨_, _, _, _, _, _, _, _, _, _, rfl, _⟩ := h; rfl) | (obtain ⟨_, _, _, _, _, _, _, _, _, _, _, rfl, _⟩ := h; rfl) | (obtain ⟨_, _, _, _, _, _, _, _, _, _, _, _, rfl, _⟩ := h; rfl) | (obtain ⟨_, _, _, _, _, _, _, _, _, _, _, _, _, rfl, _⟩ := h; rfl) | (obtain ⟨_, _, _, _, _, _, _, _, _, _, _, _, _, _, rfl, _⟩ := h; rfl) | (obtain ⟨_, _, _, _, _, _, _, _, _, _, _, _, _, _, _, rfl, _⟩ := h; rfl) | (obtain ⟨_, _, _, _, _, _, _, _, _, _, _, _, _, _, _, _, rfl, _⟩ := h; rfl) | (obtain ⟨_, _, _, _, _, _, _, _, _, _, _, _, _, _, _, _, _, rfl, _⟩ := h; rfl) | (obtain ⟨_, rfl⟩ := h; rfl)) r_l_feed
  have G_l_draw : DFn l.prog w K mg base 1 T.a_l_draw T.f_l_draw ["_law_feed_here", "_law_many"] sp_l_draw := ok_l_draw T sp_l_draw_mono (fun ds S Q E h => by first | (obtain ⟨rfl, _⟩ := h; rfl) | (obtain ⟨_, rfl, _⟩ := h; rfl) | (obtain ⟨_, _, rfl, _⟩ := h; rfl) | (obtain ⟨_, _, _, rfl, _⟩ := h; rfl) | (obtain ⟨_, _, _, _, rfl, _⟩ := h; rfl) | (obtain ⟨_, _, _, _, _, rfl, _⟩ := h; rfl) | (obtain ⟨_, _, _, _, _, _, rfl, _⟩ := h; rfl) | (obtain ⟨_, _, _, _, _, _, _, rfl, _⟩ := h; rfl) | (obtain ⟨_, _, _, _, _, _, _, _, rfl, _⟩ := h; rfl) | (obtain ⟨_, _, _, _, _, _, _, _, _, rfl, _⟩ := h; rfl) | (obtain ⟨_, _, _, _, _, _, _, _, _, _, rfl, _⟩ := h; rfl) | (obtain ⟨_, _, _, _, _, _, _, _, _, _, _, rfl, _⟩ := h; rfl) | (obtain ⟨_, _, _, _, _, _, _, _, _, _, _, _, rfl, _⟩ := h; rfl) | (obtain ⟨_, _, _, _, _, _, _, _, _, _, _, _, _, rfl, _⟩ := h; rfl) | (obtain ⟨_, _, _, _, _, _, _, _, _, _, _, _, _, _, rfl, _⟩ := h; rfl) | (obtain ⟨_, _, _, _, _, _, _, _, _, _, _, _, _, _, _, rfl, _⟩ := h; rfl) | (obtain ⟨_, _, _, _, _, _, _, _, _, _, _, _, _, _, _, _, rfl, _⟩ := h; rfl) | (obtain ⟨_, _, _, _, _, _, _, _, _, _, _, _, _, _, _, _, _, rfl, _⟩ := h; rfl) | (obtain ⟨_, rfl⟩ := h; rfl)) r_l_draw
  have G_l_goes_round : DFn l.prog w K mg base 1 T.a_l_goes_round T.f_l_goes_round ["_law_led_here"] sp_l_goes_round := ok_l_goes_round T sp_l_goes_round_mono (fun ds S Q E h => by first | (obtain ⟨rfl, _⟩ := h; rfl) | (obtain ⟨_, rfl, _⟩ := h; rfl) | (obtain ⟨_, _, rfl, _⟩ := h; rfl) | (obtain ⟨_, _, _, rfl, _⟩ := h; rfl) | (obtain ⟨_, _, _, _, rfl, _⟩ := h; rfl) | (obtain ⟨_, _, _, _, _, rfl, _⟩ := h; rfl) | (obtain ⟨_, _, _, _, _, _, rfl, _⟩ := h; rfl) | (obtain ⟨_, _, _, _, _, _, _, rfl, _⟩ := h; rfl) | (obtain ⟨_, _, _, _, _, _, _, _, rfl, _⟩ := h; rfl) | (obtain ⟨_, _, _, _, _, _, _, _, _, rfl, _⟩ := h; rfl) | (obtain ⟨_, _, _, _, _, _, _, _, _, _, rfl, _⟩ := h; rfl) | (obtain ⟨_, _, _, _, _, _, _, _, _, _, _, rfl, _⟩ := h; rfl) | (obtain ⟨_, _, _, _, _, _, _, _, _, _, _, _, rfl, _⟩ := h; rfl) | (obtain ⟨_, _, _, _, _, _, _, _, _, _, _, _, _, rfl, _⟩ := h; rfl) | (obtain ⟨_, _, _, _, _, _, _, _, _, _, _, _, _, _, rfl, _⟩ := h; rfl) | (obtain ⟨_, _, _, _, _, _, _, _, _, _, _, _, _, _, _, rfl, _⟩ := h; rfl) | (obtain ⟨_, _, _, _, _, _, _, _, _, _, _, _, _, _, _, _, rfl, _⟩ := h; rfl) | (obtain ⟨_, _, _, _, _, _, _, _, _, _, _, _, _, _, _, _, _, rfl, _⟩ := h; rfl) | (obtain ⟨_, rfl⟩ := h; rfl)) r_l_goes_round
  have G_l_ring : DFn l.prog w K mg base 1 T.a_l_ring T.f_l_ring ["_law_led_here", "_law_ring_here"] sp_l_ring := ok_l_ring T sp_l_ring_mono (fun ds S Q E h => by first | (obtain ⟨rfl, _⟩ := h; rfl) | (obtain ⟨_, rfl, _⟩ := h; rfl) | (obtain ⟨_, _, rfl, _⟩ := h; rfl) | (obtain ⟨_, _, _, rfl, _⟩ := h; rfl) | (obtain ⟨_, _, _, _, rfl, _⟩ := h; rfl) | (obtain ⟨_, _, _, _, _, rfl, _⟩ := h; rfl) | (obtain ⟨_, _, _, _, _, _, rfl, _⟩ := h; rfl) | (obtain ⟨_, _, _, _, _, _, _, rfl, _⟩ := h; rfl) | (obtain ⟨_, _, _, _, _, _, _, _, rfl, _⟩ := h; rfl) | (obtain ⟨_, _, _, _, _, _, _, _, _, rfl, _⟩ := h; rfl) | (obtain ⟨_, _, _, _, _, _, _, _, _, _, rfl, _⟩ := h; rfl) | (obtain ⟨_, _, _, _, _, _, _, _, _, _, _, rfl, _⟩ := h; rfl) | (obtain ⟨_, _, _, _, _, _, _, _, _, _, _, _, rfl, _⟩ := h; rfl) | (obtain ⟨_, _, _, _, _, _, _, _, _, _, _, _, _, rfl, _⟩ := h; rfl) | (obtain ⟨_, _, _, _, _, _, _, _, _, _, _, _, _, _, rfl, _⟩ := h; rfl) | (obtain ⟨_, _, _, _, _, _, _, _, _, _, _, _, _, _, _, rfl, _⟩ := h; rfl) | (obtain ⟨_, _, _, _, _, _, _, _, _, _, _, _, _, _, _, _, rfl, _⟩ := h; rfl) | (obtain ⟨_, _, _, _, _, _, _, _, _, _, _, _, _, _, _, _, _, rfl, _⟩ := h; rfl) | (obtain ⟨_, rfl⟩ := h; rfl)) r_l_ring
  have G_l_names : DFn l.prog w K mg base 2 T.a_l_names T.f_l_names ["_law_feed_here", "_law_many"] sp_l_names := ok_l_names T (G_l_draw := G_l_draw) sp_l_names_mono (fun ds S Q E h => by first | (obtain ⟨rfl, _⟩ := h; rfl) | (obtain ⟨_, rfl, _⟩ := h; rfl) | (obtain ⟨_, _, rfl, _⟩ := h; rfl) | (obtain ⟨_, _, _, rfl, _⟩ := h; rfl) | (obtain ⟨_, _, _, _, rfl, _⟩ := h; rfl) | (obtain ⟨_, _, _, _, _, rfl, _⟩ := h; rfl) | (obtain ⟨_, _, _, _, _, _, rfl, _⟩ := h; rfl) | (obtain ⟨_, _, _, _, _, _, _, rfl, _⟩ := h; rfl) | (obtain ⟨_, _, _, _, _, _, _, _, rfl, _⟩ := h; rfl) | (obtain ⟨_, _, _, _, _, _, _, _, _, rfl, _⟩ := h; rfl) | (obtain ⟨_, _, _, _, _, _, _, _, _, _, rfl, _⟩ := h; rfl) | (obtain ⟨_, _, _, _, _, _, _, _, _, _, _, rfl, _⟩ := h; rfl) | (obtain ⟨_, _, _, _, _, _, _, _, _, _, _, _, rfl, _⟩ := h; rfl) | (obtain ⟨_, _, _, _, _, _, _, _, _, _, _, _, _, rfl, _⟩ := h; rfl) | (obtain ⟨_, _, _, _, _, _, _, _, _, _, _, _, _, _, rfl, _⟩ := h; rfl) | (obtain ⟨_, _, _, _, _, _, _, _, _, _, _, _, _, _, _, rfl, _⟩ := h; rfl) | (obtain ⟨_, _, _, _, _, _, _, _, _, _, _, _, _, _, _, _, rfl, _⟩ := h; rfl) | (obtain ⟨_, _, _, _, _, _, _, _, _, _, _, _, _, _, _, _, _, rfl, _⟩ := h; rfl) | (obtain ⟨_, rfl⟩ := h; rfl)) r_l_names
  have G_l_leaf : DFn l.prog w K mg base 2 T.a_l_leaf T.f_l_leaf ["_law_feed_here", "_law_words", "_law_marks"] sp_l_leaf := ok_l_leaf T (G_l_draw := G_l_draw) sp_l_leaf_mono (fun ds S Q E h => by first | (obtain ⟨rfl, _⟩ := h; rfl) | (obtain ⟨_, rfl, _⟩ := h; rfl) | (obtain ⟨_, _, rfl, _⟩ := h; rfl) | (obtain ⟨_, _, _, rfl, _⟩ := h; rfl) | (obtain ⟨_, _, _, _, rfl, _⟩ := h; rfl) | (obtain ⟨_, _, _, _, _, rfl, _⟩ := h; rfl) | (obtain ⟨_, _, _, _, _, _, rfl, _⟩ := h; rfl) | (obtain ⟨_, _, _, _, _, _, _, rfl, _⟩ := h; rfl) | (obtain ⟨_, _, _, _, _, _, _, _, rfl, _⟩ := h; rfl) | (obtain ⟨_, _, _, _, _, _, _, _, _, rfl, _⟩ := h; rfl) | (obtain ⟨_, _, _, _, _, _, _, _, _, _, rfl, _⟩ := h; rfl) | (obtain ⟨_, _, _, _, _, _, _, _, _, _, _, rfl, _⟩ := h; rfl) | (obtain ⟨_, _, _, _, _, _, _, _, _, _, _, _, rfl, _⟩ := h; rfl) | (obtain ⟨_, _, _, _, _, _, _, _, _, _, _, _, _, rfl, _⟩ := h; rfl) | (obtain ⟨_, _, _, _, _, _, _, _, _, _, _, _, _, _, rfl, _⟩ := h; rfl) | (obtain ⟨_, _, _, _, _, _, _, _, _, _, _, _, _, _, _, rfl, _⟩ := h; rfl) | (obtain ⟨_, _, _, _, _, _, _, _, _, _, _, _, _, _, _, _, rfl, _⟩ := h; rfl) | (obtain ⟨_, _, _, _, _, _, _, _, _, _, _, _, _, _, _, _, _, rfl, _⟩ := h; rfl) | (obtain ⟨_, rfl⟩ := h; rfl)) r_l_leaf
  have G_l_lead_in : DFn l.prog w K mg base 2 T.a_l_lead_in T.f_l_lead_in ["_law_feed_here", "_law_heads"] sp_l_lead_in := ok_l_lead_in T (G_l_draw := G_l_draw) sp_l_lead_in_mono (fun ds S Q E h => by first | (obtain ⟨rfl, _⟩ := h; rfl) | (obtain ⟨_, rfl, _⟩ := h; rfl) | (obtain ⟨_, _, rfl, _⟩ := h; rfl) | (obtain ⟨_, _, _, rfl, _⟩ := h; rfl) | (obtain ⟨_, _, _, _, rfl, _⟩ := h; rfl) | (obtain ⟨_, _, _, _, _, rfl, _⟩ := h; rfl) | (obtain ⟨_, _, _, _, _, _, rfl, _⟩ := h; rfl) | (obtain ⟨_, _, _, _, _, _, _, rfl, _⟩ := h; rfl) | (obtain ⟨_, _, _, _, _, _, _, _, rfl, _⟩ := h; rfl) | (obtain ⟨_, _, _, _, _, _, _, _, _, rfl, _⟩ := h; rfl) | (obtain ⟨_, _, _, _, _, _, _, _, _, _, rfl, _⟩ := h; rfl) | (obtain ⟨_, _, _, _, _, _, _, _, _, _, _, rfl, _⟩ := h; rfl) | (obtain ⟨_, _, _, _, _, _, _, _, _, _, _, _, rfl, _⟩ := h; rfl) | (obtain ⟨_, _, _, _, _, _, _, _, _, _, _, _, _, rfl, _⟩ := h; rfl) | (obtain ⟨_, _, _, _, _, _, _, _, _, _, _, _, _, _, rfl, _⟩ := h; rfl) | (obtain ⟨_, _, _, _, _, _, _, _, _, _, _, _, _, _, _, rfl, _⟩ := h; rfl) | (obtain ⟨_, _, _, _, _, _, _, _, _, _, _, _, _, _, _, _, rfl, _⟩ := h; rfl) | (obtain ⟨_, _, _, _, _, _, _, _, _, _, _, _, _, _, _, _, _, rfl, _⟩ := h; rfl) | (obtain ⟨_, rfl⟩ := h; rfl)) r_l_lead_in
  have R_l_words_in : ∀ n, DFn l.prog w K mg base (0 + n + 1) T.a_l_words_in T.f_l_words_in ["_law_pattern_here"] (sp_l_words_in n) := fun n => by
    induction n with
    | zero => exact ok_l_words_in T 0 (DFn.never 0) (sp_l_words_in_mono 0) (fun ds S Q E h => by first | (obtain ⟨rfl, _⟩ := h; rfl) | (obtain ⟨_, rfl, _⟩ := h; rfl) | (obtain ⟨_, _, rfl, _⟩ := h; rfl) | (obtain ⟨_, _, _, rfl, _⟩ := h; rfl) | (obtain ⟨_, _, _, _, rfl, _⟩ := h; rfl) | (obtain ⟨_, _, _, _, _, rfl, _⟩ := h; rfl) | (obtain ⟨_, _, _, _, _, _, rfl, _⟩ := h; rfl) | (obtain ⟨_, _, _, _, _, _, _, rfl, _⟩ := h; rfl) | (obtain ⟨_, _, _, _, _, _, _, _, rfl, _⟩ := h; rfl) | (obtain ⟨_, _, _, _, _, _, _, _, _, rfl, _⟩ := h; rfl) | (obtain ⟨_, _, _, _, _, _, _, _, _, _, rfl, _⟩ := h; rfl) | (obtain ⟨_, _, _, _, _, _, _, _, _, _, _, rfl, _⟩ := h; rfl) | (obtain ⟨_, _, _, _, _, _, _, _, _, _, _, _, rfl, _⟩ := h; rfl) | (obtain ⟨_, _, _, _, _, _, _, _, _, _, _, _, _, rfl, _⟩ := h; rfl) | (obtain ⟨_, _, _, _, _, _, _, _, _, _, _, _, _, _, rfl, _⟩ := h; rfl) | (obtain ⟨_, _, _, _, _, _, _, _, _, _, _, _, _, _, _, rfl, _⟩ := h; rfl) | (obtain ⟨_, _, _, _, _, _, _, _, _, _, _, _, _, _, _, _, rfl, _⟩ := h; rfl) | (obtain ⟨_, _, _, _, _, _, _, _, _, _, _, _, _, _, _, _, _, rfl, _⟩ := h; rfl) | (obtain ⟨_, rfl⟩ := h; rfl)) (r_l_words_in 0)
    | succ n ih => exact ok_l_words_in T (n + 1) ih (sp_l_words_in_mono (n + 1)) (fun ds S Q E h => by first | (obtain ⟨rfl, _⟩ := h; rfl) | (obtain ⟨_, rfl, _⟩ := h; rfl) | (obtain ⟨_, _, rfl, _⟩ := h; rfl) | (obtain ⟨_, _, _, rfl, _⟩ := h; rfl) | (obtain ⟨_, _, _, _, rfl, _⟩ := h; rfl) | (obtain ⟨_, _, _, _, _, rfl, _⟩ := h; rfl) | (obtain ⟨_, _, _, _, _, _, rfl, _⟩ := h; rfl) | (obtain ⟨_, _, _, _, _, _, _, rfl, _⟩ := h; rfl) | (obtain ⟨_, _, _, _, _, _, _, _, rfl, _⟩ := h; rfl) | (obtain ⟨_, _, _, _, _, _, _, _, _, rfl, _⟩ := h; rfl) | (obtain ⟨_, _, _, _, _, _, _, _, _, _, rfl, _⟩ := h; rfl) | (obtain ⟨_, _, _, _, _, _, _, _, _, _, _, rfl, _⟩ := h; rfl) | (obtain ⟨_, _, _, _, _, _, _, _, _, _, _, _, rfl, _⟩ := h; rfl) | (obtain ⟨_, _, _, _, _, _, _, _, _, _, _, _, _, rfl, _⟩ := h; rfl) | (obtain ⟨_, _, _, _, _, _, _, _, _, _, _, _, _, _, rfl, _⟩ := h; rfl) | (obtain ⟨_, _, _, _, _, _, _, _, _, _, _, _, _, _, _, rfl, _⟩ := h; rfl) | (obtain ⟨_, _, _, _, _, _, _, _, _, _, _, _, _, _, _, _, rfl, _⟩ := h; rfl) | (obtain ⟨_, _, _, _, _, _, _, _, _, _, _, _, _, _, _, _, _, rfl, _⟩ := h; rfl) | (obtain ⟨_, rfl⟩ := h; rfl)) (r_l_words_in (n + 1))
  have G_l_words_in := R_l_words_in 5
  have R_step_words : ∀ n, DFn l.prog w K mg base (1 + n + 1) T.a_step_words T.f_step_words ["pattern"] (sp_step_words n) := fun n => by
    induction n with
    | zero => exact ok_step_words T (G_parts_by := G_parts_by) 0 (DFn.never 0) (sp_step_words_mono 0) (fun ds S Q E h => by first | (obtain ⟨rfl, _⟩ := h; rfl) | (obtain ⟨_, rfl, _⟩ := h; rfl) | (obtain ⟨_, _, rfl, _⟩ := h; rfl) | (obtain ⟨_, _, _, rfl, _⟩ := h; rfl) | (obtain ⟨_, _, _, _, rfl, _⟩ := h; rfl) | (obtain ⟨_, _, _, _, _, rfl, _⟩ := h; rfl) | (obtain ⟨_, _, _, _, _, _, rfl, _⟩ := h; rfl) | (obtain ⟨_, _, _, _, _, _, _, rfl, _⟩ := h; rfl) | (obtain ⟨_, _, _, _, _, _, _, _, rfl, _⟩ := h; rfl) | (obtain ⟨_, _, _, _, _, _, _, _, _, rfl, _⟩ := h; rfl) | (obtain ⟨_, _, _, _, _, _, _, _, _, _, rfl, _⟩ := h; rfl) | (obtain ⟨_, _, _, _, _, _, _, _, _, _, _, rfl, _⟩ := h; rfl) | (obtain ⟨_, _, _, _, _, _, _, _, _, _, _, _, rfl, _⟩ := h; rfl) | (obtain ⟨_, _, _, _, _, _, _, _, _, _, _, _, _, rfl, _⟩ := h; rfl) | (obtain ⟨_, _, _, _, _, _, _, _, _, _, _, _, _, _, rfl, _⟩ := h; rfl) | (obtain ⟨_, _, _, _, _, _, _, _, _, _, _, _, _, _, _, rfl, _⟩ := h; rfl) | (obtain ⟨_, _, _, _, _, _, _, _, _, _, _, _, _, _, _, _, rfl, _⟩ := h; rfl) | (obtain ⟨_, _, _, _, _, _, _, _, _, _, _, _, _, _, _, _, _, rfl, _⟩ := h; rfl) | (obtain ⟨_, rfl⟩ := h; rfl)) (r_step_words 0)
    | succ n ih => exact ok_step_words T (G_parts_by := G_parts_by) (n + 1) ih (sp_step_words_mono (n + 1)) (fun ds S Q E h => by first | (obtain ⟨rfl, _⟩ := h; rfl) | (obtain ⟨_, rfl, _⟩ := h; rfl) | (obtain ⟨_, _, rfl, _⟩ := h; rfl) | (obtain ⟨_, _, _, rfl, _⟩ := h; rfl) | (obtain ⟨_, _, _, _, rfl, _⟩ := h; rfl) | (obtain ⟨_, _, _, _, _, rfl, _⟩ := h; rfl) | (obtain ⟨_, _, _, _, _, _, rfl, _⟩ := h; rfl) | (obtain ⟨_, _, _, _, _, _, _, rfl, _⟩ := h; rfl) | (obtain ⟨_, _, _, _, _, _, _, _, rfl, _⟩ := h; rfl) | (obtain ⟨_, _, _, _, _, _, _, _, _, rfl, _⟩ := h; rfl) | (obtain ⟨_, _, _, _, _, _, _, _, _, _, rfl, _⟩ := h; rfl) | (obtain ⟨_, _, _, _, _, _, _, _, _, _, _, rfl, _⟩ := h; rfl) | (obtain ⟨_, _, _, _, _, _, _, _, _, _, _, _, rfl, _⟩ := h; rfl) | (obtain ⟨_, _, _, _, _, _, _, _, _, _, _, _, _, rfl, _⟩ := h; rfl) | (obtain ⟨_, _, _, _, _, _, _, _, _, _, _, _, _, _, rfl, _⟩ := h; rfl) | (obtain ⟨_, _, _, _, _, _, _, _, _, _, _, _, _, _, _, rfl, _⟩ := h; rfl) | (obtain ⟨_, _, _, _, _, _, _, _, _, _, _, _, _, _, _, _, rfl, _⟩ := h; rfl) | (obtain ⟨_, _, _, _, _, _, _, _, _, _, _, _, _, _, _, _, _, rfl, _⟩ := h; rfl) | (obtain ⟨_, rfl⟩ := h; rfl)) (r_step_words (n + 1))
  have G_step_words := R_step_words 5
  have R_l_pattern : ∀ n, DFn l.prog w K mg base (2 + n + 1) T.a_l_pattern T.f_l_pattern ["_law_feed_here", "_law_words", "_law_marks", "_law_bag", "_law_deep"] (sp_l_pattern n) := fun n => by
    induction n with
    | zero => exact ok_l_pattern T (G_l_draw := G_l_draw) (G_l_leaf := G_l_leaf) 0 (DFn.never 0) (sp_l_pattern_mono 0) (fun ds S Q E h => by first | (obtain ⟨rfl, _⟩ := h; rfl) | (obtain ⟨_, rfl, _⟩ := h; rfl) | (obtain ⟨_, _, rfl, _⟩ := h; rfl) | (obtain ⟨_, _, _, rfl, _⟩ := h; rfl) | (obtain ⟨_, _, _, _, rfl, _⟩ := h; rfl) | (obtain ⟨_, _, _, _, _, rfl, _⟩ := h; rfl) | (obtain ⟨_, _, _, _, _, _, rfl, _⟩ := h; rfl) | (obtain ⟨_, _, _, _, _, _, _, rfl, _⟩ := h; rfl) | (obtain ⟨_, _, _, _, _, _, _, _, rfl, _⟩ := h; rfl) | (obtain ⟨_, _, _, _, _, _, _, _, _, rfl, _⟩ := h; rfl) | (obtain ⟨_, _, _, _, _, _, _, _, _, _, rfl, _⟩ := h; rfl) | (obtain ⟨_, _, _, _, _, _, _, _, _, _, _, rfl, _⟩ := h; rfl) | (obtain ⟨_, _, _, _, _, _, _, _, _, _, _, _, rfl, _⟩ := h; rfl) | (obtain ⟨_, _, _, _, _, _, _, _, _, _, _, _, _, rfl, _⟩ := h; rfl) | (obtain ⟨_, _, _, _, _, _, _, _, _, _, _, _, _, _, rfl, _⟩ := h; rfl) | (obtain ⟨_, _, _, _, _, _, _, _, _, _, _, _, _, _, _, rfl, _⟩ := h; rfl) | (obtain ⟨_, _, _, _, _, _, _, _, _, _, _, _, _, _, _, _, rfl, _⟩ := h; rfl) | (obtain ⟨_, _, _, _, _, _, _, _, _, _, _, _, _, _, _, _, _, rfl, _⟩ := h; rfl) | (obtain ⟨_, rfl⟩ := h; rfl)) (r_l_pattern 0)
    | succ n ih => exact ok_l_pattern T (G_l_draw := G_l_draw) (G_l_leaf := G_l_leaf) (n + 1) ih (sp_l_pattern_mono (n + 1)) (fun ds S Q E h => by first | (obtain ⟨rfl, _⟩ := h; rfl) | (obtain ⟨_, rfl, _⟩ := h; rfl) | (obtain ⟨_, _, rfl, _⟩ := h; rfl) | (obtain ⟨_, _, _, rfl, _⟩ := h; rfl) | (obtain ⟨_, _, _, _, rfl, _⟩ := h; rfl) | (obtain ⟨_, _, _, _, _, rfl, _⟩ := h; rfl) | (obtain ⟨_, _, _, _, _, _, rfl, _⟩ := h; rfl) | (obtain ⟨_, _, _, _, _, _, _, rfl, _⟩ := h; rfl) | (obtain ⟨_, _, _, _, _, _, _, _, rfl, _⟩ := h; rfl) | (obtain ⟨_, _, _, _, _, _, _, _, _, rfl, _⟩ := h; rfl) | (obtain ⟨_, _, _, _, _, _, _, _, _, _, rfl, _⟩ := h; rfl) | (obtain ⟨_, _, _, _, _, _, _, _, _, _, _, rfl, _⟩ := h; rfl) | (obtain ⟨_, _, _, _, _, _, _, _, _, _, _, _, rfl, _⟩ := h; rfl) | (obtain ⟨_, _, _, _, _, _, _, _, _, _, _, _, _, rfl, _⟩ := h; rfl) | (obtain ⟨_, _, _, _, _, _, _, _, _, _, _, _, _, _, rfl, _⟩ := h; rfl) | (obtain ⟨_, _, _, _, _, _, _, _, _, _, _, _, _, _, _, rfl, _⟩ := h; rfl) | (obtain ⟨_, _, _, _, _, _, _, _, _, _, _, _, _, _, _, _, rfl, _⟩ := h; rfl) | (obtain ⟨_, _, _, _, _, _, _, _, _, _, _, _, _, _, _, _, _, rfl, _⟩ := h; rfl) | (obtain ⟨_, rfl⟩ := h; rfl)) (r_l_pattern (n + 1))
  have G_l_pattern := R_l_pattern 4
  have G_l_led : DFn l.prog w K mg base 7 T.a_l_led T.f_l_led ["_law_rules"] sp_l_led := ok_l_led T (G_l_words_in := G_l_words_in) sp_l_led_mono (fun ds S Q E h => by first | (obtain ⟨rfl, _⟩ := h; rfl) | (obtain ⟨_, rfl, _⟩ := h; rfl) | (obtain ⟨_, _, rfl, _⟩ := h; rfl) | (obtain ⟨_, _, _, rfl, _⟩ := h; rfl) | (obtain ⟨_, _, _, _, rfl, _⟩ := h; rfl) | (obtain ⟨_, _, _, _, _, rfl, _⟩ := h; rfl) | (obtain ⟨_, _, _, _, _, _, rfl, _⟩ := h; rfl) | (obtain ⟨_, _, _, _, _, _, _, rfl, _⟩ := h; rfl) | (obtain ⟨_, _, _, _, _, _, _, _, rfl, _⟩ := h; rfl) | (obtain ⟨_, _, _, _, _, _, _, _, _, rfl, _⟩ := h; rfl) | (obtain ⟨_, _, _, _, _, _, _, _, _, _, rfl, _⟩ := h; rfl) | (obtain ⟨_, _, _, _, _, _, _, _, _, _, _, rfl, _⟩ := h; rfl) | (obtain ⟨_, _, _, _, _, _, _, _, _, _, _, _, rfl, _⟩ := h; rfl) | (obtain ⟨_, _, _, _, _, _, _, _, _, _, _, _, _, rfl, _⟩ := h; rfl) | (obtain ⟨_, _, _, _, _, _, _, _, _, _, _, _, _, _, rfl, _⟩ := h; rfl) | (obtain ⟨_, _, _, _, _, _, _, _, _, _, _, _, _, _, _, rfl, _⟩ := h; rfl) | (obtain ⟨_, _, _, _, _, _, _, _, _, _, _, _, _, _, _, _, rfl, _⟩ := h; rfl) | (obtain ⟨_, _, _, _, _, _, _, _, _, _, _, _, _, _, _, _, _, rfl, _⟩ := h; rfl) | (obtain ⟨_, rfl⟩ := h; rfl)) r_l_led
  have G_led_to : DFn l.prog w K mg base 8 T.a_led_to T.f_led_to ["words", "rules", "word"] sp_led_to := ok_led_to T (G_step_words := G_step_words) sp_led_to_mono (fun ds S Q E h => by first | (obtain ⟨rfl, _⟩ := h; rfl) | (obtain ⟨_, rfl, _⟩ := h; rfl) | (obtain ⟨_, _, rfl, _⟩ := h; rfl) | (obtain ⟨_, _, _, rfl, _⟩ := h; rfl) | (obtain ⟨_, _, _, _, rfl, _⟩ := h; rfl) | (obtain ⟨_, _, _, _, _, rfl, _⟩ := h; rfl) | (obtain ⟨_, _, _, _, _, _, rfl, _⟩ := h; rfl) | (obtain ⟨_, _, _, _, _, _, _, rfl, _⟩ := h; rfl) | (obtain ⟨_, _, _, _, _, _, _, _, rfl, _⟩ := h; rfl) | (obtain ⟨_, _, _, _, _, _, _, _, _, rfl, _⟩ := h; rfl) | (obtain ⟨_, _, _, _, _, _, _, _, _, _, rfl, _⟩ := h; rfl) | (obtain ⟨_, _, _, _, _, _, _, _, _, _, _, rfl, _⟩ := h; rfl) | (obtain ⟨_, _, _, _, _, _, _, _, _, _, _, _, rfl, _⟩ := h; rfl) | (obtain ⟨_, _, _, _, _, _, _, _, _, _, _, _, _, rfl, _⟩ := h; rfl) | (obtain ⟨_, _, _, _, _, _, _, _, _, _, _, _, _, _, rfl, _⟩ := h; rfl) | (obtain ⟨_, _, _, _, _, _, _, _, _, _, _, _, _, _, _, rfl, _⟩ := h; rfl) | (obtain ⟨_, _, _, _, _, _, _, _, _, _, _, _, _, _, _, _, rfl, _⟩ := h; rfl) | (obtain ⟨_, _, _, _, _, _, _, _, _, _, _, _, _, _, _, _, _, rfl, _⟩ := h; rfl) | (obtain ⟨_, rfl⟩ := h; rfl)) r_led_to
  have R_lay_order : ∀ n, DFn l.prog w K mg base (8 + n + 1) T.a_lay_order T.f_lay_order ["words", "rules", "word", "trail", "order"] (sp_lay_order T.C_GoesRound n) := fun n => by
    induction n with
    | zero => exact ok_lay_order T (G_GoesRound_init := G_GoesRound_init) (G_led_to := G_led_to) 0 (DFn.never 0) (sp_lay_order_mono T.C_GoesRound 0) (fun ds S Q E h => by first | (obtain ⟨rfl, _⟩ := h; rfl) | (obtain ⟨_, rfl, _⟩ := h; rfl) | (obtain ⟨_, _, rfl, _⟩ := h; rfl) | (obtain ⟨_, _, _, rfl, _⟩ := h; rfl) | (obtain ⟨_, _, _, _, rfl, _⟩ := h; rfl) | (obtain ⟨_, _, _, _, _, rfl, _⟩ := h; rfl) | (obtain ⟨_, _, _, _, _, _, rfl, _⟩ := h; rfl) | (obtain ⟨_, _, _, _, _, _, _, rfl, _⟩ := h; rfl) | (obtain ⟨_, _, _, _, _, _, _, _, rfl, _⟩ := h; rfl) | (obtain ⟨_, _, _, _, _, _, _, _, _, rfl, _⟩ := h; rfl) | (obtain ⟨_, _, _, _, _, _, _, _, _, _, rfl, _⟩ := h; rfl) | (obtain ⟨_, _, _, _, _, _, _, _, _, _, _, rfl, _⟩ := h; rfl) | (obtain ⟨_, _, _, _, _, _, _, _, _, _, _, _, rfl, _⟩ := h; rfl) | (obtain ⟨_, _, _, _, _, _, _, _, _, _, _, _, _, rfl, _⟩ := h; rfl) | (obtain ⟨_, _, _, _, _, _, _, _, _, _, _, _, _, _, rfl, _⟩ := h; rfl) | (obtain ⟨_, _, _, _, _, _, _, _, _, _, _, _, _, _, _, rfl, _⟩ := h; rfl) | (obtain ⟨_, _, _, _, _, _, _, _, _, _, _, _, _, _, _, _, rfl, _⟩ := h; rfl) | (obtain ⟨_, _, _, _, _, _, _, _, _, _, _, _, _, _, _, _, _, rfl, _⟩ := h; rfl) | (obtain ⟨_, rfl⟩ := h; rfl)) (r_lay_order 0)
    | succ n ih => exact ok_lay_order T (G_GoesRound_init := G_GoesRound_init) (G_led_to := G_led_to) (n + 1) ih (sp_lay_order_mono T.C_GoesRound (n + 1)) (fun ds S Q E h => by first | (obtain ⟨rfl, _⟩ := h; rfl) | (obtain ⟨_, rfl, _⟩ := h; rfl) | (obtain ⟨_, _, rfl, _⟩ := h; rfl) | (obtain ⟨_, _, _, rfl, _⟩ := h; rfl) | (obtain ⟨_, _, _, _, rfl, _⟩ := h; rfl) | (obtain ⟨_, _, _, _, _, rfl, _⟩ := h; rfl) | (obtain ⟨_, _, _, _, _, _, rfl, _⟩ := h; rfl) | (obtain ⟨_, _, _, _, _, _, _, rfl, _⟩ := h; rfl) | (obtain ⟨_, _, _, _, _, _, _, _, rfl, _⟩ := h; rfl) | (obtain ⟨_, _, _, _, _, _, _, _, _, rfl, _⟩ := h; rfl) | (obtain ⟨_, _, _, _, _, _, _, _, _, _, rfl, _⟩ := h; rfl) | (obtain ⟨_, _, _, _, _, _, _, _, _, _, _, rfl, _⟩ := h; rfl) | (obtain ⟨_, _, _, _, _, _, _, _, _, _, _, _, rfl, _⟩ := h; rfl) | (obtain ⟨_, _, _, _, _, _, _, _, _, _, _, _, _, rfl, _⟩ := h; rfl) | (obtain ⟨_, _, _, _, _, _, _, _, _, _, _, _, _, _, rfl, _⟩ := h; rfl) | (obtain ⟨_, _, _, _, _, _, _, _, _, _, _, _, _, _, _, rfl, _⟩ := h; rfl) | (obtain ⟨_, _, _, _, _, _, _, _, _, _, _, _, _, _, _, _, rfl, _⟩ := h; rfl) | (obtain ⟨_, _, _, _, _, _, _, _, _, _, _, _, _, _, _, _, _, rfl, _⟩ := h; rfl) | (obtain ⟨_, rfl⟩ := h; rfl)) (r_lay_order (n + 1))
  have G_lay_order := R_lay_order 6
  have G_order_of : DFn l.prog w K mg base 16 T.a_order_of T.f_order_of ["rules"] (sp_order_of T.C_GoesRound) := ok_order_of T (G_lay_order := G_lay_order) (sp_order_of_mono T.C_GoesRound) (fun ds S Q E h => by first | (obtain ⟨rfl, _⟩ := h; rfl) | (obtain ⟨_, rfl, _⟩ := h; rfl) | (obtain ⟨_, _, rfl, _⟩ := h; rfl) | (obtain ⟨_, _, _, rfl, _⟩ := h; rfl) | (obtain ⟨_, _, _, _, rfl, _⟩ := h; rfl) | (obtain ⟨_, _, _, _, _, rfl, _⟩ := h; rfl) | (obtain ⟨_, _, _, _, _, _, rfl, _⟩ := h; rfl) | (obtain ⟨_, _, _, _, _, _, _, rfl, _⟩ := h; rfl) | (obtain ⟨_, _, _, _, _, _, _, _, rfl, _⟩ := h; rfl) | (obtain ⟨_, _, _, _, _, _, _, _, _, rfl, _⟩ := h; rfl) | (obtain ⟨_, _, _, _, _, _, _, _, _, _, rfl, _⟩ := h; rfl) | (obtain ⟨_, _, _, _, _, _, _, _, _, _, _, rfl, _⟩ := h; rfl) | (obtain ⟨_, _, _, _, _, _, _, _, _, _, _, _, rfl, _⟩ := h; rfl) | (obtain ⟨_, _, _, _, _, _, _, _, _, _, _, _, _, rfl, _⟩ := h; rfl) | (obtain ⟨_, _, _, _, _, _, _, _, _, _, _, _, _, _, rfl, _⟩ := h; rfl) | (obtain ⟨_, _, _, _, _, _, _, _, _, _, _, _, _, _, _, rfl, _⟩ := h; rfl) | (obtain ⟨_, _, _, _, _, _, _, _, _, _, _, _, _, _, _, _, rfl, _⟩ := h; rfl) | (obtain ⟨_, _, _, _, _, _, _, _, _, _, _, _, _, _, _, _, _, rfl, _⟩ := h; rfl) | (obtain ⟨_, rfl⟩ := h; rfl)) r_order_of
  have R_backwards : ∀ n, DFn l.prog w K mg base (0 + n + 1) T.a_backwards T.f_backwards ["pattern"] (sp_backwards n) := fun n => by
    induction n with
    | zero => exact ok_backwards T 0 (DFn.never 0) (sp_backwards_mono 0) (fun ds S Q E h => by first | (obtain ⟨rfl, _⟩ := h; rfl) | (obtain ⟨_, rfl, _⟩ := h; rfl) | (obtain ⟨_, _, rfl, _⟩ := h; rfl) | (obtain ⟨_, _, _, rfl, _⟩ := h; rfl) | (obtain ⟨_, _, _, _, rfl, _⟩ := h; rfl) | (obtain ⟨_, _, _, _, _, rfl, _⟩ := h; rfl) | (obtain ⟨_, _, _, _, _, _, rfl, _⟩ := h; rfl) | (obtain ⟨_, _, _, _, _, _, _, rfl, _⟩ := h; rfl) | (obtain ⟨_, _, _, _, _, _, _, _, rfl, _⟩ := h; rfl) | (obtain ⟨_, _, _, _, _, _, _, _, _, rfl, _⟩ := h; rfl) | (obtain ⟨_, _, _, _, _, _, _, _, _, _, rfl, _⟩ := h; rfl) | (obtain ⟨_, _, _, _, _, _, _, _, _, _, _, rfl, _⟩ := h; rfl) | (obtain ⟨_, _, _, _, _, _, _, _, _, _, _, _, rfl, _⟩ := h; rfl) | (obtain ⟨_, _, _, _, _, _, _, _, _, _, _, _, _, rfl, _⟩ := h; rfl) | (obtain ⟨_, _, _, _, _, _, _, _, _, _, _, _, _, _, rfl, _⟩ := h; rfl) | (obtain ⟨_, _, _, _, _, _, _, _, _, _, _, _, _, _, _, rfl, _⟩ := h; rfl) | (obtain ⟨_, _, _, _, _, _, _, _, _, _, _, _, _, _, _, _, rfl, _⟩ := h; rfl) | (obtain ⟨_, _, _, _, _, _, _, _, _, _, _, _, _, _, _, _, _, rfl, _⟩ := h; rfl) | (obtain ⟨_, rfl⟩ := h; rfl)) (r_backwards 0)
    | succ n ih => exact ok_backwards T (n + 1) ih (sp_backwards_mono (n + 1)) (fun ds S Q E h => by first | (obtain ⟨rfl, _⟩ := h; rfl) | (obtain ⟨_, rfl, _⟩ := h; rfl) | (obtain ⟨_, _, rfl, _⟩ := h; rfl) | (obtain ⟨_, _, _, rfl, _⟩ := h; rfl) | (obtain ⟨_, _, _, _, rfl, _⟩ := h; rfl) | (obtain ⟨_, _, _, _, _, rfl, _⟩ := h; rfl) | (obtain ⟨_, _, _, _, _, _, rfl, _⟩ := h; rfl) | (obtain ⟨_, _, _, _, _, _, _, rfl, _⟩ := h; rfl) | (obtain ⟨_, _, _, _, _, _, _, _, rfl, _⟩ := h; rfl) | (obtain ⟨_, _, _, _, _, _, _, _, _, rfl, _⟩ := h; rfl) | (obtain ⟨_, _, _, _, _, _, _, _, _, _, rfl, _⟩ := h; rfl) | (obtain ⟨_, _, _, _, _, _, _, _, _, _, _, rfl, _⟩ := h; rfl) | (obtain ⟨_, _, _, _, _, _, _, _, _, _, _, _, rfl, _⟩ := h; rfl) | (obtain ⟨_, _, _, _, _, _, _, _, _, _, _, _, _, rfl, _⟩ := h; rfl) | (obtain ⟨_, _, _, _, _, _, _, _, _, _, _, _, _, _, rfl, _⟩ := h; rfl) | (obtain ⟨_, _, _, _, _, _, _, _, _, _, _, _, _, _, _, rfl, _⟩ := h; rfl) | (obtain ⟨_, _, _, _, _, _, _, _, _, _, _, _, _, _, _, _, rfl, _⟩ := h; rfl) | (obtain ⟨_, _, _, _, _, _, _, _, _, _, _, _, _, _, _, _, _, rfl, _⟩ := h; rfl) | (obtain ⟨_, rfl⟩ := h; rfl)) (r_backwards (n + 1))
  have G_backwards := R_backwards 20
  have R_ways_for : ∀ n, DFn l.prog w K mg base (21 + n + 1) T.a_ways_for T.f_ways_for ["meant", "side", "word"] (sp_ways_for n) := fun n => by
    induction n with
    | zero => exact ok_ways_for T (G_backwards := G_backwards) 0 (DFn.never 0) (sp_ways_for_mono 0) (fun ds S Q E h => by first | (obtain ⟨rfl, _⟩ := h; rfl) | (obtain ⟨_, rfl, _⟩ := h; rfl) | (obtain ⟨_, _, rfl, _⟩ := h; rfl) | (obtain ⟨_, _, _, rfl, _⟩ := h; rfl) | (obtain ⟨_, _, _, _, rfl, _⟩ := h; rfl) | (obtain ⟨_, _, _, _, _, rfl, _⟩ := h; rfl) | (obtain ⟨_, _, _, _, _, _, rfl, _⟩ := h; rfl) | (obtain ⟨_, _, _, _, _, _, _, rfl, _⟩ := h; rfl) | (obtain ⟨_, _, _, _, _, _, _, _, rfl, _⟩ := h; rfl) | (obtain ⟨_, _, _, _, _, _, _, _, _, rfl, _⟩ := h; rfl) | (obtain ⟨_, _, _, _, _, _, _, _, _, _, rfl, _⟩ := h; rfl) | (obtain ⟨_, _, _, _, _, _, _, _, _, _, _, rfl, _⟩ := h; rfl) | (obtain ⟨_, _, _, _, _, _, _, _, _, _, _, _, rfl, _⟩ := h; rfl) | (obtain ⟨_, _, _, _, _, _, _, _, _, _, _, _, _, rfl, _⟩ := h; rfl) | (obtain ⟨_, _, _, _, _, _, _, _, _, _, _, _, _, _, rfl, _⟩ := h; rfl) | (obtain ⟨_, _, _, _, _, _, _, _, _, _, _, _, _, _, _, rfl, _⟩ := h; rfl) | (obtain ⟨_, _, _, _, _, _, _, _, _, _, _, _, _, _, _, _, rfl, _⟩ := h; rfl) | (obtain ⟨_, _, _, _, _, _, _, _, _, _, _, _, _, _, _, _, _, rfl, _⟩ := h; rfl) | (obtain ⟨_, rfl⟩ := h; rfl)) (r_ways_for 0)
    | succ n ih => exact ok_ways_for T (G_backwards := G_backwards) (n + 1) ih (sp_ways_for_mono (n + 1)) (fun ds S Q E h => by first | (obtain ⟨rfl, _⟩ := h; rfl) | (obtain ⟨_, rfl, _⟩ := h; rfl) | (obtain ⟨_, _, rfl, _⟩ := h; rfl) | (obtain ⟨_, _, _, rfl, _⟩ := h; rfl) | (obtain ⟨_, _, _, _, rfl, _⟩ := h; rfl) | (obtain ⟨_, _, _, _, _, rfl, _⟩ := h; rfl) | (obtain ⟨_, _, _, _, _, _, rfl, _⟩ := h; rfl) | (obtain ⟨_, _, _, _, _, _, _, rfl, _⟩ := h; rfl) | (obtain ⟨_, _, _, _, _, _, _, _, rfl, _⟩ := h; rfl) | (obtain ⟨_, _, _, _, _, _, _, _, _, rfl, _⟩ := h; rfl) | (obtain ⟨_, _, _, _, _, _, _, _, _, _, rfl, _⟩ := h; rfl) | (obtain ⟨_, _, _, _, _, _, _, _, _, _, _, rfl, _⟩ := h; rfl) | (obtain ⟨_, _, _, _, _, _, _, _, _, _, _, _, rfl, _⟩ := h; rfl) | (obtain ⟨_, _, _, _, _, _, _, _, _, _, _, _, _, rfl, _⟩ := h; rfl) | (obtain ⟨_, _, _, _, _, _, _, _, _, _, _, _, _, _, rfl, _⟩ := h; rfl) | (obtain ⟨_, _, _, _, _, _, _, _, _, _, _, _, _, _, _, rfl, _⟩ := h; rfl) | (obtain ⟨_, _, _, _, _, _, _, _, _, _, _, _, _, _, _, _, rfl, _⟩ := h; rfl) | (obtain ⟨_, _, _, _, _, _, _, _, _, _, _, _, _, _, _, _, _, rfl, _⟩ := h; rfl) | (obtain ⟨_, rfl⟩ := h; rfl)) (r_ways_for (n + 1))
  have G_ways_for := R_ways_for 1
  have R_put_for : ∀ n, DFn l.prog w K mg base (23 + n + 1) T.a_put_for T.f_put_for ["pattern", "meant"] (sp_put_for n) := fun n => by
    induction n with
    | zero => exact ok_put_for T (G_ways_for := G_ways_for) 0 (DFn.never 0) (sp_put_for_mono 0) (fun ds S Q E h => by first | (obtain ⟨rfl, _⟩ := h; rfl) | (obtain ⟨_, rfl, _⟩ := h; rfl) | (obtain ⟨_, _, rfl, _⟩ := h; rfl) | (obtain ⟨_, _, _, rfl, _⟩ := h; rfl) | (obtain ⟨_, _, _, _, rfl, _⟩ := h; rfl) | (obtain ⟨_, _, _, _, _, rfl, _⟩ := h; rfl) | (obtain ⟨_, _, _, _, _, _, rfl, _⟩ := h; rfl) | (obtain ⟨_, _, _, _, _, _, _, rfl, _⟩ := h; rfl) | (obtain ⟨_, _, _, _, _, _, _, _, rfl, _⟩ := h; rfl) | (obtain ⟨_, _, _, _, _, _, _, _, _, rfl, _⟩ := h; rfl) | (obtain ⟨_, _, _, _, _, _, _, _, _, _, rfl, _⟩ := h; rfl) | (obtain ⟨_, _, _, _, _, _, _, _, _, _, _, rfl, _⟩ := h; rfl) | (obtain ⟨_, _, _, _, _, _, _, _, _, _, _, _, rfl, _⟩ := h; rfl) | (obtain ⟨_, _, _, _, _, _, _, _, _, _, _, _, _, rfl, _⟩ := h; rfl) | (obtain ⟨_, _, _, _, _, _, _, _, _, _, _, _, _, _, rfl, _⟩ := h; rfl) | (obtain ⟨_, _, _, _, _, _, _, _, _, _, _, _, _, _, _, rfl, _⟩ := h; rfl) | (obtain ⟨_, _, _, _, _, _, _, _, _, _, _, _, _, _, _, _, rfl, _⟩ := h; rfl) | (obtain ⟨_, _, _, _, _, _, _, _, _, _, _, _, _, _, _, _, _, rfl, _⟩ := h; rfl) | (obtain ⟨_, rfl⟩ := h; rfl)) (r_put_for 0)
    | succ n ih => exact ok_put_for T (G_ways_for := G_ways_for) (n + 1) ih (sp_put_for_mono (n + 1)) (fun ds S Q E h => by first | (obtain ⟨rfl, _⟩ := h; rfl) | (obtain ⟨_, rfl, _⟩ := h; rfl) | (obtain ⟨_, _, rfl, _⟩ := h; rfl) | (obtain ⟨_, _, _, rfl, _⟩ := h; rfl) | (obtain ⟨_, _, _, _, rfl, _⟩ := h; rfl) | (obtain ⟨_, _, _, _, _, rfl, _⟩ := h; rfl) | (obtain ⟨_, _, _, _, _, _, rfl, _⟩ := h; rfl) | (obtain ⟨_, _, _, _, _, _, _, rfl, _⟩ := h; rfl) | (obtain ⟨_, _, _, _, _, _, _, _, rfl, _⟩ := h; rfl) | (obtain ⟨_, _, _, _, _, _, _, _, _, rfl, _⟩ := h; rfl) | (obtain ⟨_, _, _, _, _, _, _, _, _, _, rfl, _⟩ := h; rfl) | (obtain ⟨_, _, _, _, _, _, _, _, _, _, _, rfl, _⟩ := h; rfl) | (obtain ⟨_, _, _, _, _, _, _, _, _, _, _, _, rfl, _⟩ := h; rfl) | (obtain ⟨_, _, _, _, _, _, _, _, _, _, _, _, _, rfl, _⟩ := h; rfl) | (obtain ⟨_, _, _, _, _, _, _, _, _, _, _, _, _, _, rfl, _⟩ := h; rfl) | (obtain ⟨_, _, _, _, _, _, _, _, _, _, _, _, _, _, _, rfl, _⟩ := h; rfl) | (obtain ⟨_, _, _, _, _, _, _, _, _, _, _, _, _, _, _, _, rfl, _⟩ := h; rfl) | (obtain ⟨_, _, _, _, _, _, _, _, _, _, _, _, _, _, _, _, _, rfl, _⟩ := h; rfl) | (obtain ⟨_, rfl⟩ := h; rfl)) (r_put_for (n + 1))
  have G_put_for := R_put_for 5
  have G_unfolded : DFn l.prog w K mg base 30 T.a_unfolded T.f_unfolded ["pattern", "rules"] (sp_unfolded T.C_GoesRound) := ok_unfolded T (G_order_of := G_order_of) (G_put_for := G_put_for) (sp_unfolded_mono T.C_GoesRound) (fun ds S Q E h => by first | (obtain ⟨rfl, _⟩ := h; rfl) | (obtain ⟨_, rfl, _⟩ := h; rfl) | (obtain ⟨_, _, rfl, _⟩ := h; rfl) | (obtain ⟨_, _, _, rfl, _⟩ := h; rfl) | (obtain ⟨_, _, _, _, rfl, _⟩ := h; rfl) | (obtain ⟨_, _, _, _, _, rfl, _⟩ := h; rfl) | (obtain ⟨_, _, _, _, _, _, rfl, _⟩ := h; rfl) | (obtain ⟨_, _, _, _, _, _, _, rfl, _⟩ := h; rfl) | (obtain ⟨_, _, _, _, _, _, _, _, rfl, _⟩ := h; rfl) | (obtain ⟨_, _, _, _, _, _, _, _, _, rfl, _⟩ := h; rfl) | (obtain ⟨_, _, _, _, _, _, _, _, _, _, rfl, _⟩ := h; rfl) | (obtain ⟨_, _, _, _, _, _, _, _, _, _, _, rfl, _⟩ := h; rfl) | (obtain ⟨_, _, _, _, _, _, _, _, _, _, _, _, rfl, _⟩ := h; rfl) | (obtain ⟨_, _, _, _, _, _, _, _, _, _, _, _, _, rfl, _⟩ := h; rfl) | (obtain ⟨_, _, _, _, _, _, _, _, _, _, _, _, _, _, rfl, _⟩ := h; rfl) | (obtain ⟨_, _, _, _, _, _, _, _, _, _, _, _, _, _, _, rfl, _⟩ := h; rfl) | (obtain ⟨_, _, _, _, _, _, _, _, _, _, _, _, _, _, _, _, rfl, _⟩ := h; rfl) | (obtain ⟨_, _, _, _, _, _, _, _, _, _, _, _, _, _, _, _, _, rfl, _⟩ := h; rfl) | (obtain ⟨_, rfl⟩ := h; rfl)) r_unfolded
  have G_l_asked : DFn l.prog w K mg base 31 T.a_l_asked T.f_l_asked ["_law_way", "_law_rules", "_law_pattern_here"] (sp_l_asked T.C_GoesRound) := ok_l_asked T (G_order_of := G_order_of) (G_unfolded := G_unfolded) (sp_l_asked_mono T.C_GoesRound) (fun ds S Q E h => by first | (obtain ⟨rfl, _⟩ := h; rfl) | (obtain ⟨_, rfl, _⟩ := h; rfl) | (obtain ⟨_, _, rfl, _⟩ := h; rfl) | (obtain ⟨_, _, _, rfl, _⟩ := h; rfl) | (obtain ⟨_, _, _, _, rfl, _⟩ := h; rfl) | (obtain ⟨_, _, _, _, _, rfl, _⟩ := h; rfl) | (obtain ⟨_, _, _, _, _, _, rfl, _⟩ := h; rfl) | (obtain ⟨_, _, _, _, _, _, _, rfl, _⟩ := h; rfl) | (obtain ⟨_, _, _, _, _, _, _, _, rfl, _⟩ := h; rfl) | (obtain ⟨_, _, _, _, _, _, _, _, _, rfl, _⟩ := h; rfl) | (obtain ⟨_, _, _, _, _, _, _, _, _, _, rfl, _⟩ := h; rfl) | (obtain ⟨_, _, _, _, _, _, _, _, _, _, _, rfl, _⟩ := h; rfl) | (obtain ⟨_, _, _, _, _, _, _, _, _, _, _, _, rfl, _⟩ := h; rfl) | (obtain ⟨_, _, _, _, _, _, _, _, _, _, _, _, _, rfl, _⟩ := h; rfl) | (obtain ⟨_, _, _, _, _, _, _, _, _, _, _, _, _, _, rfl, _⟩ := h; rfl) | (obtain ⟨_, _, _, _, _, _, _, _, _, _, _, _, _, _, _, rfl, _⟩ := h; rfl) | (obtain ⟨_, _, _, _, _, _, _, _, _, _, _, _, _, _, _, _, rfl, _⟩ := h; rfl) | (obtain ⟨_, _, _, _, _, _, _, _, _, _, _, _, _, _, _, _, _, rfl, _⟩ := h; rfl) | (obtain ⟨_, rfl⟩ := h; rfl)) r_l_asked
  have G_law : DFn l.prog w K mg base 32 T.a_law T.f_law ["_law_script"] sp_law := ok_law T (G_l_feed := G_l_feed) (G_l_draw := G_l_draw) (G_l_goes_round := G_l_goes_round) (G_l_ring := G_l_ring) (G_l_names := G_l_names) (G_l_lead_in := G_l_lead_in) (G_l_pattern := G_l_pattern) (G_l_led := G_l_led) (G_l_asked := G_l_asked) sp_law_mono (fun ds S Q E h => by first | (obtain ⟨rfl, _⟩ := h; rfl) | (obtain ⟨_, rfl, _⟩ := h; rfl) | (obtain ⟨_, _, rfl, _⟩ := h; rfl) | (obtain ⟨_, _, _, rfl, _⟩ := h; rfl) | (obtain ⟨_, _, _, _, rfl, _⟩ := h; rfl) | (obtain ⟨_, _, _, _, _, rfl, _⟩ := h; rfl) | (obtain ⟨_, _, _, _, _, _, rfl, _⟩ := h; rfl) | (obtain ⟨_, _, _, _, _, _, _, rfl, _⟩ := h; rfl) | (obtain ⟨_, _, _, _, _, _, _, _, rfl, _⟩ := h; rfl) | (obtain ⟨_, _, _, _, _, _, _, _, _, rfl, _⟩ := h; rfl) | (obtain ⟨_, _, _, _, _, _, _, _, _, _, rfl, _⟩ := h; rfl) | (obtain ⟨_, _, _, _, _, _, _, _, _, _, _, rfl, _⟩ := h; rfl) | (obtain ⟨_, _, _, _, _, _, _, _, _, _, _, _, rfl, _⟩ := h; rfl) | (obtain ⟨_, _, _, _, _, _, _, _, _, _, _, _, _, rfl, _⟩ := h; rfl) | (obtain ⟨_, _, _, _, _, _, _, _, _, _, _, _, _, _, rfl, _⟩ := h; rfl) | (obtain ⟨_, _, _, _, _, _, _, _, _, _, _, _, _, _, _, rfl, _⟩ := h; rfl) | (obtain ⟨_, _, _, _, _, _, _, _, _, _, _, _, _, _, _, _, rfl, _⟩ := h; rfl) | (obtain ⟨_, _, _, _, _, _, _, _, _, _, _, _, _, _, _, _, _, rfl, _⟩ := h; rfl) | (obtain ⟨_, rfl⟩ := h; rfl)) r_law
  exact G_law
end
theorem sp_law_all (ns : List Int) (S : DH) (h : ns.length ≤ 63) : sp_law [.rol (ns.map D.int)] S (fun d _ => d = .bl true) fun _ _ _ => False := ⟨ns, rfl, h, fun _ => rfl⟩
theorem walk {l : PySem.W.OpenLaw} {q : Program} {loose : List Str} {XP : (Str → Option Value) → Heap → Prop} {YP : World → Heap → Prop} {d : DefRec} {K : Params → PySem.W.Frag} (hn : l.most = some 63) (hdf : d.params.defaults = []) (hY : ∀ (w : World) (h : Heap), YP w h → (K w.params).In h)
    (F : ∀ (w : World) (mg : Str → Option Value) (fa : Addr) (h : Heap), (K w.params).In h → h.Ns mainGlobals mg → mg d.name = some (.ref fa) →
      ∃ fd : FuncData, (∀ (s : Shared) (u : Value), BindsTo s fd ⟨[u], []⟩ [("_law_script", u)]) ∧ ∀ base : Heap, (K w.params).In base → base.Ns mainGlobals mg → DFn l.prog w (K w.params) mg base 32 fa fd ["_law_script"] sp_law) : PySem.W.WalkO q loose XP YP l.row.toRowW d [] (fun f vs => PySem.call f vs) :=
  dwalk (n := 63) (k := 32) hn (by decide) hdf ⟨rfl, by decide, by decide⟩ hY F fun ns S hl => sp_law_all ns S hl
end K67X
set_option maxRecDepth 100000
open PySem PySem.W PyProof.Rows
set_option maxRecDepth 100000 in
set_option maxHeartbeats 0 in
theorem K67X.row_holds : OpenRow.Holds (OpenLaw.row PySem.Challenge.rw_pathask_k67_orders_and_rings) := by
  have hsaid := K67XS.said; k_head; (case hw => w_witness2)
  k_fill
  as_aux_lemma =>
    refine K67X.walk (l := PySem.Challenge.rw_pathask_k67_orders_and_rings) rfl rfl (fun w h Y => PySem.W.kIn_of Y) ?F
    case F =>
      intro w mg fa h KX G hmg
      refine' K67X.all_mk KX G hmg ?aC0 ?aC1 ?aC2 ?aC3 ?aC4 ?aC5 ?aC6 ?aC7 ?a0 ?l0 ?c0 ?k0 ?xl0 ?xr0 ?xf0 ?a1 ?l1 ?c1 ?k1 ?a2 ?l2 ?c2 ?k2 ?a3 ?l3 ?c3 ?k3 ?a4 ?l4 ?c4 ?k4 ?a5 ?l5 ?c5 ?k5 ?a6 ?l6 ?c6 ?k6 ?a7 ?l7 ?c7 ?k7 ?a8 ?l8 ?c8 ?k8 ?a9 ?l9 ?c9 ?k9 ?a10 ?l10 ?c10 ?k10 ?a11 ?l11 ?c11 ?k11 ?a12 ?l12 ?c12 ?k12 ?a13 ?l13 ?c13 ?k13 ?a14 ?l14 ?c14 ?k14 ?a15 ?l15 ?c15 ?k15 ?a16 ?l16 ?c16 ?k16 ?a17 ?l17 ?c17 ?k17 ?a18 ?l18 ?c18 ?k18 ?a19 ?l19 ?c19 ?k19 ?a20 ?l20 ?c20 ?k20 ?a21 ?l21 ?c21 ?k21 ?gg0 ?xB0 ?xK0 ?xK1 ?xK2 ?xK3 ?kdg0 ?kdl0 ?kdk0 ?kdv0_0 ?kdv0_1 ?z0 ?z1 ?z2 ?z3 ?z4 ?z5 ?z6 ?z7 ?z8
      (case aC0 => k_is); (case aC1 => k_is); (case aC2 => k_is); (case aC3 => k_is)
      (case aC4 => k_is); (case aC5 => k_is); (case aC6 => k_is); (case aC7 => k_is)
      (case a0 => k_is); (case l0 => k_is); (case c0 => k_is); (case k0 => k_is)
      (case xl0 => k_is); (case xr0 => kernel_rfl); (case xf0 => kernel_rfl); (case a1 => k_is)
      (case l1 => k_is); (case c1 => k_is); (case k1 => k_is); (case a2 => k_is)
      (case l2 => k_is); (case c2 => k_is); (case k2 => k_is); (case a3 => k_is)
      (case l3 => k_is); (case c3 => k_is); (case k3 => k_is); (case a4 => k_is)
      (case l4 => k_is); (case c4 => k_is); (case k4 => k_is); (case a5 => k_is)
      (case l5 => k_is); (case c5 => k_is); (case k5 => k_is); (case a6 => k_is)
      (case l6 => k_is); (case c6 => k_is); (case k6 => k_is); (case a7 => k_is)
      (case l7 => k_is); (case c7 => k_is); (case k7 => k_is); (case a8 => k_is)
      (case l8 => k_is); (case c8 => k_is); (case k8 => k_is); (case a9 => k_is)
      (case l9 => k_is); (case c9 => k_is); (case k9 => k_is); (case a10 => k_is)
      (case l10 => k_is); (case c10 => k_is); (case k10 => k_is); (case a11 => k_is)
      (case l11 => k_is); (case c11 => k_is); (case k11 => k_is); (case a12 => k_is)
      (case l12 => k_is); (case c12 => k_is); (case k12 => k_is); (case a13 => k_is)
      (case l13 => k_is); (case c13 => k_is); (case k13 => k_is); (case a14 => k_is)
      (case l14 => k_is); (case c14 => k_is); (case k14 => k_is); (case a15 => k_is)
      (case l15 => k_is); (case c15 => k_is); (case k15 => k_is); (case a16 => k_is)
      (case l16 => k_is); (case c16 => k_is); (case k16 => k_is); (case a17 => k_is)
      (case l17 => k_is); (case c17 => k_is); (case k17 => k_is); (case a18 => k_is)
      (case l18 => k_is); (case c18 => k_is); (case k18 => k_is); (case a19 => k_is)
      (case l19 => k_is); (case c19 => k_is); (case k19 => k_is); (case a20 => k_is)
      (case l20 => k_is); (case c20 => k_is); (case k20 => k_is); (case a21 => k_is)
      (case l21 => k_is); (case c21 => k_is); (case k21 => k_is); (case gg0 => k_is)
      (case xB0 => kernel_rfl); (case xK0 => kernel_rfl); (case xK1 => kernel_rfl); (case xK2 => kernel_rfl)
      (case xK3 => kernel_rfl); (case kdg0 => k_is); (case kdl0 => k_is); (case kdk0 => k_keys)
      (case kdv0_0 => k_is); (case kdv0_1 => k_is); (case z0 => k_is); (case z1 => k_is)
      (case z2 => k_is); (case z3 => k_is); (case z4 => k_is); (case z5 => k_is)
      (case z6 => k_is); (case z7 => k_is); (case z8 => k_is)
set_option maxHeartbeats 0 in
theorem PySem.Challenge.cw_pathask_k67_orders_and_rings_holds : PySem.Challenge.rw_pathask_k67_orders_and_rings.Holds := by
  w_on; o_law
  exact K67X.row_holds
