import PyProof.Rows.All
import Wide.All
import OpenK.AllK
import Wide.FinOn
import KE.OsRunLaw
import PyProof.EqAt
import PyProof.EqKinds
import PyProof.TupleCall
import HandS.Base
import HandS.Call
import HandS.List
import HandS.Comp
import HandS.Ends
import HandS.Dict
import HandS.Iter
import HandS.Text
import HandS.Words
import HandS.Exc
import HandS.ExcInit
import KE.KeyNested
import KE.KDictKeyed
import HandS.WordsDict
import HandS.TupAny
import HandS.Rev
import HandS.Conv
import HandS.Keys
import HandS.TupLe
import HandS.Deep
import HandS.Wide
import HandS.IsInst
import HandS.More
import HandS.SetFor
import HandS.SortInts
import HandS.TupLen
import KE.SortData
import HandS.Set
import PyProof.Rows.SetFrom
import HandS.TupMul
import KE.DataCmp
import HandS.Remove
import HandS.TryOnly
import KE.KDictCopyH
import KE.KDictSum
import PyProof.WalksMore
import HandS.RaiseMore
import HandS.Style
import KE.DataFind
import PyProof.ListNew
import HandS.HotCalls
import HandS.ExcField
import HandS.ExcIs
import HandS.ExcValue
import KE.KExcIs
import PyProof.ReprRoads
import PyProof.StrLawsTight
import PyProof.FitsReplace
import KE.GoesRaise
import PySem.Challenge.RW_pathask_k11_texts_that_write_no_pattern
set_option Elab.async false
set_option linter.all false
set_option maxRecDepth 100000
set_option maxHeartbeats 0
namespace K11XS
open PySem PySem.W PyProof.Rows
theorem look0 : (sreFenced (OpenLaw.row PySem.Challenge.rw_pathask_k11_texts_that_write_no_pattern).prog.main) = true := by decide +kernel
theorem look1 : (((moduleNames (OpenLaw.row PySem.Challenge.rw_pathask_k11_texts_that_write_no_pattern).prog.main.body).isEmpty || lookedIntoSs (moduleNames (OpenLaw.row PySem.Challenge.rw_pathask_k11_texts_that_write_no_pattern).prog.main.body) (OpenLaw.row PySem.Challenge.rw_pathask_k11_texts_that_write_no_pattern).prog.main.body)) = true := by decide +kernel
theorem look2 : (namesResolve (OpenLaw.row PySem.Challenge.rw_pathask_k11_texts_that_write_no_pattern).prog) = true := by decide +kernel
theorem look3 : ((OpenLaw.row PySem.Challenge.rw_pathask_k11_texts_that_write_no_pattern).prog.boundNames.all (fun n => !worldNames.contains n)) = true := by decide +kernel
theorem look4 : (noRoadLSs { strict := !(importedModules (OpenLaw.row PySem.Challenge.rw_pathask_k11_texts_that_write_no_pattern).prog.main.body).all cThrough.contains, foot := none, bare := (["vars", "dir", "locals"] : List Str).filter (readsOut (OpenLaw.row PySem.Challenge.rw_pathask_k11_texts_that_write_no_pattern).prog (OpenLaw.row PySem.Challenge.rw_pathask_k11_texts_that_write_no_pattern).prog.main.body) } (OpenLaw.row PySem.Challenge.rw_pathask_k11_texts_that_write_no_pattern).prog.main.body) = true := by decide +kernel
theorem look5 : (namesMeet (OpenLaw.row PySem.Challenge.rw_pathask_k11_texts_that_write_no_pattern).prog (OpenLaw.row PySem.Challenge.rw_pathask_k11_texts_that_write_no_pattern).prog.main.body fun _ n => attrL n) = true := by decide +kernel
theorem looks : looksOpen (OpenLaw.row PySem.Challenge.rw_pathask_k11_texts_that_write_no_pattern).prog = true := by
  unfold looksOpen
  rw [look0, look1, look2, look3, look4, look5]
  rfl
theorem said : (OpenLaw.row PySem.Challenge.rw_pathask_k11_texts_that_write_no_pattern).wellSaid = true := by
  unfold OpenRow.wellSaid OpenRow.partSaid
  rw [looks]
  simp only [Bool.and_eq_true]
  (repeat' (refine And.intro ?_ ?_)) <;> decide +kernel
end K11XS
set_option maxRecDepth 100000
set_option maxHeartbeats 4000000
/-! Dat1: the data layer's base. A value is a plain tree (a tuple is its items); lists, dicts, instances stand at
addresses of a data heap. Readings are over slots of such values and the data heap. -/
namespace Dt
open PySem PySem.Spec L2

/-! ### the abstract heap grows -/
/-- what values rest on -/
structure LeW (H H' : Hp) : Prop where
  tup : ∀ p xs, H p = some (.tup xs) → H' p = some (.tup xs)
  fl : ∀ p o xs, H p = some (.frz o (.lst xs)) → H' p = some (.frz o (.lst xs))
  ft : ∀ p o xs, H p = some (.frz o (.tup xs)) → H' p = some (.frz o (.tup xs))
structure LeH (H H' : Hp) : Prop where
  tup : ∀ p xs, H p = some (.tup xs) → H' p = some (.tup xs)
  fz : ∀ p o u, H p = some (.frz o u) → H' p = some (.frz o u)
theorem LeH.fl {H H' : Hp} (le : LeH H H') : ∀ p o xs, H p = some (.frz o (.lst xs)) → H' p = some (.frz o (.lst xs)) := fun p o xs h => le.fz p o _ h
theorem LeH.ft {H H' : Hp} (le : LeH H H') : ∀ p o xs, H p = some (.frz o (.tup xs)) → H' p = some (.frz o (.tup xs)) := fun p o xs h => le.fz p o _ h
theorem LeH.w {H H' : Hp} (le : LeH H H') : LeW H H' := ⟨le.tup, le.fl, le.ft⟩
theorem LeH.refl (H : Hp) : LeH H H := ⟨fun _ _ h => h, fun _ _ _ h => h⟩
theorem LeH.trans {H1 H2 H3 : Hp} (a : LeH H1 H2) (b : LeH H2 H3) : LeH H1 H3 :=
  ⟨fun p xs h => b.tup p xs (a.tup p xs h), fun p o xs h => b.fz p o xs (a.fz p o xs h)⟩
theorem LeH.new {H : Hp} {p : Addr} {o : HO} (h : H p = none) : LeH H (upd H p o) :=
  ⟨fun q xs e => by rw [upd_ne (ne_of_none e h)]; exact e, fun q u xs e => by rw [upd_ne (ne_of_none e h)]; exact e⟩
theorem LeH.put {H : Hp} {p : Addr} {o u : HO} (h : H p = some u) (m : Mut (some u)) : LeH H (upd H p o) := by
  have k : ∀ q v, H q = some v → ¬ Mut (some v) → q ≠ p := fun q v e n z => by
    subst z
    rw [h] at e
    cases e
    exact n m
  exact ⟨fun q xs e => by rw [upd_ne (k q _ e fun z => z)]; exact e, fun q u xs e => by rw [upd_ne (k q _ e fun z => z)]; exact e⟩

/-! ### data -/
inductive D where
  | non | bl (b : Bool) | int (i : Int) | str (x : Str) | tup (xs : List D) | rol (xs : List D) | ref (a : Addr)

/-- a list that is read alone, for good -/
def SqR (K : PySem.W.Frag) (H : Hp) (a : Addr) (xs : List V) : Prop :=
  (∃ o, H a = some (.frz o (.lst xs))) ∨
    ∃ (its : Array Value) (n : Nat), K.lookup a = some { cls := .type "list", data := .seq its n } ∧ its.size ≤ sizeLine ∧ Vals xs its.toList
theorem SqR.l {K : PySem.W.Frag} {H : Hp} {a : Addr} {xs : List V} (h : SqR K H a xs) : SqL K H a xs := h.elim (fun z => .inl (.inr z)) fun ⟨its, n, e, hz, r⟩ => .inr ⟨_, its, n, e, rfl, rfl, rfl, hz, r⟩
theorem SqR.le {K : PySem.W.Frag} {H H' : Hp} {a : Addr} {xs : List V} (le : LeH H H') (h : SqR K H a xs) : SqR K H' a xs :=
  h.elim (fun ⟨o, e⟩ => .inl ⟨o, le.fl _ _ _ e⟩) .inr
theorem SqR.leW {K : PySem.W.Frag} {H H' : Hp} {a : Addr} {xs : List V} (le : LeW H H') (h : SqR K H a xs) : SqR K H' a xs :=
  h.elim (fun ⟨o, e⟩ => .inl ⟨o, le.fl _ _ _ e⟩) .inr
/-- a new tuple's description: no dict of its own -/
def tupO (its : Array Value) (n : Nat) (xs : List V) : HO := .frz { cls := .type "tuple", data := .seq its n } (.tup xs)
/-- a tuple whose object is known -/
def SqTn (K : PySem.W.Frag) (H : Hp) (a : Addr) (xs : List V) : Prop :=
  (∃ its n, H a = some (tupO its n xs)) ∨
    ∃ (its : Array Value) (n : Nat), K.lookup a = some { cls := .type "tuple", data := .seq its n } ∧ its.size ≤ sizeLine ∧ Vals xs its.toList
theorem SqTn.t {K : PySem.W.Frag} {H : Hp} {a : Addr} {xs : List V} (h : SqTn K H a xs) : SqT K H a xs := h.elim (fun ⟨_, _, z⟩ => .inl (.inr ⟨_, z⟩)) fun ⟨its, n, e, hz, r⟩ => .inr ⟨_, its, n, e, rfl, rfl, hz, r⟩
instance {K : PySem.W.Frag} {H : Hp} {a : Addr} {xs : List V} : Coe (SqTn K H a xs) (SqT K H a xs) := ⟨SqTn.t⟩
theorem SqTn.le {K : PySem.W.Frag} {H H' : Hp} {a : Addr} {xs : List V} (le : LeH H H') (h : SqTn K H a xs) : SqTn K H' a xs :=
  h.elim (fun ⟨its, n, e⟩ => .inl ⟨its, n, le.ft _ _ _ e⟩) .inr
theorem SqTn.leW {K : PySem.W.Frag} {H H' : Hp} {a : Addr} {xs : List V} (le : LeW H H') (h : SqTn K H a xs) : SqTn K H' a xs :=
  h.elim (fun ⟨its, n, e⟩ => .inl ⟨its, n, le.ft _ _ _ e⟩) .inr

mutual
def RD (K : PySem.W.Frag) (H : Hp) : D → V → Prop
  | .non, v => v = .non
  | .bl b, v => v = .bl b
  | .int i, v => v = .int i
  | .str x, v => v = .str x
  | .tup ds, v => ∃ p xs, v = .ref p ∧ SqTn K H p xs ∧ RDs K H ds xs
  | .rol ds, v => ∃ p xs, v = .ref p ∧ SqR K H p xs ∧ RDs K H ds xs
  | .ref a, v => v = .ref a
def RDs (K : PySem.W.Frag) (H : Hp) : List D → List V → Prop
  | [], vs => vs = []
  | d :: ds, vs => ∃ v r, vs = v :: r ∧ RD K H d v ∧ RDs K H ds r
end

section
variable {w : World} {K : PySem.W.Frag} {H H' : Hp}
mutual
theorem RD.le (le : LeH H H') : ∀ {d : D} {v : V}, RD K H d v → RD K H' d v
  | .non, _, h => h
  | .bl _, _, h => h
  | .int _, _, h => h
  | .str _, _, h => h
  | .tup ds, _, h => by
    obtain ⟨p, xs, e, t, r⟩ : ∃ p xs, _ = V.ref p ∧ SqTn K H p xs ∧ RDs K H ds xs := h
    exact ⟨p, xs, e, SqTn.le le t, RDs.le le r⟩
  | .rol ds, _, h => by
    obtain ⟨p, xs, e, t, r⟩ : ∃ p xs, _ = V.ref p ∧ SqR K H p xs ∧ RDs K H ds xs := h
    exact ⟨p, xs, e, t.le le, RDs.le le r⟩
  | .ref _, _, h => h
theorem RDs.le (le : LeH H H') : ∀ {ds : List D} {vs : List V}, RDs K H ds vs → RDs K H' ds vs
  | [], _, h => h
  | _ :: _, _, h => by
    obtain ⟨v, r, e, h1, h2⟩ := h
    exact ⟨v, r, e, RD.le le h1, RDs.le le h2⟩
end
mutual
theorem RD.leW (le : LeW H H') : ∀ {d : D} {v : V}, RD K H d v → RD K H' d v
  | .non, _, h => h
  | .bl _, _, h => h
  | .int _, _, h => h
  | .str _, _, h => h
  | .tup ds, _, h => by
    obtain ⟨p, xs, e, t, r⟩ : ∃ p xs, _ = V.ref p ∧ SqTn K H p xs ∧ RDs K H ds xs := h
    exact ⟨p, xs, e, SqTn.leW le t, RDs.leW le r⟩
  | .rol ds, _, h => by
    obtain ⟨p, xs, e, t, r⟩ : ∃ p xs, _ = V.ref p ∧ SqR K H p xs ∧ RDs K H ds xs := h
    exact ⟨p, xs, e, t.leW le, RDs.leW le r⟩
  | .ref _, _, h => h
theorem RDs.leW (le : LeW H H') : ∀ {ds : List D} {vs : List V}, RDs K H ds vs → RDs K H' ds vs
  | [], _, h => h
  | _ :: _, _, h => by
    obtain ⟨v, r, e, h1, h2⟩ := h
    exact ⟨v, r, e, RD.leW le h1, RDs.leW le h2⟩
end
theorem RDs.nil : RDs K H [] [] := rfl
theorem RDs.cons {d : D} {ds : List D} {v : V} {vs : List V} (a : RD K H d v) (b : RDs K H ds vs) : RDs K H (d :: ds) (v :: vs) := ⟨v, vs, rfl, a, b⟩
theorem RDs.length : ∀ {ds : List D} {vs : List V}, RDs K H ds vs → ds.length = vs.length
  | [], _, h => by cases h; rfl
  | _ :: ds, _, h => by
    obtain ⟨v, r, rfl, _, h2⟩ := h
    simp [RDs.length h2]
theorem RDs.get : ∀ {ds : List D} {vs : List V} {i : Nat} {d : D}, RDs K H ds vs → ds[i]? = some d → ∃ v, vs[i]? = some v ∧ RD K H d v
  | [], _, _, _, _, e => by simp at e
  | _ :: _, _, 0, _, h, e => by
    obtain ⟨v, r, rfl, h1, h2⟩ := h
    simp at e
    subst e
    exact ⟨v, rfl, h1⟩
  | _ :: ds, _, i + 1, _, h, e => by
    obtain ⟨v, r, rfl, h1, h2⟩ := h
    obtain ⟨u, e1, e2⟩ := RDs.get (i := i) h2 (by simpa using e)
    exact ⟨u, by simpa using e1, e2⟩
theorem RDs.got : ∀ {ds : List D} {vs : List V} {i : Nat} {v : V}, RDs K H ds vs → vs[i]? = some v → ∃ d, ds[i]? = some d ∧ RD K H d v
  | [], _, _, _, h, e => by cases h; simp at e
  | _ :: _, _, 0, _, h, e => by
    obtain ⟨v, r, rfl, h1, h2⟩ := h
    simp at e
    subst e
    exact ⟨_, rfl, h1⟩
  | _ :: ds, _, i + 1, _, h, e => by
    obtain ⟨v, r, rfl, h1, h2⟩ := h
    obtain ⟨u, e1, e2⟩ := RDs.got (i := i) h2 (by simpa using e)
    exact ⟨u, by simpa using e1, e2⟩
theorem RDs.append : ∀ {ds es : List D} {vs us : List V}, RDs K H ds vs → RDs K H es us → RDs K H (ds ++ es) (vs ++ us)
  | [], _, _, _, h, k => by cases h; exact k
  | _ :: _, _, _, _, h, k => by
    obtain ⟨v, r, rfl, h1, h2⟩ := h
    exact ⟨v, r ++ _, rfl, h1, RDs.append h2 k⟩
theorem RDs.snoc {ds : List D} {vs : List V} {d : D} {v : V} (h : RDs K H ds vs) (k : RD K H d v) : RDs K H (ds ++ [d]) (vs ++ [v]) := h.append (.cons k .nil)
theorem RDs.set : ∀ {ds : List D} {vs : List V} {d : D} {v : V} (i : Nat), RDs K H ds vs → RD K H d v → RDs K H (ds.set i d) (vs.set i v)
  | [], _, _, _, _, h, _ => by cases h; rfl
  | _ :: _, _, _, _, 0, h, k => by
    obtain ⟨v, r, rfl, h1, h2⟩ := h
    exact ⟨_, r, rfl, k, h2⟩
  | _ :: _, _, _, _, i + 1, h, k => by
    obtain ⟨v, r, rfl, h1, h2⟩ := h
    exact ⟨v, _, rfl, h1, RDs.set i h2 k⟩
theorem RDs.take : ∀ {ds : List D} {vs : List V} (n : Nat), RDs K H ds vs → RDs K H (ds.take n) (vs.take n)
  | [], _, _, h => by cases h; simp [RDs]
  | _ :: _, _, 0, h => by simp [RDs]
  | _ :: _, _, n + 1, h => by
    obtain ⟨v, r, rfl, h1, h2⟩ := h
    exact ⟨v, _, rfl, h1, RDs.take n h2⟩
theorem RDs.drop : ∀ {ds : List D} {vs : List V} (n : Nat), RDs K H ds vs → RDs K H (ds.drop n) (vs.drop n)
  | [], _, _, h => by cases h; simp [RDs]
  | _ :: _, _, 0, h => h
  | _ :: _, _, n + 1, h => by
    obtain ⟨v, r, rfl, h1, h2⟩ := h
    exact RDs.drop n h2
theorem RDs.reverse : ∀ {ds : List D} {vs : List V}, RDs K H ds vs → RDs K H ds.reverse vs.reverse
  | [], _, h => by cases h; rfl
  | _ :: _, _, h => by
    obtain ⟨v, r, rfl, h1, h2⟩ := h
    rw [List.reverse_cons, List.reverse_cons]
    exact (RDs.reverse h2).snoc h1
theorem RDs.dropLast : ∀ {ds : List D} {vs : List V}, RDs K H ds vs → RDs K H ds.dropLast vs.dropLast := fun {ds vs} h => by
  rw [List.dropLast_eq_take, List.dropLast_eq_take, h.length]
  exact h.take _
theorem RDs.eraseIdx : ∀ {ds : List D} {vs : List V} (n : Nat), RDs K H ds vs → RDs K H (ds.eraseIdx n) (vs.eraseIdx n)
  | [], _, _, h => by cases h; rfl
  | _ :: _, _, 0, h => by
    obtain ⟨v, r, rfl, h1, h2⟩ := h
    exact h2
  | _ :: _, _, n + 1, h => by
    obtain ⟨v, r, rfl, h1, h2⟩ := h
    exact ⟨v, _, rfl, h1, RDs.eraseIdx n h2⟩
theorem RDs.ints : ∀ {ns : List Int} {vs : List V}, RDs K H (ns.map D.int) vs ↔ vs = ns.map V.int
  | [], _ => Iff.rfl
  | n :: ns, vs => by
    constructor
    · rintro ⟨v, r, rfl, h1, h2⟩
      cases h1
      rw [RDs.ints.mp h2]
      rfl
    · rintro rfl
      exact ⟨_, _, rfl, rfl, RDs.ints.mpr rfl⟩
theorem RDs.strs : ∀ {ns : List Str} {vs : List V}, RDs K H (ns.map D.str) vs ↔ vs = ns.map V.str
  | [], _ => Iff.rfl
  | n :: ns, vs => by
    constructor
    · rintro ⟨v, r, rfl, h1, h2⟩
      cases h1
      rw [RDs.strs.mp h2]
      rfl
    · rintro rfl
      exact ⟨_, _, rfl, rfl, RDs.strs.mpr rfl⟩
theorem RDs.bls : ∀ {ns : List Bool} {vs : List V}, RDs K H (ns.map D.bl) vs ↔ vs = ns.map V.bl
  | [], _ => Iff.rfl
  | n :: ns, vs => by
    constructor
    · rintro ⟨v, r, rfl, h1, h2⟩
      cases h1
      rw [RDs.bls.mp h2]
      rfl
    · rintro rfl
      exact ⟨_, _, rfl, rfl, RDs.bls.mpr rfl⟩
end

/-! ### tables -/
section
variable {κ α : Type} [DecidableEq κ]
def lk : List (κ × α) → κ → Option α
  | [], _ => none
  | (j, v) :: r, k => if j = k then some v else lk r k
def pt (l : List (κ × α)) (k : κ) (v : α) : List (κ × α) :=
  if (lk l k).isSome then l.map (fun q => if q.1 = k then (q.1, v) else q) else l ++ [(k, v)]
def dr (l : List (κ × α)) (k : κ) : List (κ × α) := l.filter fun q => decide (q.1 ≠ k)
end
def RKs {κ : Type} (K : PySem.W.Frag) (H : Hp) : List (κ × D) → List (κ × V) → Prop
  | [], ws => ws = []
  | (k, d) :: r, ws => ∃ v s, ws = (k, v) :: s ∧ RD K H d v ∧ RKs K H r s
section
variable {w : World} {K : PySem.W.Frag} {H H' : Hp} {κ : Type}
theorem RKs.le (le : LeH H H') : ∀ {kvs : List (κ × D)} {ws : List (κ × V)}, RKs K H kvs ws → RKs K H' kvs ws
  | [], _, h => h
  | (_, _) :: _, _, h => by
    obtain ⟨v, r, e, h1, h2⟩ := h
    exact ⟨v, r, e, h1.le le, RKs.le le h2⟩
theorem RKs.leW (le : LeW H H') : ∀ {kvs : List (κ × D)} {ws : List (κ × V)}, RKs K H kvs ws → RKs K H' kvs ws
  | [], _, h => h
  | (_, _) :: _, _, h => by
    obtain ⟨v, r, e, h1, h2⟩ := h
    exact ⟨v, r, e, h1.leW le, RKs.leW le h2⟩
theorem RKs.length : ∀ {kvs : List (κ × D)} {ws : List (κ × V)}, RKs K H kvs ws → kvs.length = ws.length
  | [], _, h => by cases h; rfl
  | (_, _) :: _, _, h => by
    obtain ⟨v, r, rfl, h1, h2⟩ := h
    simp [RKs.length h2]
theorem RKs.append : ∀ {kvs ls : List (κ × D)} {ws us : List (κ × V)}, RKs K H kvs ws → RKs K H ls us → RKs K H (kvs ++ ls) (ws ++ us)
  | [], _, _, _, h, k => by cases h; exact k
  | (_, _) :: _, _, _, _, h, k => by
    obtain ⟨v, r, rfl, h1, h2⟩ := h
    exact ⟨v, r ++ _, rfl, h1, RKs.append h2 k⟩
theorem RKs.get : ∀ {kvs : List (κ × D)} {ws : List (κ × V)} {i : Nat} {k : κ} {v : V}, RKs K H kvs ws → ws[i]? = some (k, v) → ∃ d, kvs[i]? = some (k, d) ∧ RD K H d v
  | [], _, _, _, _, h, e => by cases h; simp at e
  | (_, _) :: _, _, 0, _, _, h, e => by
    obtain ⟨v, r, rfl, h1, h2⟩ := h
    simp at e
    obtain ⟨rfl, rfl⟩ := e
    exact ⟨_, rfl, h1⟩
  | (_, _) :: _, _, i + 1, _, _, h, e => by
    obtain ⟨v, r, rfl, h1, h2⟩ := h
    obtain ⟨u, e1, e2⟩ := RKs.get (i := i) h2 (by simpa using e)
    exact ⟨u, by simpa using e1, e2⟩
variable [DecidableEq κ]
theorem RKs.lk : ∀ {kvs : List (κ × D)} {ws : List (κ × V)} (k : κ), RKs K H kvs ws → match Dt.lk kvs k, valV ws k with | some d, some v => RD K H d v | none, none => True | _, _ => False
  | [], _, k, h => by cases h; simp [Dt.lk, valV]
  | (j, d) :: r, _, k, h => by
    obtain ⟨v, s, rfl, h1, h2⟩ := h
    by_cases e : j = k
    · rw [valV_pos e]
      simp [Dt.lk, e, h1]
    · rw [valV_neg e]
      simp only [Dt.lk, if_neg e]
      exact RKs.lk k h2
theorem RKs.nn {kvs : List (κ × D)} {ws : List (κ × V)} {k : κ} (h : RKs K H kvs ws) (e : Dt.lk kvs k = none) : valV ws k = none := by
  have := h.lk k
  rw [e] at this
  cases q : valV ws k with
  | none => rfl
  | some v => rw [q] at this; exact this.elim
theorem RKs.ss {kvs : List (κ × D)} {ws : List (κ × V)} {k : κ} {d : D} (h : RKs K H kvs ws) (e : Dt.lk kvs k = some d) : ∃ v, valV ws k = some v ∧ RD K H d v := by
  have := h.lk k
  rw [e] at this
  cases q : valV ws k with
  | none => rw [q] at this; exact this.elim
  | some v => rw [q] at this; exact ⟨v, rfl, this⟩
theorem RKs.isSome {kvs : List (κ × D)} {ws : List (κ × V)} (k : κ) (h : RKs K H kvs ws) : (valV ws k).isSome = (Dt.lk kvs k).isSome := by
  cases e : Dt.lk kvs k with
  | none => rw [h.nn e]; rfl
  | some d =>
    obtain ⟨v, q, _⟩ := h.ss e
    rw [q]
    rfl
theorem RKs.mapv {k : κ} {d : D} {v : V} (rv : RD K H d v) : ∀ {kvs : List (κ × D)} {ws : List (κ × V)}, RKs K H kvs ws →
    RKs K H (kvs.map fun q => if q.1 = k then (q.1, d) else q) (ws.map fun q => if q.1 = k then (q.1, v) else q)
  | [], _, h => by cases h; rfl
  | (j, _) :: _, _, h => by
    obtain ⟨w, s, rfl, h1, h2⟩ := h
    by_cases e : j = k
    · simp only [List.map_cons, if_pos e]
      exact ⟨v, _, rfl, rv, RKs.mapv rv h2⟩
    · simp only [List.map_cons, if_neg e]
      exact ⟨w, _, rfl, h1, RKs.mapv rv h2⟩
theorem RKs.pt {kvs : List (κ × D)} {ws : List (κ × V)} {k : κ} {d : D} {v : V} (h : RKs K H kvs ws) (rv : RD K H d v) : RKs K H (Dt.pt kvs k d) (putK ws k v) := by
  unfold Dt.pt putK
  rw [valV_any, h.isSome k]
  split
  · exact RKs.mapv rv h
  · exact h.append ⟨v, [], rfl, rv, rfl⟩
theorem RKs.dr {k : κ} : ∀ {kvs : List (κ × D)} {ws : List (κ × V)}, RKs K H kvs ws → RKs K H (Dt.dr kvs k) (dropK ws k)
  | [], _, h => by cases h; rfl
  | (j, _) :: _, _, h => by
    obtain ⟨w, s, rfl, h1, h2⟩ := h
    unfold Dt.dr dropK
    by_cases e : j = k
    · simp only [List.filter_cons, decide_eq_true_eq, ne_eq, e, not_true, decide_false, Bool.false_eq_true, if_false]
      exact RKs.dr h2
    · simp only [List.filter_cons, decide_eq_true_eq, ne_eq, e, not_false_eq_true, decide_true, if_true]
      exact ⟨w, _, rfl, h1, RKs.dr h2⟩
end

/-! ### data may be told apart -/
mutual
def deq : D → D → Bool
  | .non, .non => true
  | .bl a, .bl b => decide (a = b)
  | .int a, .int b => decide (a = b)
  | .str a, .str b => decide (a = b)
  | .tup a, .tup b => deqs a b
  | .rol a, .rol b => deqs a b
  | .ref a, .ref b => decide (a = b)
  | _, _ => false
def deqs : List D → List D → Bool
  | [], [] => true
  | a :: as, b :: bs => deq a b && deqs as bs
  | _, _ => false
end
mutual
theorem deq_self : ∀ a : D, deq a a = true
  | .non => rfl
  | .bl a => by simp [deq]
  | .int a => by simp [deq]
  | .str a => by simp [deq]
  | .tup a => by rw [deq]; exact deqs_self a
  | .rol a => by rw [deq]; exact deqs_self a
  | .ref a => by simp [deq]
theorem deqs_self : ∀ a : List D, deqs a a = true
  | [] => rfl
  | a :: as => by rw [deqs, deq_self a, deqs_self as]; rfl
end
mutual
theorem of_deq : ∀ a b : D, deq a b = true → a = b
  | .non, b, h => by cases b <;> simp [deq] at h; rfl
  | .bl a, b, h => by cases b <;> simp [deq] at h; rw [h]
  | .int a, b, h => by cases b <;> simp [deq] at h; rw [h]
  | .str a, b, h => by cases b <;> simp [deq] at h; rw [h]
  | .tup a, b, h => by
    cases b <;> simp [deq] at h
    rw [of_deqs a _ h]
  | .rol a, b, h => by
    cases b <;> simp [deq] at h
    rw [of_deqs a _ h]
  | .ref a, b, h => by cases b <;> simp [deq] at h; rw [h]
theorem of_deqs : ∀ a b : List D, deqs a b = true → a = b
  | [], b, h => by cases b <;> simp [deqs] at h; rfl
  | x :: xs, b, h => by
    cases b with
    | nil => simp [deqs] at h
    | cons y ys =>
      simp [deqs] at h
      rw [of_deq x y h.1, of_deqs xs ys h.2]
end
instance : DecidableEq D := fun a b => if h : deq a b = true then .isTrue (of_deq a b h) else .isFalse fun e => h (e ▸ deq_self a)
/-! ### keys that are tuples -/
mutual
def nkey : D → Option NestedKey
  | .non => some .none
  | .int i => some (.num i)
  | .str x => some (.text x)
  | .tup ds => match nkeys ds with | some ks => some (.tup ks) | none => none
  | _ => none
def nkeys : List D → Option (List NestedKey)
  | [] => some []
  | d :: ds => match nkey d, nkeys ds with | some k, some ks => some (k :: ks) | _, _ => none
end
mutual
theorem nkey_inj : ∀ (a b : D) (k : NestedKey), nkey a = some k → nkey b = some k → a = b
  | .non, b, k, h, h' => by
    simp only [nkey, Option.some.injEq] at h
    subst h
    cases b with
    | tup ds => simp only [nkey] at h'; split at h' <;> cases h'
    | non => rfl
    | _ => simp [nkey] at h'
  | .int i, b, k, h, h' => by
    simp only [nkey, Option.some.injEq] at h
    subst h
    cases b with
    | tup ds => simp only [nkey] at h'; split at h' <;> cases h'
    | int j => simp [nkey] at h'; rw [h']
    | _ => simp [nkey] at h'
  | .str i, b, k, h, h' => by
    simp only [nkey, Option.some.injEq] at h
    subst h
    cases b with
    | tup ds => simp only [nkey] at h'; split at h' <;> cases h'
    | str j => simp [nkey] at h'; rw [h']
    | _ => simp [nkey] at h'
  | .tup ds, b, k, h, h' => by
    simp only [nkey] at h
    split at h
    · rename_i ks e
      cases h
      cases b with
      | tup es =>
        simp only [nkey] at h'
        split at h'
        · rename_i ks' e'
          cases h'
          rw [nkeys_inj ds es _ e e']
        · cases h'
      | _ => simp [nkey] at h'
    · cases h
  | .bl _, _, _, h, _ => by simp [nkey] at h
  | .rol _, _, _, h, _ => by simp [nkey] at h
  | .ref _, _, _, h, _ => by simp [nkey] at h
theorem nkeys_inj : ∀ (a b : List D) (k : List NestedKey), nkeys a = some k → nkeys b = some k → a = b
  | [], b, k, h, h' => by
    simp only [nkeys, Option.some.injEq] at h
    subst h
    cases b with
    | nil => rfl
    | cons y ys => simp only [nkeys] at h'; split at h' <;> cases h'
  | x :: xs, b, k, h, h' => by
    simp only [nkeys] at h
    split at h
    · rename_i k1 ks e1 e2
      cases h
      cases b with
      | nil => simp [nkeys] at h'
      | cons y ys =>
        simp only [nkeys] at h'
        split at h'
        · rename_i k2 ks2 f1 f2
          cases h'
          rw [nkey_inj x y _ e1 f1, nkeys_inj xs ys _ e2 f2]
        · cases h'
    · cases h
end
/-- a dict's rows as they lie: the key, its address, the value -/
def RawRows (w : World) (rows : List (NestedKey × Addr × V)) (a : Addr) (h : Heap) : Prop := (a == sysModules) = false ∧ ∃ o es ep, h.get? a = some o ∧ o.ExactDict ∧ o.data = .dict es ep ∧
  Paired (fun (r : NestedKey × Addr × V) (e : DictEntry) => e.hash = r.1.hash w ∧ e.key = .ref r.2.1 ∧ RelV r.2.2 e.val) rows es.toList
abbrev dnHO (w : World) (rows : List (NestedKey × Addr × V)) (a : Addr) : HO := .ext (RawRows w rows a)
/-- rows beside keys and values -/
def RRows (K : PySem.W.Frag) (H : Hp) : List (D × D) → List (NestedKey × Addr × V) → Prop
  | [], rows => rows = []
  | (k, d) :: r, rows => ∃ nk b v s, rows = (nk, b, v) :: s ∧ nkey k = some nk ∧ nk.depth ≤ 8 ∧ RD K H k (.ref b) ∧ RD K H d v ∧ RRows K H r s
theorem RRows.le {K : PySem.W.Frag} {H H' : Hp} (le : LeH H H') : ∀ {kvs : List (D × D)} {rows : List (NestedKey × Addr × V)}, RRows K H kvs rows → RRows K H' kvs rows
  | [], _, h => h
  | (_, _) :: _, _, ⟨nk, b, v, s, e, e1, e2, r1, r2, h⟩ => ⟨nk, b, v, s, e, e1, e2, r1.le le, r2.le le, RRows.le le h⟩
theorem RRows.leW {K : PySem.W.Frag} {H H' : Hp} (le : LeW H H') : ∀ {kvs : List (D × D)} {rows : List (NestedKey × Addr × V)}, RRows K H kvs rows → RRows K H' kvs rows
  | [], _, h => h
  | (_, _) :: _, _, ⟨nk, b, v, s, e, e1, e2, r1, r2, h⟩ => ⟨nk, b, v, s, e, e1, e2, r1.leW le, r2.leW le, RRows.leW le h⟩
/-! ### the data heap -/
inductive Ob where
  | lst (xs : List D) | dK (kvs : List (Key × D)) | dN (kvs : List (D × D)) | ins (C : Addr) (fs : List (Str × D))
  | exc (C dd : Addr) | xd (fs : List (Str × D)) | ex0 (C : Addr) | ex1 (C dx : Addr) | xm (fs : List (Str × D))
  | fK (kvs : List (Key × D)) | fN (kvs : List (D × D))
abbrev DH := Addr → Option Ob
def upo (S : DH) (a : Addr) (o : Ob) : DH := fun b => if b = a then some o else S b
@[simp] theorem upo_same {S : DH} {a : Addr} {o : Ob} : upo S a o a = some o := if_pos rfl
theorem upo_ne {S : DH} {a b : Addr} {o : Ob} (h : b ≠ a) : upo S a o b = S b := if_neg h
@[simp] theorem upo_upo {S : DH} {a : Addr} {o u : Ob} : upo (upo S a o) a u = upo S a u := by
  funext b
  unfold upo
  split <;> rfl
/-- a new object o: p its address, the heap with it -/
def newO (S : DH) (o : Ob) (Q : Addr → DH → Prop) : Prop := ∀ p, S p = none → Q p (upo S p o)
/-- an exception: its class, where its fields lie -/
def excP (C dd a : Addr) (h : Heap) : Prop := ∃ (oe : Obj) (vs : Array Value), h.get? a = some oe ∧ oe.cls = .ref C ∧ oe.dict = some dd ∧ oe.data = .fields vs
abbrev excHO (C dd a : Addr) : HO := .ext (excP C dd a)
def ROb (w : World) (K : PySem.W.Frag) (H : Hp) (a : Addr) : Ob → Prop
  | .lst ds => ∃ xs, H a = some (.lst xs) ∧ RDs K H ds xs
  | .dK kvs => ∃ ws, H a = some (.dK ws) ∧ RKs K H kvs ws
  | .dN kvs => ∃ rows, H a = some (dnHO w rows a) ∧ kvs.length ≤ sizeLine ∧ (kvs.map (·.1)).Nodup ∧ RRows K H kvs rows
  | .ins C fs => ∃ dx ws, H a = some (.ins C dx ws) ∧ RKs K H fs ws
  | .exc C dd => H a = some (excHO C dd a)
  | .xd fs => ∃ ws, H a = some (.xd ws) ∧ RKs K H fs ws
  | .ex0 C => H a = some (exo a C none)
  | .ex1 C dx => H a = some (exo a C (some dx))
  | .xm fs => ∃ ws, H a = some (exd a ws) ∧ RKs K H fs ws
  | .fK kvs => ∃ ws, (∃ o, H a = some (.frz o (.dK ws))) ∧ RKs K H kvs ws
  | .fN kvs => ∃ rows, (∃ o, H a = some (.frz o (dnHO w rows a))) ∧ kvs.length ≤ sizeLine ∧ (kvs.map (·.1)).Nodup ∧ RRows K H kvs rows
def Rep (w : World) (K : PySem.W.Frag) (S : DH) (H : Hp) : Prop := ∀ a o, S a = some o → ROb w K H a o
section
variable {w : World} {K : PySem.W.Frag} {H H' : Hp} {S : DH} {a p : Addr} {o : Ob}
theorem ROb.mut (h : ROb w K H a o) : ∃ u, H a = some u ∧ True := by
  cases o with
  | lst _ => obtain ⟨xs, e, _⟩ := h; exact ⟨_, e, trivial⟩
  | dK _ => obtain ⟨xs, e, _⟩ := h; exact ⟨_, e, trivial⟩
  | dN _ => obtain ⟨xs, e, _⟩ := h; exact ⟨_, e, trivial⟩
  | ins _ _ => obtain ⟨dx, xs, e, _⟩ := h; exact ⟨_, e, trivial⟩
  | exc _ _ => exact ⟨_, h, trivial⟩
  | ex0 _ => exact ⟨_, h, trivial⟩
  | ex1 _ _ => exact ⟨_, h, trivial⟩
  | xd _ => obtain ⟨xs, e, _⟩ := h; exact ⟨_, e, trivial⟩
  | xm _ => obtain ⟨xs, e, _⟩ := h; exact ⟨_, e, trivial⟩
  | fK _ => obtain ⟨xs, ⟨o, e⟩, _⟩ := h; exact ⟨_, e, trivial⟩
  | fN _ => obtain ⟨xs, ⟨o, e⟩, _⟩ := h; exact ⟨_, e, trivial⟩
theorem ROb.at (h : ROb w K H a o) (le : LeH H H') (e : H' a = H a) : ROb w K H' a o := by
  cases o with
  | lst _ => obtain ⟨xs, q, r⟩ := h; exact ⟨xs, e.trans q, r.le le⟩
  | dK _ => obtain ⟨xs, q, r⟩ := h; exact ⟨xs, e.trans q, r.le le⟩
  | dN _ => obtain ⟨xs, q, l, n, r⟩ := h; exact ⟨xs, e.trans q, l, n, r.le le⟩
  | ins _ _ => obtain ⟨dx, xs, q, r⟩ := h; exact ⟨dx, xs, e.trans q, r.le le⟩
  | exc _ _ => exact e.trans h
  | ex0 _ => exact e.trans h
  | ex1 _ _ => exact e.trans h
  | xd _ => obtain ⟨xs, q, r⟩ := h; exact ⟨xs, e.trans q, r.le le⟩
  | xm _ => obtain ⟨xs, q, r⟩ := h; exact ⟨xs, e.trans q, r.le le⟩
  | fK _ => obtain ⟨xs, ⟨o, q⟩, r⟩ := h; exact ⟨xs, ⟨o, e.trans q⟩, r.le le⟩
  | fN _ => obtain ⟨xs, ⟨o, q⟩, l, n, r⟩ := h; exact ⟨xs, ⟨o, e.trans q⟩, l, n, r.le le⟩
theorem Rep.free (r : Rep w K S H) (h : H p = none) : S p = none := by
  cases e : S p with
  | none => rfl
  | some o =>
    obtain ⟨u, q, _⟩ := (r p o e).mut
    rw [h] at q
    cases q
/-- a new object that the data heap does not tell -/
theorem Rep.garb {u : HO} (r : Rep w K S H) (h : H p = none) : Rep w K S (upd H p u) := fun b o e => by
  obtain ⟨v, q, _⟩ := (r b o e).mut
  exact (r b o e).at (LeH.new h) (upd_ne (ne_of_none q h))
theorem Rep.new {u : HO} (r : Rep w K S H) (h : H p = none) (n : ROb w K (upd H p u) p o) : Rep w K (upo S p o) (upd H p u) := fun b ob e => by
  by_cases z : b = p
  · subst z
    rw [upo_same] at e
    cases e
    exact n
  · rw [upo_ne z] at e
    exact (r b ob e).at (LeH.new h) (upd_ne z)
theorem Rep.put {u v : HO} (r : Rep w K S H) (h : H p = some v) (m : Mut (some v)) (n : ROb w K (upd H p u) p o) : Rep w K (upo S p o) (upd H p u) := fun b ob e => by
  by_cases z : b = p
  · subst z
    rw [upo_same] at e
    cases e
    exact n
  · rw [upo_ne z] at e
    exact (r b ob e).at (LeH.put h m) (upd_ne z)
end

def opt {α : Type} (o : Option α) (k : α → Prop) : Prop := match o with | some x => k x | none => False
@[simp] theorem opt_some {α : Type} (x : α) (k : α → Prop) : opt (some x) k = k x := rfl
@[simp] theorem opt_none {α : Type} (k : α → Prop) : opt none k = False := rfl
theorem opt_mono {α : Type} {o : Option α} {k k' : α → Prop} (h : ∀ x, k x → k' x) (q : opt o k) : opt o k' := by
  cases o with
  | none => exact q
  | some x => exact h x q
theorem opt_ex {α : Type} {o : Option α} {k : α → Prop} (q : opt o k) : ∃ x, o = some x ∧ k x := by
  cases o with
  | none => exact q.elim
  | some x => exact ⟨x, rfl, q⟩
/-- the items of a list -/
def seqD (S : DH) (d : D) : Option (List D) := match d with
  | .rol xs => some xs
  | .ref a => (match S a with | some (.lst xs) => some xs | _ => none)
  | _ => none
section
variable {S : DH}
@[simp] theorem seqD_rol (xs : List D) : seqD S (.rol xs) = some xs := rfl
@[simp] theorem seqD_ref (a : Addr) : seqD S (.ref a) = (match S a with | some (.lst xs) => some xs | _ => none) := rfl
@[simp] theorem seqD_tup (xs : List D) : seqD S (.tup xs) = none := rfl
@[simp] theorem seqD_str (xs : Str) : seqD S (.str xs) = none := rfl
@[simp] theorem seqD_int (xs : Int) : seqD S (.int xs) = none := rfl
@[simp] theorem seqD_non : seqD S .non = none := rfl
@[simp] theorem seqD_bl (b : Bool) : seqD S (.bl b) = none := rfl
end
/-- a list of ours, written or not -/
def SqX (K : PySem.W.Frag) (H : Hp) (a : Addr) (xs : List V) : Prop := H a = some (.lst xs) ∨ SqR K H a xs
theorem SqX.l {K : PySem.W.Frag} {H : Hp} {a : Addr} {xs : List V} (h : SqX K H a xs) : SqL K H a xs := h.elim (fun z => .inl (.inl z)) SqR.l
theorem seqD_rd {w : World} {K : PySem.W.Frag} {S : DH} {H : Hp} {d : D} {v : V} {ds : List D} (rep : Rep w K S H) (rd : RD K H d v) (e : seqD S d = some ds) : ∃ a xs, v = .ref a ∧ SqX K H a xs ∧ RDs K H ds xs := by
  cases d with
  | rol xs =>
    cases e
    obtain ⟨p, ys, rfl, sq, rs⟩ : ∃ p xs, v = V.ref p ∧ SqR K H p xs ∧ RDs K H ds xs := rd
    exact ⟨p, ys, rfl, .inr sq, rs⟩
  | ref a =>
    simp only [seqD_ref] at e
    split at e
    · rename_i xs ea
      cases e
      obtain ⟨ys, e0, rs⟩ : ∃ ys, H a = some (.lst ys) ∧ RDs K H ds ys := rep a _ ea
      exact ⟨a, ys, rd, .inl e0, rs⟩
    · cases e
  | _ => simp at e
theorem sqX_get {X : Cx} {pins : List (Addr × Obj)} {σ : L2.St} {H : Hp} {s : Shared} {a : Addr} {xs : List V} (I : Inv X pins σ H s) (h : SqX X.K H a xs) :
    ∃ (its : List Value) (n : Nat), Vals xs its ∧ xs.length ≤ sizeLine ∧ xs.length = its.length ∧ s.heap.get? a = some { cls := .type "list", data := .seq its.toArray n } := by
  rcases h with h | ⟨o, h⟩ | ⟨its, n, h, hz, r⟩
  · obtain ⟨z, its, n, r, e⟩ := I.hok a _ h
    exact ⟨its, n, r, z, r.length, e⟩
  · obtain ⟨_, z, its, n, r, e⟩ := I.hok a _ h
    exact ⟨its, n, r, z, r.length, e⟩
  · exact ⟨its.toList, n, r, by rw [r.length, Array.length_toList]; exact hz, r.length, by simpa using I.kIn a _ h⟩
def catD (S : DH) (d e : D) (k : List D → Prop) : Prop := opt (seqD S d) fun xs => opt (seqD S e) fun ys => xs.length + ys.length ≤ sizeLine ∧ k (xs ++ ys)
/-! ### slots -/
abbrev DSt := List (Option D)
abbrev DK := D → DH → Prop
/-- what is wanted of an exception: its class, its fields, the slots, the heap -/
abbrev DW := Addr → List (Str × D) → DSt → DH → Prop
abbrev DTE := DW → DSt → DH → DK → Prop
abbrev DTT := DW → DSt → DH → (Bool → DH → Prop) → Prop
abbrev DTA := DW → DSt → DH → (List D → DH → Prop) → Prop
structure RSt (K : PySem.W.Frag) (H : Hp) (τ : DSt) (σ : St) : Prop where
  len : τ.length = σ.length
  get : ∀ (i : Nat) d, τ[i]? = some (some d) → ∃ v, σ[i]? = some (some v) ∧ RD K H d v
structure Rel (w : World) (K : PySem.W.Frag) (τ : DSt) (S : DH) (σ : St) (H : Hp) : Prop where
  st : RSt K H τ σ
  rep : Rep w K S H
theorem RSt.le {K : PySem.W.Frag} {H H' : Hp} {τ : DSt} {σ : St} (le : LeH H H') (r : RSt K H τ σ) : RSt K H' τ σ := ⟨r.len, fun i d e => by
  obtain ⟨v, q, rv⟩ := r.get i d e
  exact ⟨v, q, rv.le le⟩⟩
theorem RSt.set {K : PySem.W.Frag} {H : Hp} {τ : DSt} {σ : St} (r : RSt K H τ σ) (i : Nat) {d : D} {v : V} (rv : RD K H d v) : RSt K H (τ.set i (some d)) (σ.set i (some v)) := by
  refine ⟨by simp [r.len], fun j e h => ?_⟩
  rw [List.getElem?_set] at h ⊢
  by_cases z : i = j
  · subst z
    rw [if_pos rfl] at h
    rw [if_pos rfl]
    by_cases l : i < τ.length
    · rw [if_pos l] at h
      cases h
      rw [if_pos (by rw [← r.len]; exact l)]
      exact ⟨v, rfl, rv⟩
    · rw [if_neg l] at h
      cases h
  · rw [if_neg z] at h
    rw [if_neg z]
    exact r.get j e h
theorem Rel.le {w : World} {K : PySem.W.Frag} {H H' : Hp} {τ : DSt} {S S' : DH} {σ : St} (r : Rel w K τ S σ H) (le : LeH H H') (h : Rep w K S' H') : Rel w K τ S' σ H' := ⟨r.st.le le, h⟩

/-! ### wishes, lifts -/
def upW (w : World) (K : PySem.W.Frag) (E : DW) (H0 : Hp) : WX := fun cls d σ H => ∃ (C : Addr) (fs : List (Str × D)) (τ : DSt) (S : DH) (dd : Addr) (ws : List (Str × V)),
  cls = .ref C ∧ d = some dd ∧ LeH H0 H ∧ Rel w K τ S σ H ∧ H dd = some (.xd ws) ∧ RKs K H fs ws ∧ S dd = none ∧ E C fs τ S
theorem upW.imp {w : World} {K : PySem.W.Frag} {E E' : DW} {H0 H1 : Hp} (le : LeH H0 H1) (k : ∀ C fs τ S, E C fs τ S → E' C fs τ S) {cls : Value} {d : Option Addr} {σ : St} {H : Hp} (h : upW w K E H1 cls d σ H) : upW w K E' H0 cls d σ H := by
  obtain ⟨C, fs, τ, S, dd, ws, e1, e2, l, r, x, y, z, q⟩ := h
  exact ⟨C, fs, τ, S, dd, ws, e1, e2, le.trans l, r, x, y, z, k _ _ _ _ q⟩
def Wish (X : Cx) (E : DW) (H0 : Hp) : Prop := Takes X (upW X.w X.K E H0)
theorem Wish.le {X : Cx} {E : DW} {H0 H1 : Hp} (w : Wish X E H0) (le : LeH H0 H1) : Wish X E H1 := Takes.imp w fun _ _ _ _ h => upW.imp le (fun _ _ _ _ q => q) h
abbrev DW0 : DW := fun _ _ _ _ => False
theorem wish0 {X : Cx} {H0 : Hp} : Wish X DW0 H0 := fun u s' ⟨a, B, sI, pins, σ, H, cls, d, e, I, nb, up, sky, na, os, ag, w⟩ => by
  obtain ⟨_, _, _, _, _, _, _, _, _, _, _, _, _, q⟩ := w
  exact q.elim

def upE (X : Cx) (t : DTE) : TE := fun σ H Q => ∃ E τ S, Wish X E H ∧ Rel X.w X.K τ S σ H ∧ t E τ S fun d S' => ∀ v H', LeH H H' → Rep X.w X.K S' H' → RD X.K H' d v → Q v H'
def upT (X : Cx) (t : DTT) : TT := fun σ H Q => ∃ E τ S, Wish X E H ∧ Rel X.w X.K τ S σ H ∧ t E τ S fun b S' => ∀ H', LeH H H' → Rep X.w X.K S' H' → Q b H'
def upA (X : Cx) (t : DTA) : TA := fun σ H Q => ∃ E τ S, Wish X E H ∧ Rel X.w X.K τ S σ H ∧ t E τ S fun ds S' => ∀ vs H', LeH H H' → Rep X.w X.K S' H' → RDs X.K H' ds vs → Q vs H'
structure DE (X : Cx) (e : Expr) (t : DTE) : Prop where
  mono : ∀ (E E' : DW) τ S (Q Q' : DK), (∀ C fs τ S, E C fs τ S → E' C fs τ S) → (∀ d S', Q d S' → Q' d S') → t E τ S Q → t E' τ S Q'
  run : PE X e (upE X t)
structure DT (X : Cx) (e : Expr) (t : DTT) : Prop where
  mono : ∀ (E E' : DW) τ S (Q Q' : Bool → DH → Prop), (∀ C fs τ S, E C fs τ S → E' C fs τ S) → (∀ d S', Q d S' → Q' d S') → t E τ S Q → t E' τ S Q'
  run : PT X e (upT X t)
structure DWt (X : Cx) (e : Expr) (t : DTT) : Prop where
  mono : ∀ (E E' : DW) τ S (Q Q' : Bool → DH → Prop), (∀ C fs τ S, E C fs τ S → E' C fs τ S) → (∀ d S', Q d S' → Q' d S') → t E τ S Q → t E' τ S Q'
  run : PW X e (upT X t)
structure DA (X : Cx) (es : List Expr) (t : DTA) : Prop where
  mono : ∀ (E E' : DW) τ S (Q Q' : List D → DH → Prop), (∀ C fs τ S, E C fs τ S → E' C fs τ S) → (∀ d S', Q d S' → Q' d S') → t E τ S Q → t E' τ S Q'
  run : PA X es (upA X t)
theorem pE_imp {X : Cx} {e : Expr} {t t' : TE} (h : PE X e t) (k : ∀ σ H Q, t' σ H Q → t σ H Q) : PE X e t' := ⟨fun pins s σ H Q I q => h.run pins s σ H Q I (k σ H Q q)⟩
theorem pT_imp {X : Cx} {e : Expr} {t t' : TT} (h : PT X e t) (k : ∀ σ H Q, t' σ H Q → t σ H Q) : PT X e t' := ⟨fun pins s σ H Q I q => h.run pins s σ H Q I (k σ H Q q)⟩
theorem pW_imp {X : Cx} {e : Expr} {t t' : TT} (h : PW X e t) (k : ∀ σ H Q, t' σ H Q → t σ H Q) : PW X e t' := ⟨fun wh pins s σ H Q I q => h.run wh pins s σ H Q I (k σ H Q q)⟩
theorem pA_imp {X : Cx} {e : List Expr} {t t' : TA} (h : PA X e t) (k : ∀ σ H Q, t' σ H Q → t σ H Q) : PA X e t' := ⟨fun pos pins s σ H Q I q => h.run pos pins s σ H Q I (k σ H Q q)⟩
theorem pS_imp {X : Cx} {e : Stmt} {t t' : TS} (h : PS X e t) (k : ∀ D σ H, t' D σ H → t D σ H) : PS X e t' := ⟨fun pins s σ H D I q => h.run pins s σ H D I (k D σ H q)⟩
theorem pSs_imp {X : Cx} {e : List Stmt} {t t' : TS} (h : PSs X e t) (k : ∀ D σ H, t' D σ H → t D σ H) : PSs X e t' := ⟨fun pins s σ H D I q => h.run pins s σ H D I (k D σ H q)⟩

section
variable {X : Cx} {e : Expr} {es : List Expr} {E : DW} {τ : DSt} {S : DH} {σ : St} {H : Hp}
/-- from a data reading to the layer's, the end weakened -/
theorem DE.to {t : DTE} (h : DE X e t) {Q0 : DK} {Q : VK} (w : Wish X E H) (r : Rel X.w X.K τ S σ H) (q : t E τ S Q0)
    (k : ∀ d S' v H', LeH H H' → Wish X E H' → Rel X.w X.K τ S' σ H' → RD X.K H' d v → Q0 d S' → Q v H') : upE X t σ H Q :=
  ⟨E, τ, S, w, r, h.mono _ _ _ _ _ _ (fun _ _ _ _ z => z) (fun d S' z v H' le rp rd => k d S' v H' le (w.le le) (r.le le rp) rd z) q⟩
theorem DT.to {t : DTT} (h : DT X e t) {Q0 : Bool → DH → Prop} {Q : Bool → Hp → Prop} (w : Wish X E H) (r : Rel X.w X.K τ S σ H) (q : t E τ S Q0)
    (k : ∀ b S' H', LeH H H' → Wish X E H' → Rel X.w X.K τ S' σ H' → Q0 b S' → Q b H') : upT X t σ H Q :=
  ⟨E, τ, S, w, r, h.mono _ _ _ _ _ _ (fun _ _ _ _ z => z) (fun d S' z H' le rp => k d S' H' le (w.le le) (r.le le rp) z) q⟩
theorem DWt.to {t : DTT} (h : DWt X e t) {Q0 : Bool → DH → Prop} {Q : Bool → Hp → Prop} (w : Wish X E H) (r : Rel X.w X.K τ S σ H) (q : t E τ S Q0)
    (k : ∀ b S' H', LeH H H' → Wish X E H' → Rel X.w X.K τ S' σ H' → Q0 b S' → Q b H') : upT X t σ H Q :=
  ⟨E, τ, S, w, r, h.mono _ _ _ _ _ _ (fun _ _ _ _ z => z) (fun d S' z H' le rp => k d S' H' le (w.le le) (r.le le rp) z) q⟩
theorem DA.to {t : DTA} (h : DA X es t) {Q0 : List D → DH → Prop} {Q : List V → Hp → Prop} (w : Wish X E H) (r : Rel X.w X.K τ S σ H) (q : t E τ S Q0)
    (k : ∀ ds S' vs H', LeH H H' → Wish X E H' → Rel X.w X.K τ S' σ H' → RDs X.K H' ds vs → Q0 ds S' → Q vs H') : upA X t σ H Q :=
  ⟨E, τ, S, w, r, h.mono _ _ _ _ _ _ (fun _ _ _ _ z => z) (fun d S' z vs H' le rp rd => k d S' vs H' le (w.le le) (r.le le rp) rd z) q⟩
end

/-! ### names, constants -/
@[simp] def dVar (i : Nat) : DTE := fun _ τ S Q => match τ[i]? with | some (some d) => Q d S | _ => False
@[simp] def dC (d : D) : DTE := fun _ _ S Q => Q d S
section
variable {X : Cx}
theorem de_var {e : Expr} {i : Nat} (h : PE X e (tVar i)) : DE X e (dVar i) := by
  refine ⟨fun E E' τ S Q Q' _ k q => ?_, pE_imp h fun σ H Q ⟨E, τ, S, w, r, q⟩ => ?_⟩
  · unfold dVar at q ⊢
    split at q
    · exact k _ _ q
    · exact q
  · unfold dVar at q
    split at q
    · rename_i d e'
      obtain ⟨v, e2, rv⟩ := r.st.get i d e'
      exact ⟨v, e2, q v H (LeH.refl H) r.rep rv⟩
    · exact q.elim
theorem de_c {e : Expr} {d : D} {v : V} (h : PE X e (tC v)) (hv : ∀ H, RD X.K H d v) : DE X e (dC d) :=
  ⟨fun E E' τ S Q Q' _ k q => k _ _ q, pE_imp h fun σ H Q ⟨E, τ, S, w, r, q⟩ => q v H (LeH.refl H) r.rep (hv H)⟩
theorem dv (i : Nat) {x : Str} {pos : Pos} (hN : X.N[i]? = some x := by rfl) (hv : Vis X.env.scope x := by first | exact Or.inl rfl | exact Or.inr (Or.inl rfl) | exact Or.inr (Or.inr rfl)) (hd : (x == ("__debug__" : Str)) = false := by decide)
    (hcd : (x == ("__classdict__" : Str)) = false := by decide) : DE X (.Name x pos) (dVar i) := de_var (pe_var hN hv hd hcd)
theorem de_int {i : Int} {j pos} : DE X (.Constant (.int i) j pos) (dC (.int i)) := de_c pe_int fun _ => rfl
theorem de_bl {b : Bool} {j pos} : DE X (.Constant (.bool b) j pos) (dC (.bl b)) := de_c pe_bl fun _ => rfl
theorem de_non {j pos} : DE X (.Constant .none j pos) (dC .non) := de_c pe_non fun _ => rfl
theorem de_str {x : Str} {j pos} : DE X (.Constant (.str x) j pos) (dC (.str x)) := de_c pe_str fun _ => rfl
end

/-! ### operators -/
abbrev R2D := D → D → DH → DK → Prop
def Mono2 (r : R2D) : Prop := ∀ x y S (Q Q' : DK), (∀ d S', Q d S' → Q' d S') → r x y S Q → r x y S Q'
def upO (w : World) (K : PySem.W.Frag) (r : R2D) : R2 := fun x y H Q => ∃ d e S, Rep w K S H ∧ RD K H d x ∧ RD K H e y ∧ r d e S fun z S' => ∀ v H', LeH H H' → Rep w K S' H' → RD K H' z v → Q v H'
structure OpD (X : Cx) (f : Value → Value → Sem Value) (r : R2D) : Prop where
  mono : Mono2 r
  run : OpR X f (upO X.w X.K r)
theorem opR_imp {X : Cx} {f : Value → Value → Sem Value} {r r' : R2} (h : OpR X f r) (k : ∀ x y H Q, r' x y H Q → r x y H Q) : OpR X f r' := fun pins s σ H x y v u Q I rx ry q => h pins s σ H x y v u Q I rx ry (k _ _ _ _ q)
@[simp] def dOp (r : R2D) (ta tb : DTE) : DTE := fun E τ S Q => ta E τ S fun d S1 => tb E τ S1 fun e S2 => r d e S2 Q
section
variable {X : Cx} {a b : Expr} {ta tb : DTE} {pos : Pos} {r : R2D}
theorem dOp_mono {E E' : DW} {τ : DSt} {S : DH} {Q Q' : DK} (ma : DE X a ta) (mb : DE X b tb) (mr : Mono2 r) (he : ∀ C fs τ S, E C fs τ S → E' C fs τ S) (k : ∀ d S', Q d S' → Q' d S') (q : dOp r ta tb E τ S Q) : dOp r ta tb E' τ S Q' :=
  ma.mono _ _ _ _ _ _ he (fun _ _ h => mb.mono _ _ _ _ _ _ he (fun _ _ h => mr _ _ _ _ _ k h) h) q
theorem dOp_up {σ : St} {H : Hp} {Q : VK} (ha : DE X a ta) (hb : DE X b tb) (mr : Mono2 r) (h : upE X (dOp r ta tb) σ H Q) : tOp (upO X.w X.K r) (upE X ta) (upE X tb) σ H Q := by
  obtain ⟨E, τ, S, w, rl, q⟩ := h
  refine ha.to w rl q fun d S1 x H1 le1 w1 r1 rd q1 => ?_
  refine hb.to w1 r1 q1 fun e S2 y H2 le2 w2 r2 re q2 => ?_
  exact ⟨d, e, S2, r2.rep, rd.le le2, re, mr _ _ _ _ _ (fun z S' k v H' le rp rz => k v H' (le1.trans (le2.trans le)) rp rz) q2⟩
theorem de_op {op : Operator} (ho : OpD X (binaryOp op) r) (ha : DE X a ta) (hb : DE X b tb) : DE X (.BinOp a op b pos) (dOp r ta tb) :=
  ⟨fun _ _ _ _ _ _ he k q => dOp_mono ha hb ho.mono he k q, pE_imp (pe_op ho.run ha.run hb.run) fun _ _ _ h => dOp_up ha hb ho.mono h⟩
theorem de_cmp {op : CmpOp} (ho : OpD X (compareOp op) r) (ha : DE X a ta) (hb : DE X b tb) (hm : behindInMarks op b = false) : DE X (.Compare a [op] [b] pos) (dOp r ta tb) :=
  ⟨fun _ _ _ _ _ _ he k q => dOp_mono ha hb ho.mono he k q, pE_imp (pe_cmpR ho.run ha.run hb.run hm) fun _ _ _ h => dOp_up ha hb ho.mono h⟩
/-- a test: a value that is a truth -/
@[simp] def dTest (t : DTE) : DTT := fun E τ S Q => t E τ S fun d S' => match d with | .bl b => Q b S' | _ => False
theorem dTest_mono {e : Expr} {t : DTE} (m : DE X e t) (E E' : DW) (τ : DSt) (S : DH) (Q Q' : Bool → DH → Prop) (he : ∀ C fs τ S, E C fs τ S → E' C fs τ S) (k : ∀ d S', Q d S' → Q' d S') (q : dTest t E τ S Q) : dTest t E' τ S Q' :=
  m.mono _ _ _ _ _ _ he (fun d S' h => by
    cases d with
    | bl b => exact k _ _ h
    | _ => exact h) q
theorem dt_cmp {op : CmpOp} (ho : OpD X (compareOp op) r) (ha : DE X a ta) (hb : DE X b tb) (hm : behindInMarks op b = false) : DT X (.Compare a [op] [b] pos) (dTest (dOp r ta tb)) := by
  refine ⟨dTest_mono (de_cmp ho ha hb hm (pos := pos)), pT_imp (pt_cmpR ho.run ha.run hb.run hm) fun σ H Q ⟨E, τ, S, w, rl, q⟩ => ?_⟩
  refine dOp_up ha hb ho.mono ⟨E, τ, S, w, rl, dOp_mono ha hb ho.mono (fun _ _ _ _ z => z) (fun d S' h v H' le rp rd => ?_) q⟩
  cases d with
  | bl b => exact ⟨b, rd, h H' le rp⟩
  | _ => exact h.elim
theorem dt_val {e : Expr} {t : DTE} (h : DE X e t) (he : ∀ whole, isTrue e X.env whole = (do let v ← whole; standAt e.pos; holding [v] (truthy v)) := by intro _; rfl) : DT X e (dTest t) := by
  refine ⟨dTest_mono h, pT_imp (pt_val h.run he) fun σ H Q ⟨E, τ, S, w, rl, q⟩ => ?_⟩
  refine h.to w rl q fun d S' v H' le w' r' rd q' => ?_
  cases d with
  | bl b => exact ⟨b, rd, q' H' le r'.rep⟩
  | _ => exact q'.elim
end
end Dt
set_option maxRecDepth 100000
set_option maxHeartbeats 4000000
/-! Dat2: tests, statements, loops, comprehensions. -/
namespace Dt
open PySem PySem.Spec L2

/-! ### arguments -/
@[simp] def dNil : DTA := fun _ _ S Q => Q [] S
@[simp] def dCons (ta : DTE) (tr : DTA) : DTA := fun E τ S Q => ta E τ S fun d S1 => tr E τ S1 fun ds S2 => Q (d :: ds) S2
section
variable {X : Cx} {e : Expr} {es : List Expr} {te : DTE} {t : DTA} {pos : Pos}
theorem da_nil : DA X [] dNil := ⟨fun _ _ _ _ _ _ _ k q => k _ _ q, pA_imp pa_nil fun σ H Q ⟨E, τ, S, w, r, q⟩ => q [] H (LeH.refl H) r.rep .nil⟩
theorem da_cons (ha : DE X e te) (hr : DA X es t) (hs : starEach (e :: es) X.env = (false, eval e X.env) :: starEach es X.env := by rfl) : DA X (e :: es) (dCons te t) := by
  refine ⟨fun _ _ _ _ _ _ he k q => ha.mono _ _ _ _ _ _ he (fun _ _ h => hr.mono _ _ _ _ _ _ he (fun _ _ h => k _ _ h) h) q, pA_imp (pa_cons ha.run hr.run hs) fun σ H Q ⟨E, τ, S, w, r, q⟩ => ?_⟩
  refine ha.to w r q fun d S1 v H1 le1 w1 r1 rd q1 => ?_
  exact hr.to w1 r1 q1 fun ds S2 vs H2 le2 w2 r2 rds q2 => q2 (v :: vs) H2 (le1.trans le2) r2.rep (.cons (rd.le le2) rds)
end

/-! ### tests -/
section
variable {X : Cx} {a b : Expr} {rest : List Expr} {ta tb : DTT} {te : DTE} {pos : Pos}
@[simp] def dAnd (t u : DTT) : DTT := fun E τ S Q => t E τ S fun c S1 => if c = true then u E τ S1 Q else Q false S1
@[simp] def dOr (t u : DTT) : DTT := fun E τ S Q => t E τ S fun c S1 => if c = true then Q true S1 else u E τ S1 Q
@[simp] def dNot (t : DTT) : DTT := fun E τ S Q => t E τ S fun c S1 => Q (!c) S1
theorem DWt.pt (h : DWt X a ta) : DT X a ta := ⟨h.mono, h.run.pt⟩
theorem dw_and1 (ha : DT X a ta) : DWt X (.BoolOp .And [a] pos) ta := ⟨ha.mono, pw_and1 ha.run⟩
theorem dw_or1 (ha : DT X a ta) : DWt X (.BoolOp .Or [a] pos) ta := ⟨ha.mono, pw_or1 ha.run⟩
theorem dw_and (ha : DT X a ta) (hb : DWt X (.BoolOp .And (b :: rest) pos) tb) : DWt X (.BoolOp .And (a :: b :: rest) pos) (dAnd ta tb) := by
  refine ⟨fun E E' τ S Q Q' he k q => ha.mono _ _ _ _ _ _ he (fun c S1 h => ?_) q, pW_imp (pw_and ha.run hb.run) fun σ H Q ⟨E, τ, S, w, r, q⟩ => ?_⟩
  · split at h
    · rename_i hc
      rw [if_pos hc]
      exact hb.mono _ _ _ _ _ _ he k h
    · rename_i hc
      rw [if_neg hc]
      exact k _ _ h
  · refine ha.to w r q fun c S1 H1 le w1 r1 h => ?_
    cases c with
    | true => exact hb.to w1 r1 h fun b S2 H2 le2 _ r2 q2 => q2 H2 (le.trans le2) r2.rep
    | false => exact h H1 le r1.rep
theorem dw_or (ha : DT X a ta) (hb : DWt X (.BoolOp .Or (b :: rest) pos) tb) : DWt X (.BoolOp .Or (a :: b :: rest) pos) (dOr ta tb) := by
  refine ⟨fun E E' τ S Q Q' he k q => ha.mono _ _ _ _ _ _ he (fun c S1 h => ?_) q, pW_imp (pw_or ha.run hb.run) fun σ H Q ⟨E, τ, S, w, r, q⟩ => ?_⟩
  · split at h
    · rename_i hc
      rw [if_pos hc]
      exact k _ _ h
    · rename_i hc
      rw [if_neg hc]
      exact hb.mono _ _ _ _ _ _ he k h
  · refine ha.to w r q fun c S1 H1 le w1 r1 h => ?_
    cases c with
    | true => exact h H1 le r1.rep
    | false => exact hb.to w1 r1 h fun b S2 H2 le2 _ r2 q2 => q2 H2 (le.trans le2) r2.rep
theorem dt_not (ha : DT X a ta) : DT X (.UnaryOp .Not a pos) (dNot ta) :=
  ⟨fun _ _ _ _ _ _ he k q => ha.mono _ _ _ _ _ _ he (fun _ _ h => k _ _ h) q, pT_imp (pt_not ha.run) fun σ H Q ⟨E, τ, S, w, r, q⟩ => ha.to w r q fun c S1 H1 le w1 r1 h => h H1 le r1.rep⟩
/-- and, or, not as values, of truths -/
def dBV (t : DTE) (k : Bool → DH → DK → Prop) : DTE := fun E τ S Q => t E τ S fun d S1 => match d with | .bl c => k c S1 Q | _ => False
@[simp] def dAndV (ta tb : DTE) : DTE := fun E τ S Q => ta E τ S fun d S1 => match d with | .bl c => (if c = true then tb E τ S1 Q else Q (.bl false) S1) | _ => False
@[simp] def dOrV (ta tb : DTE) : DTE := fun E τ S Q => ta E τ S fun d S1 => match d with | .bl c => (if c = true then Q (.bl true) S1 else tb E τ S1 Q) | _ => False
@[simp] def dNotV (ta : DTE) : DTE := fun E τ S Q => ta E τ S fun d S1 => match d with | .bl c => Q (.bl (!c)) S1 | _ => False
variable {va vb : DTE}
theorem de_one {op} (h : DE X a te) : DE X (.BoolOp op [a] pos) te := ⟨h.mono, pe_one h.run⟩
theorem de_and (ha : DE X a va) (hb : DE X (.BoolOp .And (b :: rest) pos) vb) : DE X (.BoolOp .And (a :: b :: rest) pos) (dAndV va vb) := by
  refine ⟨fun E E' τ S Q Q' he k q => ha.mono _ _ _ _ _ _ he (fun d S1 h => ?_) q, pE_imp (pe_and ha.run hb.run) fun σ H Q ⟨E, τ, S, w, r, q⟩ => ?_⟩
  · cases d with
    | bl c =>
      cases c with
      | true => exact hb.mono _ _ _ _ _ _ he k h
      | false => exact k _ _ h
    | _ => exact h
  · refine ha.to w r q fun d S1 v H1 le w1 r1 rd h => ?_
    cases d with
    | bl c =>
      refine ⟨c, rd, ?_⟩
      cases c with
      | true => exact hb.to w1 r1 h fun z S2 u H2 le2 _ r2 rz q2 => q2 u H2 (le.trans le2) r2.rep rz
      | false => exact h _ H1 le r1.rep rfl
    | _ => exact h.elim
theorem de_or (ha : DE X a va) (hb : DE X (.BoolOp .Or (b :: rest) pos) vb) : DE X (.BoolOp .Or (a :: b :: rest) pos) (dOrV va vb) := by
  refine ⟨fun E E' τ S Q Q' he k q => ha.mono _ _ _ _ _ _ he (fun d S1 h => ?_) q, pE_imp (pe_or ha.run hb.run) fun σ H Q ⟨E, τ, S, w, r, q⟩ => ?_⟩
  · cases d with
    | bl c =>
      cases c with
      | true => exact k _ _ h
      | false => exact hb.mono _ _ _ _ _ _ he k h
    | _ => exact h
  · refine ha.to w r q fun d S1 v H1 le w1 r1 rd h => ?_
    cases d with
    | bl c =>
      refine ⟨c, rd, ?_⟩
      cases c with
      | true => exact h _ H1 le r1.rep rfl
      | false => exact hb.to w1 r1 h fun z S2 u H2 le2 _ r2 rz q2 => q2 u H2 (le.trans le2) r2.rep rz
    | _ => exact h.elim
@[simp] def dIfE (t : DTT) (ta tb : DTE) : DTE := fun E τ S Q => t E τ S fun c S1 => if c = true then ta E τ S1 Q else tb E τ S1 Q
end

/-! ### statements -/
structure DEnds where
  nx : DSt → DH → Prop
  rt : DK
  bk : DSt → DH → Prop := fun _ _ => False
  ct : DSt → DH → Prop := fun _ _ => False
  xe : DW := fun _ _ _ _ => False
abbrev DTS := DEnds → DSt → DH → Prop
structure DEnds.Le (A B : DEnds) : Prop where
  nx : ∀ τ S, A.nx τ S → B.nx τ S
  rt : ∀ d S, A.rt d S → B.rt d S
  bk : ∀ τ S, A.bk τ S → B.bk τ S
  ct : ∀ τ S, A.ct τ S → B.ct τ S
  xe : ∀ C fs τ S, A.xe C fs τ S → B.xe C fs τ S
def dnE (w : World) (K : PySem.W.Frag) (H : Hp) (D : Ends) (E : DW) : DEnds where
  nx := fun τ S => ∀ σ H', LeH H H' → Rel w K τ S σ H' → D.nx σ H'
  rt := fun d S => ∀ v H', LeH H H' → Rep w K S H' → RD K H' d v → D.rt v H'
  bk := fun τ S => ∀ σ H', LeH H H' → Rel w K τ S σ H' → D.bk σ H'
  ct := fun τ S => ∀ σ H', LeH H H' → Rel w K τ S σ H' → D.ct σ H'
  xe := E
def upS (X : Cx) (t : DTS) : TS := fun D σ H => ∃ E τ S, Wish X E H ∧ Rel X.w X.K τ S σ H ∧ t (dnE X.w X.K H D E) τ S
structure DS (X : Cx) (st : Stmt) (t : DTS) : Prop where
  mono : ∀ A B τ S, DEnds.Le A B → t A τ S → t B τ S
  run : PS X st (upS X t)
structure DSs (X : Cx) (st : List Stmt) (t : DTS) : Prop where
  mono : ∀ A B τ S, DEnds.Le A B → t A τ S → t B τ S
  run : PSs X st (upS X t)
section
variable {X : Cx} {st : Stmt} {sts : List Stmt} {t u : DTS} {E : DW} {τ : DSt} {S : DH} {σ : St} {H : Hp} {pos : Pos}
theorem dn_le {w : World} {K : PySem.W.Frag} {D : Ends} {H H' : Hp} (le : LeH H H') : DEnds.Le (dnE w K H D E) (dnE w K H' D E) :=
  ⟨fun τ S h σ H2 l => h σ H2 (le.trans l), fun d S h v H2 l => h v H2 (le.trans l), fun τ S h σ H2 l => h σ H2 (le.trans l), fun τ S h σ H2 l => h σ H2 (le.trans l), fun _ _ _ _ h => h⟩
theorem DS.to (h : DS X st t) {A : DEnds} {D : Ends} (w : Wish X E H) (r : Rel X.w X.K τ S σ H) (q : t A τ S) (k : DEnds.Le A (dnE X.w X.K H D E)) : upS X t D σ H := ⟨E, τ, S, w, r, h.mono _ _ _ _ k q⟩
theorem DSs.to (h : DSs X sts t) {A : DEnds} {D : Ends} (w : Wish X E H) (r : Rel X.w X.K τ S σ H) (q : t A τ S) (k : DEnds.Le A (dnE X.w X.K H D E)) : upS X t D σ H := ⟨E, τ, S, w, r, h.mono _ _ _ _ k q⟩
@[simp] def dNx : DTS := fun A τ S => A.nx τ S
@[simp] def dSeq (t u : DTS) : DTS := fun A τ S => t { A with nx := u A } τ S
theorem dss_nil : DSs X [] dNx := ⟨fun _ _ _ _ le q => le.nx _ _ q, pSs_imp pss_nil fun D σ H ⟨E, τ, S, w, r, q⟩ => q σ H (LeH.refl H) r⟩
theorem dss_one (h : DS X st t) : DSs X [st] t := ⟨h.mono, pss_one h.run⟩
theorem dss_cons (h1 : DS X st t) (h2 : DSs X sts u) : DSs X (st :: sts) (dSeq t u) := by
  refine ⟨fun A B τ S le q => h1.mono { A with nx := u A } { B with nx := u B } _ _ ⟨fun τ S z => h2.mono _ _ _ _ le z, le.rt, le.bk, le.ct, le.xe⟩ q, pSs_imp (pss_cons h1.run h2.run) fun D σ H ⟨E, τ, S, w, r, q⟩ => ?_⟩
  exact h1.to w r q ⟨fun τ' S' z σ' H' le r' => h2.to (w.le le) r' z (dn_le le), fun _ _ z => z, fun _ _ z => z, fun _ _ z => z, fun _ _ _ _ z => z⟩
@[simp] def dBk : DTS := fun A τ S => A.bk τ S
@[simp] def dCt : DTS := fun A τ S => A.ct τ S
def dNever : DTS := fun _ _ _ => False
variable {e c : Expr} {te : DTE} {tc : DTT} {as bs : List Stmt}
@[simp] def dDrop (te : DTE) : DTS := fun A τ S => te A.xe τ S fun _ S' => A.nx τ S'
theorem ds_expr (h : DE X e te) (hs : swapsWith e none pos.line X.env = pure false := by rfl) : DS X (.Expr e pos) (dDrop te) :=
  ⟨fun _ _ _ _ le q => h.mono _ _ _ _ _ _ le.xe (fun _ _ z => le.nx _ _ z) q, pS_imp (ps_expr h.run hs) fun D σ H ⟨E, τ, S, w, r, q⟩ => h.to w r q fun d S' v H' le w' r' rd z => z σ H' le r'⟩
@[simp] def dRet (te : DTE) : DTS := fun A τ S => te A.xe τ S A.rt
theorem ds_ret (h : DE X e te) : DS X (.Return (some e) pos) (dRet te) :=
  ⟨fun _ _ _ _ le q => h.mono _ _ _ _ _ _ le.xe le.rt q, pS_imp (ps_ret h.run) fun D σ H ⟨E, τ, S, w, r, q⟩ => h.to w r q fun d S' v H' le w' r' rd z => z v H' le r'.rep rd⟩
@[simp] def dRetN : DTS := fun A _ S => A.rt .non S
@[simp] def dIf (tc : DTT) (t u : DTS) : DTS := fun A τ S => tc A.xe τ S fun b S' => if b = true then t A τ S' else u A τ S'
theorem ds_if (hc : DT X c tc) (ha : DSs X as t) (hb : DSs X bs u) : DS X (.If c as bs pos) (dIf tc t u) := by
  refine ⟨fun A B τ S le q => hc.mono _ _ _ _ _ _ le.xe (fun b S' z => ?_) q, pS_imp (ps_if hc.run ha.run hb.run) fun D σ H ⟨E, τ, S, w, r, q⟩ => ?_⟩
  · cases b with
    | true => exact ha.mono _ _ _ _ le z
    | false => exact hb.mono _ _ _ _ le z
  · refine hc.to w r q fun b S' H' le w' r' z => ?_
    cases b with
    | true => exact ha.to w' r' z (dn_le le)
    | false => exact hb.to w' r' z (dn_le le)
end

/-! ### targets -/
abbrev DTG := D → DSt → DH → (DSt → DH → Prop) → Prop
abbrev DTGs := List D → DSt → DH → (DSt → DH → Prop) → Prop
def upG (X : Cx) (t : DTG) : TG := fun v σ H Q => ∃ d τ S, Rel X.w X.K τ S σ H ∧ RD X.K H d v ∧ t d τ S fun τ' S' => ∀ σ' H', LeH H H' → Rel X.w X.K τ' S' σ' H' → Q σ' H'
def upGs (X : Cx) (t : DTGs) : TGs := fun vs σ H Q => ∃ ds τ S, Rel X.w X.K τ S σ H ∧ RDs X.K H ds vs ∧ t ds τ S fun τ' S' => ∀ σ' H', LeH H H' → Rel X.w X.K τ' S' σ' H' → Q σ' H'
structure DG (X : Cx) (tg : Expr) (t : DTG) : Prop where
  mono : ∀ d τ S (Q Q' : DSt → DH → Prop), (∀ τ S, Q τ S → Q' τ S) → t d τ S Q → t d τ S Q'
  run : PG X tg (upG X t)
structure DGs (X : Cx) (tg : List Expr) (t : DTGs) : Prop where
  mono : ∀ d τ S (Q Q' : DSt → DH → Prop), (∀ τ S, Q τ S → Q' τ S) → t d τ S Q → t d τ S Q'
  run : PGs X tg (upGs X t)
theorem pG_imp {X : Cx} {e : Expr} {t t' : TG} (h : PG X e t) (k : ∀ v σ H Q, t' v σ H Q → t v σ H Q) : PG X e t' := ⟨fun pins s σ H v u Q I r q => h.run pins s σ H v u Q I r (k v σ H Q q)⟩
theorem pGs_imp {X : Cx} {e : List Expr} {t t' : TGs} (h : PGs X e t) (k : ∀ v σ H Q, t' v σ H Q → t v σ H Q) : PGs X e t' := ⟨fun pins s σ H v u Q I r q => h.run pins s σ H v u Q I r (k v σ H Q q)⟩
section
variable {X : Cx} {tg e : Expr} {tgs : List Expr} {t : DTG} {ts : DTGs} {te : DTE} {pos : Pos}
theorem DG.to (h : DG X tg t) {d : D} {v : V} {τ : DSt} {S : DH} {σ : St} {H : Hp} {Q0 : DSt → DH → Prop} {Q : St → Hp → Prop} (r : Rel X.w X.K τ S σ H) (rd : RD X.K H d v) (q : t d τ S Q0) (k : ∀ τ' S' σ' H', LeH H H' → Rel X.w X.K τ' S' σ' H' → Q0 τ' S' → Q σ' H') : upG X t v σ H Q :=
  ⟨d, τ, S, r, rd, h.mono _ _ _ _ _ (fun τ' S' z σ' H' le r' => k _ _ _ _ le r' z) q⟩
@[simp] def dGN (i : Nat) : DTG := fun d τ S Q => Q (τ.set i (some d)) S
theorem dg_name {i : Nat} {x : Str} (hN : X.N.Nodup) (hi : X.N[i]? = some x) (hx : Loc X.env.scope x) (hf : X.fn x = true ∨ X.env.scope.names.lookup x = some .local := by first | exact .inl rfl | exact .inr rfl | assumption) : DG X (.Name x pos) (dGN i) :=
  ⟨fun _ _ _ _ _ k q => k _ _ q, pG_imp (pg_name hN hi hx hf) fun v σ H Q ⟨d, τ, S, r, rd, q⟩ => q _ _ (LeH.refl H) ⟨r.st.set i rd, r.rep⟩⟩
@[simp] def dGNil : DTGs := fun ds τ S Q => match ds with | [] => Q τ S | _ => False
@[simp] def dGCons (t : DTG) (u : DTGs) : DTGs := fun ds τ S Q => match ds with | d :: r => t d τ S fun τ' S' => u r τ' S' Q | _ => False
theorem dgs_nil : DGs X [] dGNil := by
  refine ⟨fun ds _ _ _ _ k q => ?_, pGs_imp pgs_nil fun vs σ H Q ⟨ds, τ, S, r, rd, q⟩ => ?_⟩
  · cases ds with
    | nil => exact k _ _ q
    | cons _ _ => exact q
  · cases ds with
    | nil => exact ⟨rd, q σ H (LeH.refl H) r⟩
    | cons _ _ => exact q.elim
theorem dgs_cons (h1 : DG X tg t) (h2 : DGs X tgs ts) (hs : (assignEach (tg :: tgs) X.env).map (·.2) = assign tg X.env :: (assignEach tgs X.env).map (·.2) := by rfl) : DGs X (tg :: tgs) (dGCons t ts) := by
  refine ⟨fun ds _ _ _ _ k q => ?_, pGs_imp (pgs_cons h1.run h2.run hs) fun vs σ H Q ⟨ds, τ, S, r, rd, q⟩ => ?_⟩
  · cases ds with
    | nil => exact q
    | cons d r => exact h1.mono _ _ _ _ _ (fun _ _ z => h2.mono _ _ _ _ _ k z) q
  · cases ds with
    | nil => exact q.elim
    | cons d ds =>
      obtain ⟨v, s, rfl, rd1, rd2⟩ := rd
      refine ⟨v, s, rfl, h1.to r rd1 q fun τ' S' σ' H' le r' z => ?_⟩
      exact ⟨ds, τ', S', r', rd2.le le, h2.mono _ _ _ _ _ (fun τ2 S2 z2 σ2 H2 le2 r2 => z2 σ2 H2 (le.trans le2) r2) z⟩
@[simp] def dGTup (n : Nat) (t : DTGs) : DTG := fun d τ S Q => match d with | .tup ds => ds.length = n ∧ t ds τ S Q | _ => False
@[simp] def dAsg (te : DTE) (t : DTG) : DTS := fun A τ S => te A.xe τ S fun d S' => t d τ S' A.nx
theorem ds_asg (he : DE X e te) (hg : DG X tg t) (hs : swapsWithSole [tg] e pos.line X.env = pure false := by rfl) (hw : swappedStores [tg] e X.env = pure none := by rfl) (h1 : (assignEach [tg] X.env).map (·.2) = [assign tg X.env] := by rfl) : DS X (.Assign [tg] e pos) (dAsg te t) := by
  refine ⟨fun A B τ S le q => he.mono _ _ _ _ _ _ le.xe (fun _ _ z => hg.mono _ _ _ _ _ le.nx z) q, pS_imp (ps_asg he.run hg.run hs hw h1) fun D σ H ⟨E, τ, S, w, r, q⟩ => ?_⟩
  exact he.to w r q fun d S' v H' le w' r' rd z => hg.to r' rd z fun τ2 S2 σ2 H2 le2 r2 z2 => z2 σ2 H2 (le.trans le2) r2
theorem ds_set {i : Nat} {x : Str} {pos' : Pos} (hN : X.N.Nodup) (hi : X.N[i]? = some x) (hx : Loc X.env.scope x) (he : DE X e te) (hs : swapsWith e (some (.Name x pos')) pos.line X.env = pure false := by rfl)
    (hf : X.fn x = true ∨ X.env.scope.names.lookup x = some .local := by first | exact .inl rfl | exact .inr rfl | assumption) : DS X (.Assign [.Name x pos'] e pos) (dAsg te (dGN i)) := by
  refine ⟨fun A B τ S le q => he.mono _ _ _ _ _ _ le.xe (fun _ _ z => le.nx _ _ z) q, pS_imp (ps_set hN hi hx he.run hs hf) fun D σ H ⟨E, τ, S, w, r, q⟩ => ?_⟩
  exact he.to w r q fun d S' v H' le w' r' rd z => z _ H' le ⟨r'.st.set i rd, r'.rep⟩
end

/-! ### while -/
def dWh (c : DTT) (tb : DTS) (A : DEnds) : Nat → DSt → DH → Prop
  | 0, _, _ => False
  | n + 1, τ, S => c A.xe τ S fun b S' => if b = true then tb { A with nx := dWh c tb A n, ct := dWh c tb A n, bk := A.nx } τ S' else A.nx τ S'
def dWhile (c : DTT) (tb : DTS) : DTS := fun A τ S => ∃ n, dWh c tb A n τ S
section
variable {X : Cx} {c : Expr} {body : List Stmt} {tc : DTT} {tb : DTS} {pos : Pos}
theorem dWh_mono (hc : DT X c tc) (hb : DSs X body tb) {A B : DEnds} (le : DEnds.Le A B) : ∀ (n : Nat) (τ : DSt) (S : DH), dWh tc tb A n τ S → dWh tc tb B n τ S
  | 0, _, _, q => q
  | n + 1, τ, S, q => hc.mono _ _ _ _ _ _ le.xe (fun b S' z => by
      cases b with
      | true => exact hb.mono { A with nx := dWh tc tb A n, ct := dWh tc tb A n, bk := A.nx } { B with nx := dWh tc tb B n, ct := dWh tc tb B n, bk := B.nx } _ _ ⟨fun τ S w => dWh_mono hc hb le n τ S w, le.rt, le.nx, fun τ S w => dWh_mono hc hb le n τ S w, le.xe⟩ z
      | false => exact le.nx _ _ z) q
theorem ds_while (hp : PassesOwn (model X.prog X.w) X.A X.env X.xe) (hc : DT X c tc) (hb : DSs X body tb) : DS X (.While c body [] pos) (dWhile tc tb) := by
  refine ⟨fun A B τ S le ⟨n, q⟩ => ⟨n, dWh_mono hc hb le n τ S q⟩, pS_imp (ps_while hp hc.run hb.run) fun D σ H ⟨E, τ, S, w, r, n, q⟩ => ?_⟩
  refine ⟨fun m σ' H' => LeH H H' ∧ ∃ τ' S', Rel X.w X.K τ' S' σ' H' ∧ dWh tc tb (dnE X.w X.K H D E) m τ' S', ⟨n, LeH.refl H, τ, S, r, q⟩, ?_⟩
  rintro m σ1 H1 ⟨le1, τ1, S1, r1, q1⟩
  cases m with
  | zero => exact q1.elim
  | succ m =>
    refine hc.to (w.le le1) r1 q1 fun b S2 H2 le2 w2 r2 z => ?_
    cases b with
    | false => exact z σ1 H2 (le1.trans le2) r2
    | true =>
      rw [if_pos rfl]
      have again : ∀ τ3 S3, dWh tc tb (dnE X.w X.K H D E) m τ3 S3 → ∀ σ3 H3, LeH H2 H3 → Rel X.w X.K τ3 S3 σ3 H3 → LeH H H3 ∧ ∃ τ' S', Rel X.w X.K τ' S' σ3 H3 ∧ dWh tc tb (dnE X.w X.K H D E) m τ' S' :=
        fun τ3 S3 y σ3 H3 le3 r3 => ⟨le1.trans (le2.trans le3), τ3, S3, r3, y⟩
      refine ⟨fun σ3 H3 => LeH H H3 ∧ ∃ τ' S', Rel X.w X.K τ' S' σ3 H3 ∧ dWh tc tb (dnE X.w X.K H D E) m τ' S', fun σ3 H3 y => ⟨m, Nat.lt_succ_self m, y⟩, hb.to w2 r2 z ⟨again, ?_, ?_, again, fun _ _ _ _ y => y⟩⟩
      · exact fun d S3 y v H3 le3 r3 rd => y v H3 (le1.trans (le2.trans le3)) r3 rd
      · exact fun τ3 S3 y σ3 H3 le3 r3 => y σ3 H3 (le1.trans (le2.trans le3)) r3
end

/-! ### what is walked -/
structure Feeds (w : World) (K : PySem.W.Frag) (H0 : Hp) (J : It) (G : DH → Prop) (ds : List D) : Prop where
  go : ∀ i S H, LeH H0 H → Rep w K S H → G S → i < ds.length → J.go i H
  yld : ∀ i S H x H', LeH H0 H → Rep w K S H → G S → i < ds.length → J.yld i H x H' → LeH H H' ∧ Rep w K S H' ∧ ∃ d, ds[i]? = some d ∧ RD K H' d x
  stop : ∀ S H, LeH H0 H → Rep w K S H → G S → J.stop ds.length H
abbrev DTI := DW → DSt → DH → ((DH → Prop) → List D → DH → Prop) → Prop
def upI (X : Cx) (ti : DTI) : TI := fun σ H R => ∃ E τ S, Wish X E H ∧ Rel X.w X.K τ S σ H ∧ ti E τ S fun G ds S' => ∀ J H', LeH H H' → Rep X.w X.K S' H' → Feeds X.w X.K H' J G ds → R J H'
structure DI (X : Cx) (tg iter : Expr) (ti : DTI) : Prop where
  mono : ∀ (E E' : DW) τ S (Q Q' : (DH → Prop) → List D → DH → Prop), (∀ C fs τ S, E C fs τ S → E' C fs τ S) → (∀ G d S', Q G d S' → Q' G d S') → ti E τ S Q → ti E' τ S Q'
  run : PI X tg iter (upI X ti)
theorem pI_imp {X : Cx} {tg e : Expr} {t t' : TI} (h : PI X tg e t) (k : ∀ σ H R, t' σ H R → t σ H R) : PI X tg e t' := ⟨fun pins s σ H R I q => h.run pins s σ H R I (k σ H R q)⟩
@[simp] def dLoop (g : DTG) (tb : DTS) (A : DEnds) (G : DH → Prop) : List D → DSt → DH → Prop
  | [], τ, S => G S ∧ A.nx τ S
  | d :: ds, τ, S => G S ∧ g d τ S fun τ1 S1 => tb { A with nx := dLoop g tb A G ds, ct := dLoop g tb A G ds, bk := A.nx } τ1 S1
@[simp] def dFor (ti : DTI) (g : DTG) (tb : DTS) : DTS := fun A τ S => ti A.xe τ S fun G ds S' => dLoop g tb A G ds τ S'
section
variable {X : Cx} {tg iter : Expr} {body : List Stmt} {ti : DTI} {g : DTG} {tb : DTS} {pos : Pos}
theorem DI.to (h : DI X tg iter ti) {E : DW} {τ : DSt} {S : DH} {σ : St} {H : Hp} {Q0 : (DH → Prop) → List D → DH → Prop} {R : It → Hp → Prop} (w : Wish X E H) (r : Rel X.w X.K τ S σ H) (q : ti E τ S Q0)
    (k : ∀ G ds S' J H', LeH H H' → Wish X E H' → Rel X.w X.K τ S' σ H' → Feeds X.w X.K H' J G ds → Q0 G ds S' → R J H') : upI X ti σ H R :=
  ⟨E, τ, S, w, r, h.mono _ _ _ _ _ _ (fun _ _ _ _ z => z) (fun G ds S' z J H' le rp f => k G ds S' J H' le (w.le le) (r.le le rp) f z) q⟩
theorem dLoop_mono (hg : DG X tg g) (hb : DSs X body tb) {A B : DEnds} (le : DEnds.Le A B) {G : DH → Prop} : ∀ (ds : List D) (τ : DSt) (S : DH), dLoop g tb A G ds τ S → dLoop g tb B G ds τ S
  | [], _, _, q => ⟨q.1, le.nx _ _ q.2⟩
  | d :: ds, τ, S, q => ⟨q.1, hg.mono _ _ _ _ _ (fun τ1 S1 z => hb.mono { A with nx := dLoop g tb A G ds, ct := dLoop g tb A G ds, bk := A.nx } { B with nx := dLoop g tb B G ds, ct := dLoop g tb B G ds, bk := B.nx } _ _ ⟨fun τ S w => dLoop_mono hg hb le ds τ S w, le.rt, le.nx, fun τ S w => dLoop_mono hg hb le ds τ S w, le.xe⟩ z) q.2⟩
theorem drop_at {α : Type} {ds : List α} {i : Nat} {d : α} (h : ds[i]? = some d) : ds.drop i = d :: ds.drop (i + 1) := by
  obtain ⟨hi, e⟩ := List.getElem?_eq_some_iff.mp h
  rw [List.drop_eq_getElem_cons hi, e]
theorem ds_for (hp : PassesOwn (model X.prog X.w) X.A X.env X.xe) (hc : X.calm = true) (hi : DI X tg iter ti) (hg : DG X tg g) (hb : DSs X body tb) (hs : ∀ x, foldedSetIterable iter X.env x = pure x := by intro _; rfl) :
    DS X (.For tg iter body [] pos) (dFor ti g tb) := by
  refine ⟨fun A B τ S le q => hi.mono _ _ _ _ _ _ le.xe (fun G ds S' z => dLoop_mono hg hb le ds τ S' z) q, pS_imp (ps_for hp hc hi.run hg.run hb.run hs) fun D σ H ⟨E, τ, S, w, r, q⟩ => ?_⟩
  refine hi.to w r q fun G ds S0 J H0 le0 w0 r0 f z => ?_
  refine ⟨fun i m σ' H' => m = ds.length - i ∧ i ≤ ds.length ∧ LeH H0 H' ∧ ∃ τ' S', Rel X.w X.K τ' S' σ' H' ∧ dLoop g tb (dnE X.w X.K H D E) G (ds.drop i) τ' S', ⟨ds.length, by omega, Nat.zero_le _, LeH.refl H0, τ, S0, r0, z⟩, ?_⟩
  rintro i m σ1 H1 ⟨rfl, hle, le1, τ1, S1, r1, q1⟩
  by_cases hlt : i < ds.length
  · have e0 : ds[i]? = some ds[i] := List.getElem?_eq_getElem hlt
    rw [drop_at e0] at q1
    obtain ⟨hG, q1⟩ := q1
    refine .inr ⟨f.go i S1 H1 le1 r1.rep hG hlt, fun σ2 H2 => LeH H0 H2 ∧ ∃ τ' S', Rel X.w X.K τ' S' σ2 H2 ∧ dLoop g tb (dnE X.w X.K H D E) G (ds.drop (i + 1)) τ' S', fun σ2 H2 ⟨l, y⟩ => ⟨ds.length - (i + 1), by omega, rfl, hlt, l, y⟩, fun x H2 hy => ?_⟩
    obtain ⟨le2, rp2, d, ed, rd⟩ := f.yld i S1 H1 x H2 le1 r1.rep hG hlt hy
    rw [e0] at ed
    cases ed
    refine hg.to (r1.le le2 rp2) rd q1 fun τ3 S3 σ3 H3 le3 r3 q3 => ?_
    have l03 := le1.trans (le2.trans le3)
    refine hb.to (w0.le l03) r3 q3 ⟨?_, ?_, ?_, ?_, fun _ _ _ _ y => y⟩
    · exact fun τ4 S4 y σ4 H4 le4 r4 => ⟨l03.trans le4, τ4, S4, r4, y⟩
    · exact fun d S4 y v H4 le4 r4 rd => y v H4 (le0.trans (l03.trans le4)) r4 rd
    · exact fun τ4 S4 y σ4 H4 le4 r4 => y σ4 H4 (le0.trans (l03.trans le4)) r4
    · exact fun τ4 S4 y σ4 H4 le4 r4 => ⟨l03.trans le4, τ4, S4, r4, y⟩
  · have e : i = ds.length := by omega
    subst e
    rw [List.drop_length] at q1
    exact .inl ⟨f.stop S1 H1 le1 r1.rep q1.1, q1.2 σ1 H1 (le0.trans le1) r1⟩
end
/-! ### comprehensions -/
@[simp] def wipeD (τ : DSt) : List Nat → DSt
  | [] => τ
  | v :: vs => (wipeD τ vs).set v none
theorem RSt.wipe {K : PySem.W.Frag} {H : Hp} {τ : DSt} {σ : St} (r : RSt K H τ σ) : ∀ vs : List Nat, RSt K H (wipeD τ vs) (L2.wipe σ vs)
  | [] => r
  | v :: vs => by
    have q := RSt.wipe r vs
    refine ⟨by simp only [wipeD, L2.wipe, List.length_set]; exact q.len, fun i d e => ?_⟩
    simp only [wipeD, L2.wipe, List.getElem?_set] at e ⊢
    by_cases z : v = i
    · rw [if_pos z] at e
      split at e <;> cases e
    · rw [if_neg z] at e
      rw [if_neg z]
      exact q.get i d e
@[simp] def dLcL (g : DTG) (tt : DTT) (te : DTE) (E : DW) (τ : DSt) (G : DH → Prop) (p : Addr) (Q : DH → Prop) : List D → DH → Prop
  | [], S => G S ∧ Q S
  | d :: ds, S => G S ∧ g d τ S fun τ1 S1 => tt E τ1 S1 fun b S2 => if b = true then te E τ1 S2 fun y S3 => (match S3 p with | some (.lst acc) => acc.length < sizeLine ∧ dLcL g tt te E τ G p Q ds (upo S3 p (.lst (acc ++ [y]))) | _ => False) else dLcL g tt te E τ G p Q ds S2
@[simp] def dLc (ti : DTI) (g : DTG) (tt : DTT) (te : DTE) (vs : List Nat) : DTE := fun E τ S Q => ti E τ S fun G ds S' => newO S' (.lst []) fun p S1 => dLcL g tt te DW0 (wipeD τ vs) G p (Q (.ref p)) ds S1
structure DTs (X : Cx) (ifs : List Expr) (t : DTT) : Prop where
  mono : ∀ (E E' : DW) τ S (Q Q' : Bool → DH → Prop), (∀ C fs τ S, E C fs τ S → E' C fs τ S) → (∀ d S', Q d S' → Q' d S') → t E τ S Q → t E' τ S Q'
  run : PTs X ifs (upT X t)
@[simp] def dYes : DTT := fun _ _ S Q => Q true S
section
variable {X : Cx} {c : Expr} {t : DTT}
theorem pTs_imp {ifs : List Expr} {t t' : TT} (h : PTs X ifs t) (k : ∀ σ H Q, t' σ H Q → t σ H Q) : PTs X ifs t' := ⟨fun pins s σ H Q I q => h.run pins s σ H Q I (k σ H Q q)⟩
theorem dts_nil : DTs X [] dYes := ⟨fun _ _ _ _ _ _ _ k q => k _ _ q, pTs_imp pts_nil fun σ H Q ⟨E, τ, S, w, r, q⟩ => q H (LeH.refl H) r.rep⟩
end
def upT0 (w : World) (K : PySem.W.Frag) (t : DTT) : TT := fun σ H Q => ∃ τ S, Rel w K τ S σ H ∧ t DW0 τ S fun b S' => ∀ H', LeH H H' → Rep w K S' H' → Q b H'
def upE0 (w : World) (K : PySem.W.Frag) (t : DTE) : TE := fun σ H Q => ∃ τ S, Rel w K τ S σ H ∧ t DW0 τ S fun d S' => ∀ v H', LeH H H' → Rep w K S' H' → RD K H' d v → Q v H'
theorem DTs.zero {X : Cx} {ifs : List Expr} {t : DTT} (h : DTs X ifs t) : PTs X ifs (upT0 X.w X.K t) := pTs_imp h.run fun σ H Q ⟨τ, S, r, q⟩ => ⟨DW0, τ, S, wish0, r, q⟩
theorem DE.zero {X : Cx} {e : Expr} {t : DTE} (h : DE X e t) : PE X e (upE0 X.w X.K t) := pE_imp h.run fun σ H Q ⟨τ, S, r, q⟩ => ⟨DW0, τ, S, wish0, r, q⟩
theorem wipe_get (σ : L2.St) (j : Nat) : ∀ vs : List Nat, (L2.wipe σ vs)[j]? = if j ∈ vs then σ[j]?.map (fun _ => none) else σ[j]?
  | [] => by simp [L2.wipe]
  | v :: vs => by
    rw [L2.wipe, List.getElem?_set, L2.wipe_length, wipe_get σ j vs]
    by_cases e : v = j
    · subst e
      by_cases l : v < σ.length
      · simp [l]
      · simp [l]
    · have e' : ¬ j = v := fun z => e z.symm
      rw [if_neg e]
      by_cases m : j ∈ vs
      · simp [m]
      · simp [m, e']
theorem wipe_set {σ : L2.St} {i : Nat} {x : Option V} {vs : List Nat} (h : i ∈ vs) : L2.wipe (σ.set i x) vs = L2.wipe σ vs := by
  refine List.ext_getElem? fun j => ?_
  rw [wipe_get, wipe_get, List.getElem?_set]
  by_cases e : i = j
  · subst e
    rw [if_pos h, if_pos h, if_pos rfl]
    by_cases l : i < σ.length
    · simp [l]
    · simp [l]
  · rw [if_neg e]
theorem wipe_wipe (σ : L2.St) (vs : List Nat) : L2.wipe (L2.wipe σ vs) vs = L2.wipe σ vs := by
  refine List.ext_getElem? fun j => ?_
  rw [wipe_get, wipe_get]
  by_cases m : j ∈ vs
  · rw [if_pos m, if_pos m]
    cases σ[j]? <;> rfl
  · rw [if_neg m]
/-- a target that stores in vs alone -/
def upGw (w : World) (K : PySem.W.Frag) (vs : List Nat) (t : DTG) : TG := fun v σ H Q => ∃ d τ S, Rel w K τ S σ H ∧ RD K H d v ∧ t d τ S fun τ' S' => ∀ σ' H', LeH H H' → Rel w K τ' S' σ' H' → L2.wipe σ' vs = L2.wipe σ vs → Q σ' H'
def upGsw (w : World) (K : PySem.W.Frag) (vs : List Nat) (t : DTGs) : TGs := fun us σ H Q => ∃ ds τ S, Rel w K τ S σ H ∧ RDs K H ds us ∧ t ds τ S fun τ' S' => ∀ σ' H', LeH H H' → Rel w K τ' S' σ' H' → L2.wipe σ' vs = L2.wipe σ vs → Q σ' H'
structure DGw (X : Cx) (vs : List Nat) (tg : Expr) (t : DTG) : Prop where
  mono : ∀ d τ S (Q Q' : DSt → DH → Prop), (∀ τ S, Q τ S → Q' τ S) → t d τ S Q → t d τ S Q'
  run : PG X tg (upGw X.w X.K vs t)
structure DGsw (X : Cx) (vs : List Nat) (tg : List Expr) (t : DTGs) : Prop where
  mono : ∀ d τ S (Q Q' : DSt → DH → Prop), (∀ τ S, Q τ S → Q' τ S) → t d τ S Q → t d τ S Q'
  run : PGs X tg (upGsw X.w X.K vs t)
section
variable {X : Cx} {tg e : Expr} {tgs : List Expr} {t : DTG} {ts : DTGs} {te : DTE} {pos : Pos} {vs : List Nat}
theorem dw_name {i : Nat} {x : Str} (hN : X.N.Nodup) (hi : X.N[i]? = some x) (hx : Loc X.env.scope x) (hv : i ∈ vs) (hf : X.fn x = true ∨ X.env.scope.names.lookup x = some .local := by first | exact .inl rfl | exact .inr rfl | assumption) : DGw X vs (.Name x pos) (dGN i) :=
  ⟨fun _ _ _ _ _ k q => k _ _ q, pG_imp (pg_name hN hi hx hf) fun v σ H Q ⟨d, τ, S, r, rd, q⟩ => q _ _ (LeH.refl H) ⟨r.st.set i rd, r.rep⟩ (wipe_set hv)⟩
end
/-- the block's parts, at any block -/
structure Blk (X : Cx) (scope : Scope) (vs : List Nat) (elt tg : Expr) (ifs : List Expr) (g : DTG) (tt : DTT) (te : DTE) : Prop where
  hg : ∀ (s : Shared) (H : Hp) (C : Addr) (cl : List (Str × Addr)) (fp : List Addr), DGw (X.blk s H scope (compEnvC scope cl C X.env) fp) vs tg g
  ht : ∀ (s : Shared) (H : Hp) (C : Addr) (cl : List (Str × Addr)) (fp : List Addr), DTs (X.blk s H scope (compEnvC scope cl C X.env) fp) ifs tt
  he : ∀ (s : Shared) (H : Hp) (C : Addr) (cl : List (Str × Addr)) (fp : List Addr), DE (X.blk s H scope (compEnvC scope cl C X.env) fp) elt te
section
variable {X : Cx} {elt tg iter : Expr} {ifs : List Expr} {scope : Scope} {own : List (Str × Nat)} {pos spos py : Pos} {ti : DTI} {g : DTG} {tt : DTT} {te : DTE}
theorem dLcL_mono {X' : Cx} {vs : List Nat} (hg : DGw X' vs tg g) (ht : DTs X' ifs tt) (he : DE X' elt te) {E : DW} {τ : DSt} {G : DH → Prop} {p : Addr} {Q Q' : DH → Prop} (k : ∀ S, Q S → Q' S) : ∀ (ds : List D) (S : DH), dLcL g tt te E τ G p Q ds S → dLcL g tt te E τ G p Q' ds S
  | [], _, q => ⟨q.1, k _ q.2⟩
  | d :: ds, S, q => ⟨q.1, hg.mono _ _ _ _ _ (fun τ1 S1 z => ht.mono _ _ _ _ _ _ (fun _ _ _ _ y => y) (fun b S2 z => by
      cases b with
      | true =>
        refine he.mono _ _ _ _ _ _ (fun _ _ _ _ y => y) (fun y S3 z => ?_) z
        split at z
        · exact ⟨z.1, dLcL_mono hg ht he k ds _ z.2⟩
        · exact z
      | false => exact dLcL_mono hg ht he k ds _ z) z) q.2⟩
theorem dLc_mono {vs : List Nat} (hi : DI X tg iter ti) (B : Blk X scope vs elt tg ifs g tt te) (E E' : DW) (τ : DSt) (S : DH) (Q Q' : DK) (he : ∀ C fs τ S, E C fs τ S → E' C fs τ S) (k : ∀ d S', Q d S' → Q' d S') (q : dLc ti g tt te vs E τ S Q) : dLc ti g tt te vs E' τ S Q' :=
  hi.mono _ _ _ _ _ _ he (fun G ds S' z p hp => dLcL_mono (B.hg X.s_0 (fun _ => none) 0 [] []) (B.ht X.s_0 (fun _ => none) 0 [] []) (B.he X.s_0 (fun _ => none) 0 [] []) (fun S h => k _ _ h) ds _ (z p hp)) q
theorem dLc_up {vs : List Nat} (hi : DI X tg iter ti) (B : Blk X scope vs elt tg ifs g tt te) {σ : L2.St} {H : Hp} {Q : VK} (h : upE X (dLc ti g tt te vs) σ H Q) : tLc (upI X ti) (upGw X.w X.K vs g) (upT0 X.w X.K tt) (upE0 X.w X.K te) vs σ H Q := by
  obtain ⟨E, τ, S, w, r, q⟩ := h
  refine hi.to w r q fun G ds S0 J H0 le0 w0 r0 f z => fun p hp => ?_
  have z1 := z p (r0.rep.free hp)
  refine ⟨fun i m H' => m = ds.length - i ∧ i ≤ ds.length ∧ LeH H0 H' ∧ ∃ S', Rep X.w X.K S' H' ∧ dLcL g tt te DW0 (wipeD τ vs) G p (fun S => ∀ v H', LeH H H' → Rep X.w X.K S H' → RD X.K H' (.ref p) v → Q v H') (ds.drop i) S', ⟨ds.length, by omega, Nat.zero_le _, LeH.new hp, _, r0.rep.new hp (o := .lst []) ⟨[], upd_same, rfl⟩, z1⟩, ?_⟩
  rintro i m H1 ⟨rfl, hle, le1, S1, r1, q1⟩
  have st1 : RSt X.K H1 (wipeD τ vs) (L2.wipe σ vs) := (r0.st.wipe vs).le le1
  by_cases hlt : i < ds.length
  · have e0 : ds[i]? = some ds[i] := List.getElem?_eq_getElem hlt
    rw [drop_at e0] at q1
    obtain ⟨hG, q1⟩ := q1
    have again : ∀ S' H', LeH H1 H' → Rep X.w X.K S' H' → dLcL g tt te DW0 (wipeD τ vs) G p (fun S => ∀ v H', LeH H H' → Rep X.w X.K S H' → RD X.K H' (.ref p) v → Q v H') (ds.drop (i + 1)) S' →
        LeH H0 H' ∧ ∃ S', Rep X.w X.K S' H' ∧ dLcL g tt te DW0 (wipeD τ vs) G p (fun S => ∀ v H', LeH H H' → Rep X.w X.K S H' → RD X.K H' (.ref p) v → Q v H') (ds.drop (i + 1)) S' := fun S' H' le r' y => ⟨le1.trans le, S', r', y⟩
    refine .inr ⟨f.go i S1 H1 le1 r1 hG hlt, _, fun H2 y => ⟨ds.length - (i + 1), by omega, rfl, hlt, y⟩, fun x H2 hy => ?_⟩
    obtain ⟨le2, rp2, d, ed, rd⟩ := f.yld i S1 H1 x H2 le1 r1 hG hlt hy
    rw [e0] at ed
    cases ed
    refine ⟨ds[i], wipeD τ vs, S1, ⟨st1.le le2, rp2⟩, rd, (B.hg X.s_0 (fun _ => none) 0 [] []).mono _ _ _ _ _ (fun τ3 S3 q3 σ3 H3 le3 r3 hw => ?_) q1⟩
    refine ⟨hw.trans (wipe_wipe σ vs), τ3, S3, r3, (B.ht X.s_0 (fun _ => none) 0 [] []).mono _ _ _ _ _ _ (fun _ _ _ _ y => y) (fun b S4 q4 H4 le4 r4 => ?_) q3⟩
    cases b with
    | false => exact again S4 H4 (le2.trans (le3.trans le4)) r4 q4
    | true =>
      refine ⟨τ3, S4, ⟨r3.st.le le4, r4⟩, (B.he X.s_0 (fun _ => none) 0 [] []).mono _ _ _ _ _ _ (fun _ _ _ _ y => y) (fun y S5 q5 v H5 le5 r5 rv => ?_) q4⟩
      split at q5
      · rename_i acc ea
        obtain ⟨xs, hx, rxs⟩ : ∃ xs, H5 p = some (.lst xs) ∧ RDs X.K H5 acc xs := r5 p _ ea
        have le6 : LeH H5 (upd H5 p (.lst (xs ++ [v]))) := LeH.put hx trivial
        exact ⟨xs, hx, by rw [← rxs.length]; exact q5.1, again _ _ (le2.trans (le3.trans (le4.trans (le5.trans le6)))) (r5.put hx trivial (o := .lst (acc ++ [y])) ⟨_, upd_same, (rxs.snoc rv).le le6⟩) q5.2⟩
      · exact q5.elim
  · have e : i = ds.length := by omega
    subst e
    rw [List.drop_length] at q1
    exact .inl ⟨f.stop S1 H1 le1 r1 q1.1, q1.2 _ H1 (le0.trans le1) r1 rfl⟩
theorem de_lc (hc : X.calm = true) (hN : X.N.Nodup) (hi : DI X tg iter ti) (ok : BlkOk X.N X.env.scope scope own) (B : Blk X scope (own.map (·.2)) elt tg ifs g tt te) (hs : ∀ x, foldedSetIterable iter X.env x = pure x := by intro _; rfl) :
    DE X (.ListComp elt [⟨tg, iter, ifs, 0⟩] scope pos) (dLc ti g tt te (own.map (·.2))) :=
  ⟨dLc_mono hi B, pE_imp (pe_lc (g := upGw X.w X.K (own.map (·.2)) g) (tt := upT0 X.w X.K tt) (te := upE0 X.w X.K te) hc hN hi.run ok (fun s H C cl fp => (B.hg s H C cl fp).run) (fun s H C cl fp => (B.ht s H C cl fp).zero) (fun s H C cl fp => (B.he s H C cl fp).zero) hs) fun σ H Q h => dLc_up hi B h⟩
theorem ds_setLc {i : Nat} {y : Str} (hc : X.calm = true) (hN : X.N.Nodup) (hy : X.N[i]? = some y) (hyl : X.env.scope.names.lookup y = some .local)
    (hsw : swapsWith (.ListComp elt [⟨tg, iter, ifs, 0⟩] scope pos) (some (.Name y py)) spos.line X.env = pure true) (hi : DI X tg iter ti) (ok : BlkOk X.N X.env.scope scope own) (B : Blk X scope (own.map (·.2)) elt tg ifs g tt te)
    (hs : ∀ x, foldedSetIterable iter X.env x = pure x := by intro _; rfl) : DS X (.Assign [.Name y py] (.ListComp elt [⟨tg, iter, ifs, 0⟩] scope pos) spos) (dAsg (dLc ti g tt te (own.map (·.2))) (dGN i)) := by
  refine ⟨fun A B' τ S le q => dLc_mono hi B _ _ _ _ _ _ le.xe (fun _ _ z => le.nx _ _ z) q, pS_imp (ps_setLc (g := upGw X.w X.K (own.map (·.2)) g) (tt := upT0 X.w X.K tt) (te := upE0 X.w X.K te) hc hN hy hyl hsw hi.run ok (fun s H C cl fp => (B.hg s H C cl fp).run) (fun s H C cl fp => (B.ht s H C cl fp).zero) (fun s H C cl fp => (B.he s H C cl fp).zero) hs) fun D σ H ⟨E, τ, S, w, r, q⟩ => ?_⟩
  refine dLc_up hi B ⟨E, τ, S, w, r, dLc_mono hi B _ _ _ _ _ _ (fun _ _ _ _ z => z) (fun d S' z v H' le rp rd => ?_) q⟩
  exact z _ H' le ⟨(r.st.le le).set i rd, rp⟩
end
end Dt
set_option maxRecDepth 100000
set_option maxHeartbeats 4000000
/-! Dat3: defs and their promises, calls, instances. -/
namespace Dt
open PySem PySem.Spec L2

abbrev DXK := Addr → List (Str × D) → DH → Prop
abbrev DSp := List D → DH → DK → DXK → Prop
def lQ (w : World) (K : PySem.W.Frag) (H : Hp) (Q : VK) : DK := fun d S' => ∀ v H', LeH H H' → Rep w K S' H' → RD K H' d v → Q v H'
def lX (w : World) (K : PySem.W.Frag) (H : Hp) (E : XK) : DXK := fun C fs S' => ∀ dd ws H', LeH H H' → Rep w K S' H' → H' dd = some (.xd ws) → RKs K H' fs ws → S' dd = none → E (.ref C) (some dd) H'
def upSp (w : World) (K : PySem.W.Frag) (sp : DSp) : Sp := fun vs H Q E => ∃ ds S, Rep w K S H ∧ RDs K H ds vs ∧ sp ds S (lQ w K H Q) (lX w K H E)
structure DFn (P : Program) (w : World) (K : PySem.W.Frag) (mg : Str → Option Value) (base : Heap) (k : Nat) (f : Addr) (fd : FuncData) (ps : List Str) (sp : DSp) : Prop where
  mono : ∀ ds S (Q Q' : DK) (E E' : DXK), (∀ d S', Q d S' → Q' d S') → (∀ C fs S', E C fs S' → E' C fs S') → sp ds S Q E → sp ds S Q' E'
  len : ∀ ds S Q E, sp ds S Q E → ds.length = ps.length
  run : ∀ (A : Around) (outer : List Env) (s : Shared) (H : Hp) (args : Args) (us : List Value) (vs : List V) (Q : VK) (E : XK), Room k A → A.guards = some [] → Env0 P w K mg base A outer s H → BindsTo s fd args (ps.zip us) → Vals vs us →
    upSp w K sp vs H Q E → codeAny (model P w) A (.call (.ref f) args) (CR (L2.CX P w) outer P w H s Q E) s
theorem DFn.more {P : Program} {w : World} {K : PySem.W.Frag} {mg : Str → Option Value} {base : Heap} {j k : Nat} {f : Addr} {fd : FuncData} {ps : List Str} {sp : DSp} (F : DFn P w K mg base j f fd ps sp) (h : j ≤ k) : DFn P w K mg base k f fd ps sp :=
  ⟨F.mono, F.len, fun A outer s H args us vs Q E hr => F.run A outer s H args us vs Q E (hr.mono h)⟩

section
variable {X : Cx} {k : Nat} {f C : Addr} {fd : FuncData} {ps : List Str} {sp : DSp} {x m : Str} {p pos apos : Pos} {e o : Expr} {es : List Expr} {ta : DTE} {t : DTA}
theorem run_dfn {pins : List (Addr × Obj)} {s : Shared} {us : List Value} {vs : List V} {ds : List D} {E : DW} {τ : DSt} {S : DH} {σ : L2.St} {H : Hp} {Q0 : DK} {Q : VK} (F : DFn X.prog X.w X.K X.mg X.base k f fd ps sp) (hr : Room k X.A) (gu : X.A.guards = some []) (hb : Binds X.K fd ps [])
    (I : Inv X pins σ H s) (w : Wish X E H) (rl : Rel X.w X.K τ S σ H) (r : Vals vs us) (rd : RDs X.K H ds vs) (h : sp ds S Q0 (fun C fs S' => E C fs τ S')) (kq : ∀ d S' v H', LeH H H' → Rep X.w X.K S' H' → RD X.K H' d v → Q0 d S' → Q v H') :
    wpAny (model X.prog X.w) X.A (call (.ref f) us) (EP X pins σ Q) X.xe s := by
  have hl : (us ++ []).length = ps.length := by rw [List.append_nil, ← r.length, ← rd.length]; exact F.len _ _ _ _ h
  have hbd := hb s us I.kIn hl
  rw [List.append_nil] at hbd
  refine wpAny_call (codeAny_mono (F.run X.A X.stack s H ⟨us, []⟩ us vs Q (fun cls d H' => upW X.w X.K E H cls d σ H') hr gu I.env0 hbd r ⟨ds, S, rl.rep, rd, F.mono _ _ _ _ _ _ (fun d S' q v H' le rp rv => kq d S' v H' le rp rv q)
    (fun C fs S' q dd ws H' le rp hx rk hn => ⟨C, fs, τ, S', dd, ws, rfl, rfl, le, rl.le le rp, hx, rk, hn, q⟩) h⟩) fun r s' hq => ?_)
  cases r with
  | error e => exact w e s' (XE.of_call I (fun _ _ _ h => h) hq)
  | ok fl =>
    cases fl with
    | ret u => exact I.after hq
    | next => exact False.elim hq
    | brk => exact False.elim hq
    | cont => exact False.elim hq
@[simp] def dCall (sp : DSp) (t : DTA) : DTE := fun E τ S Q => t E τ S fun ds S1 => sp ds S1 Q fun C fs S' => E C fs τ S'
theorem de_call (F : DFn X.prog X.w X.K X.mg X.base k f fd ps sp) (hr : Room k X.A) (gu : X.A.guards = some []) (hg : Gl X x) (hm : X.mg x = some (.ref f)) (hk : PySem.W.keepIn X.K (.ref f) = true) (hb : Binds X.K fd ps []) (ha : DA X (e :: es) t)
    (hdb : (x == ("__debug__" : Str)) = false := by decide) (he : starEach (e :: es) X.env = (false, eval e X.env) :: starEach es X.env := by rfl) (hpl : (backTo pos (starEach es X.env)).any (·.1) = false := by rfl) :
    DE X (.Call (.Name x p) (e :: es) [] pos) (dCall sp t) := by
  refine ⟨fun E E' τ S Q Q' hE kq q => ha.mono _ _ _ _ _ _ hE (fun ds S1 z => F.mono _ _ _ _ _ _ kq (fun C fs S' y => hE _ _ _ _ y) z) q, ⟨fun pins s σ H Q I ⟨E, τ, S, w, r, q⟩ => ?_⟩⟩
  refine PySem.wpAny_Call_Name_kw (ld_glob I hg hm ?_ hdb)
  refine PySem.W.callWith_K (h₀ := X.base) I.ok.mod.kin hk (thn (ha.run.run pos pins s σ H _ I (ha.to w r q fun ds S1 vs H1 le1 w1 r1 rd1 z => (⟨LeH.refl H1, le1, w1, r1, rd1, z⟩ : LeH H1 H1 ∧ LeH H H1 ∧ Wish X E H1 ∧ Rel X.w X.K τ S1 σ H1 ∧ RDs X.K H1 ds vs ∧ _) |> fun a => (⟨ds, S1, a⟩ : ∃ ds S1, LeH H1 H1 ∧ LeH H H1 ∧ Wish X E H1 ∧ Rel X.w X.K τ S1 σ H1 ∧ RDs X.K H1 ds vs ∧ sp ds S1 (fun d S' => ∀ v H', LeH H H' → Rep X.w X.K S' H' → RD X.K H' d v → Q v H') fun C fs S' => E C fs τ S'))) fun us s1 ⟨vs, H1, I1, rv, ds, S1, _, le1, w1, r1, rd1, z⟩ => ⟨I1.kIn, ?_⟩) he hpl
  exact run_dfn F hr gu hb I1 w1 r1 rv rd1 z fun d S' v H' le rp rd q2 => q2 v H' (le1.trans le) rp rd
/-! ### fields of instances -/
theorem RKs.lookup {K : PySem.W.Frag} {H : Hp} : ∀ {fs : List (Str × D)} {ws : List (Str × V)} (f : Str), RKs K H fs ws → match fs.lookup f, ws.lookup f with | some d, some v => RD K H d v | none, none => True | _, _ => False
  | [], _, f, h => by cases h; trivial
  | (j, d) :: r, _, f, h => by
    obtain ⟨v, s, rfl, h1, h2⟩ := h
    simp only [List.lookup_cons]
    cases e : f == j with
    | true => exact h1
    | false => exact RKs.lookup f h2
theorem RKs.lookup_some {K : PySem.W.Frag} {H : Hp} {fs : List (Str × D)} {ws : List (Str × V)} {f : Str} {d : D} (h : RKs K H fs ws) (e : fs.lookup f = some d) : ∃ v, ws.lookup f = some v ∧ RD K H d v := by
  have := h.lookup f
  rw [e] at this
  cases q : ws.lookup f with
  | none => rw [q] at this; exact this.elim
  | some v => rw [q] at this; exact ⟨v, rfl, this⟩
theorem RKs.lookup_none {K : PySem.W.Frag} {H : Hp} {fs : List (Str × D)} {ws : List (Str × V)} {f : Str} (h : RKs K H fs ws) (e : fs.lookup f = none) : ws.lookup f = none := by
  have := h.lookup f
  rw [e] at this
  cases q : ws.lookup f with
  | none => rfl
  | some v => rw [q] at this; exact this.elim
/-- o.m(..) -/
@[simp] def dMeth (C : Addr) (m : Str) (sp : DSp) (ta : DTE) (t : DTA) : DTE := fun E τ S Q => ta E τ S fun d S1 => match d with
  | .ref a => (match S1 a with | some (.ins C' fs) => C' = C ∧ fs.lookup m = none ∧ t E τ S1 fun ds S2 => sp (.ref a :: ds) S2 Q fun C fs S' => E C fs τ S' | _ => False)
  | _ => False
theorem dMeth_mono {t : DTA} (F : DFn X.prog X.w X.K X.mg X.base k f fd ps sp) (he : DE X o ta) (ma : ∀ (E E' : DW) τ S (Q Q' : List D → DH → Prop), (∀ C fs τ S, E C fs τ S → E' C fs τ S) → (∀ d S', Q d S' → Q' d S') → t E τ S Q → t E' τ S Q')
    (E E' : DW) (τ : DSt) (S : DH) (Q Q' : DK) (hE : ∀ C fs τ S, E C fs τ S → E' C fs τ S) (kq : ∀ d S', Q d S' → Q' d S') (q : dMeth C m sp ta t E τ S Q) : dMeth C m sp ta t E' τ S Q' :=
  he.mono _ _ _ _ _ _ hE (fun d S1 z => by
    cases d with
    | ref a =>
      revert z
      show (match S1 a with | some (.ins C' fs) => _ | _ => False) → (match S1 a with | some (.ins C' fs) => _ | _ => False)
      split
      · exact fun z => ⟨z.1, z.2.1, ma _ _ _ _ _ _ hE (fun ds S2 y => F.mono _ _ _ _ _ _ kq (fun C fs S' u => hE _ _ _ _ u) y) z.2.2⟩
      · exact fun z => z
    | _ => exact z) q
theorem de_meth {pl : Sem Bool} (he : DE X o ta) (c : Cls X.K C) (hm : Meth X.K C m f) (F : DFn X.prog X.w X.K X.mg X.base k f fd ps sp) (hr : Room k X.A) (gu : X.A.guards = some []) (hb : Binds X.K fd ps []) (ha : DA X (e :: es) t)
    (hst : starEach (e :: es) X.env = (false, eval e X.env) :: starEach es X.env := by rfl) (hpl : (backTo pos (starEach es X.env)).any (·.1) = false := by rfl)
    (ht : eval (.Call (.Attribute o m apos) (e :: es) [] pos) X.env = (do let ov ← eval o X.env; standAt apos.atName; let (f, first) ← holding [ov] (getMethod ov m pl); callWith pos f first (backTo pos (starEach (e :: es) X.env)) (backToKw pos (keywordEach [] X.env))) := by rfl) :
    DE X (.Call (.Attribute o m apos) (e :: es) [] pos) (dMeth C m sp ta t) := by
  refine ⟨dMeth_mono F he ha.mono, ⟨fun pins s σ H Q I ⟨E, τ, S, w, r, q⟩ => ?_⟩⟩
  refine PySem.W.methodCall_KW (pl := pl) (thn (he.run.run pins s σ H _ I (he.to w r q fun d S1 v H1 le1 w1 r1 rd1 z => (⟨d, S1, le1, w1, r1, rd1, z⟩ : ∃ d S1, LeH H H1 ∧ Wish X E H1 ∧ Rel X.w X.K τ S1 σ H1 ∧ RD X.K H1 d v ∧ match d with
    | .ref a => (match S1 a with | some (.ins C' fs) => C' = C ∧ fs.lookup m = none ∧ t E τ S1 fun ds S2 => sp (.ref a :: ds) S2 (fun d S' => ∀ v H', LeH H H' → Rep X.w X.K S' H' → RD X.K H' d v → Q v H') fun C fs S' => E C fs τ S' | _ => False)
    | _ => False))) fun u s1 ⟨v, H1, I1, rv, d, S1, le1, w1, r1, rd1, z⟩ => ?_) ht
  cases d with
  | ref a =>
    obtain rfl : v = V.ref a := rd1
    obtain rfl : u = Value.ref a := rv
    revert z
    show (match S1 a with | some (.ins C' fs) => _ | _ => False) → _
    split
    · rename_i C' fs ea
      rintro ⟨rfl, hl, z⟩
      obtain ⟨dx, ws, eh, rk⟩ : ∃ dx ws, H1 a = some (.ins C' dx ws) ∧ RKs X.K H1 fs ws := r1.rep a _ ea
      refine getmeth_ok I1 eh c hm (rk.lookup_none hl) ?_
      refine PySem.W.callWith_K (first := [.ref a]) (h₀ := X.base) I.ok.mod.kin hm.kp (thn (ha.run.run pos pins s1 σ H1 _ I1 (ha.to w1 r1 z fun ds S2 vs H2 le2 w2 r2 rd2 y => (⟨ds, S2, le2, w2, r2, rd2, y⟩ : ∃ ds S2, LeH H1 H2 ∧ Wish X E H2 ∧ Rel X.w X.K τ S2 σ H2 ∧ RDs X.K H2 ds vs ∧
        sp (.ref a :: ds) S2 (fun d S' => ∀ v H', LeH H H' → Rep X.w X.K S' H' → RD X.K H' d v → Q v H') fun C fs S' => E C fs τ S'))) fun us s2 ⟨vs, H2, I2, rv2, ds, S2, le2, w2, r2, rd2, y⟩ => ⟨I2.kIn, ?_⟩) hst hpl
      exact run_dfn (us := .ref a :: us) (vs := .ref a :: vs) F hr gu hb I2 w2 r2 (.cons rfl rv2) (RDs.cons (d := .ref a) rfl rd2) y fun d S' v H' le rp rd q2 => q2 v H' (le1.trans (le2.trans le)) rp rd
    · exact fun z => z.elim
  | _ => exact z.elim
theorem de_meth0 {pl : Sem Bool} (he : DE X o ta) (c : Cls X.K C) (hm : Meth X.K C m f) (F : DFn X.prog X.w X.K X.mg X.base k f fd ps sp) (hr : Room k X.A) (gu : X.A.guards = some []) (hb : Binds X.K fd ps [])
    (ht : eval (.Call (.Attribute o m apos) [] [] pos) X.env = (do let ov ← eval o X.env; standAt apos.atName; let (f, first) ← holding [ov] (getMethod ov m pl); callWith pos f first (backTo pos (starEach [] X.env)) (backToKw pos (keywordEach [] X.env))) := by rfl) :
    DE X (.Call (.Attribute o m apos) [] [] pos) (dMeth C m sp ta dNil) := by
  refine ⟨dMeth_mono F he (fun _ _ _ _ _ _ _ k q => k _ _ q), ⟨fun pins s σ H Q I ⟨E, τ, S, w, r, q⟩ => ?_⟩⟩
  refine PySem.W.methodCall_KW (pl := pl) (thn (he.run.run pins s σ H _ I (he.to w r q fun d S1 v H1 le1 w1 r1 rd1 z => (⟨d, S1, le1, w1, r1, rd1, z⟩ : ∃ d S1, LeH H H1 ∧ Wish X E H1 ∧ Rel X.w X.K τ S1 σ H1 ∧ RD X.K H1 d v ∧ match d with
    | .ref a => (match S1 a with | some (.ins C' fs) => C' = C ∧ fs.lookup m = none ∧ sp [.ref a] S1 (fun d S' => ∀ v H', LeH H H' → Rep X.w X.K S' H' → RD X.K H' d v → Q v H') fun C fs S' => E C fs τ S' | _ => False)
    | _ => False))) fun u s1 ⟨v, H1, I1, rv, d, S1, le1, w1, r1, rd1, z⟩ => ?_) ht
  cases d with
  | ref a =>
    obtain rfl : v = V.ref a := rd1
    obtain rfl : u = Value.ref a := rv
    revert z
    show (match S1 a with | some (.ins C' fs) => _ | _ => False) → _
    split
    · rename_i C' fs ea
      rintro ⟨rfl, hl, z⟩
      obtain ⟨dx, ws, eh, rk⟩ : ∃ dx ws, H1 a = some (.ins C' dx ws) ∧ RKs X.K H1 fs ws := r1.rep a _ ea
      refine getmeth_ok I1 eh c hm (rk.lookup_none hl) ?_
      exact PySem.W.callWith_K0 (first := [.ref a]) I1.kIn hm.kp (run_dfn (us := [.ref a]) (vs := [.ref a]) F hr gu hb I1 w1 r1 (.cons rfl .nil) (RDs.cons (d := .ref a) rfl .nil) z fun d S' v H' le rp rd q2 => q2 v H' (le1.trans le) rp rd)
    · exact fun z => z.elim
  | _ => exact z.elim
end

/-! ### a def by its body -/
def dstart (N : List Str) (ds : List D) : DSt := ds.map some ++ List.replicate (N.length - ds.length) none
theorem dstart_rel {K : PySem.W.Frag} {H : Hp} {N : List Str} {ds : List D} {vs : List V} (r : RDs K H ds vs) : RSt K H (dstart N ds) (L2.start N vs) := by
  refine ⟨by simp [dstart, L2.start, r.length], fun i d e => ?_⟩
  unfold dstart at e
  unfold L2.start
  by_cases l : i < ds.length
  · rw [List.getElem?_append_left (by simpa using l), List.getElem?_map] at e
    rw [List.getElem?_append_left (by simpa [← r.length] using l), List.getElem?_map]
    cases q : ds[i]? with
    | none => rw [q] at e; cases e
    | some d' =>
      rw [q] at e
      cases e
      obtain ⟨v, h1, h2⟩ := r.get q
      exact ⟨v, by rw [h1]; rfl, h2⟩
  · rw [List.getElem?_append_right (by simpa using l), List.getElem?_replicate] at e
    split at e <;> cases e
theorem guards_deeper {A : Around} {env : Env} (h : A.guards = some []) : (A.deeper env).guards = some [] := by
  first | exact h | (simp [Around.deeper, h])
end Dt
set_option maxRecDepth 100000
set_option maxHeartbeats 4000000
/-! DatU: lists that are written no more are values; what is no more needed is let go. -/
namespace Dt
open PySem PySem.Spec L2

def delo (S : DH) (a : Addr) : DH := fun b => if b = a then none else S b
@[simp] theorem delo_upo {S : DH} {p : Addr} {o : Ob} : delo (upo S p o) p = delo S p := by
  funext b
  unfold delo upo
  split <;> rfl
theorem delo_none {S : DH} {p : Addr} (h : S p = none) : delo S p = S := by
  funext b
  unfold delo
  split
  · rename_i e
    rw [e, h]
  · rfl
/-- a data heap that tells less -/
def Sub (S' S : DH) : Prop := ∀ b o, S' b = some o → S b = some o
theorem Sub.refl (S : DH) : Sub S S := fun _ _ h => h
theorem Sub.trans {S1 S2 S3 : DH} (a : Sub S1 S2) (b : Sub S2 S3) : Sub S1 S3 := fun x o h => b x o (a x o h)
theorem Sub.delo (S : DH) (a : Addr) : Sub (delo S a) S := fun b o h => by
  unfold Dt.delo at h
  split at h
  · cases h
  · exact h
theorem Sub.new {S : DH} {p : Addr} {o : Ob} (h : S p = none) : Sub S (upo S p o) := fun b u e => by
  rw [upo_ne (fun z => by subst z; rw [h] at e; cases e)]
  exact e
section
variable {w : World} {K : PySem.W.Frag} {S S' : DH} {H H' : Hp}
theorem Rep.sub (r : Rep w K S H) (h : Sub S' S) : Rep w K S' H := fun a o e => r a o (h a o e)
end
section
variable {X : Cx} {pins : List (Addr × Obj)} {σ : L2.St} {H : Hp} {s : Shared}
/-- the list at a is written no more -/
theorem inv_frz {a : Addr} {xs : List V} (I : Inv X pins σ H s) (e : H a = some (.lst xs)) : ∃ o, Inv X pins σ (upd H a (.frz o (.lst xs))) s := by
  obtain ⟨hz, its, n, r, eo⟩ := I.hok a _ e
  refine ⟨{ cls := .type "list", data := .seq its.toArray n }, ?_⟩
  have := I.write (t' := s.toks) (h' := s.heap) (x := a) (e := a) (o := .frz { cls := .type "list", data := .seq its.toArray n } (.lst xs)) (by rw [e]; trivial) (.inl rfl) (fun _ _ _ q => q) ⟨_, eo⟩ ⟨eo, hz, its, n, r, eo⟩
  exact this
/-! lists that are written no more, and how a value is seen then -/
mutual
inductive Vw (S : DH) (F : List Addr) : D → D → Prop
  | same (d : D) : Vw S F d d
  | lst {a : Addr} {ds es : List D} : S a = some (.lst ds) → a ∈ F → Vws S F ds es → Vw S F (.ref a) (.rol es)
  | tup {ds es : List D} : Vws S F ds es → Vw S F (.tup ds) (.tup es)
  | rol {ds es : List D} : Vws S F ds es → Vw S F (.rol ds) (.rol es)
inductive Vws (S : DH) (F : List Addr) : List D → List D → Prop
  | nil : Vws S F [] []
  | cons {d e : D} {ds es : List D} : Vw S F d e → Vws S F ds es → Vws S F (d :: ds) (e :: es)
end
theorem Vws.same {S : DH} {F : List Addr} : ∀ ds : List D, Vws S F ds ds
  | [] => .nil
  | d :: ds => .cons (.same d) (Vws.same ds)
/-- what stands behind: F's lists are told as values alone -/
def Bhd (S : DH) (F : List Addr) (S' : DH) : Prop := ∀ b o, S' b = some o → S b = some o ∧ b ∉ F
structure Frzn (w : World) (K : PySem.W.Frag) (S : DH) (F : List Addr) (H : Hp) : Prop where
  get : ∀ a ∈ F, ∀ ds, S a = some (.lst ds) → ∃ xs o, H a = some (.frz o (.lst xs)) ∧ RDs K H ds xs
end
section
variable {w : World} {K : PySem.W.Frag} {S : DH} {F : List Addr} {H : Hp}
mutual
theorem Vw.rd (f : Frzn w K S F H) : ∀ {d e : D} {v : V}, Vw S F d e → RD K H d v → RD K H e v
  | _, _, _, .same _, r => r
  | _, _, v, .lst (a := a) (ds := ds) h1 h2 h3, r => by
    obtain rfl : v = .ref a := r
    obtain ⟨xs, o, e, rs⟩ := f.get _ h2 _ h1
    exact ⟨a, xs, rfl, .inl ⟨o, e⟩, Vws.rd f h3 rs⟩
  | _, _, v, .tup h, r => by
    obtain ⟨p, xs, rfl, sq, rs⟩ : ∃ p xs, v = V.ref p ∧ SqTn K H p xs ∧ RDs K H _ xs := r
    exact ⟨p, xs, rfl, sq, Vws.rd f h rs⟩
  | _, _, v, .rol h, r => by
    obtain ⟨p, xs, rfl, sq, rs⟩ : ∃ p xs, v = V.ref p ∧ SqR K H p xs ∧ RDs K H _ xs := r
    exact ⟨p, xs, rfl, sq, Vws.rd f h rs⟩
theorem Vws.rd (f : Frzn w K S F H) : ∀ {ds es : List D} {vs : List V}, Vws S F ds es → RDs K H ds vs → RDs K H es vs
  | _, _, _, .nil, r => r
  | _, _, vs, .cons h1 h2, r => by
    obtain ⟨v, r', rfl, r1, r2⟩ := r
    exact ⟨v, r', rfl, Vw.rd f h1 r1, Vws.rd f h2 r2⟩
end
end
theorem LeH.frz {H : Hp} {a : Addr} {xs : List V} {o : Obj} (e : H a = some (.lst xs)) : LeH H (upd H a (.frz o (.lst xs))) := LeH.put e trivial
section
variable {X : Cx} {pins : List (Addr × Obj)} {σ : L2.St} {s : Shared}
theorem rep_frz {w : World} {K : PySem.W.Frag} {S : DH} {H : Hp} {a : Addr} {xs : List V} {o : Obj} (r : Rep w K S H) (e : H a = some (.lst xs)) : Rep w K (delo S a) (upd H a (.frz o (.lst xs))) := fun b ob h => by
  unfold delo at h
  split at h
  · cases h
  · rename_i hb
    exact (r b ob h).at (LeH.frz e) (upd_ne hb)
/-- all of F, one by one -/
theorem frz_all {S : DH} : ∀ (F : List Addr) {H : Hp}, Inv X pins σ H s → Rep X.w X.K S H → (∀ a ∈ F, ∃ ds, S a = some (.lst ds)) → F.Nodup →
    ∃ H', Inv X pins σ H' s ∧ LeH H H' ∧ Frzn X.w X.K S F H' ∧ Rep X.w X.K (fun b => if b ∈ F then none else S b) H'
  | [], H, I, r, _, _ => ⟨H, I, LeH.refl H, ⟨fun _ h => nomatch h⟩, by simpa using r⟩
  | a :: F, H, I, r, h, nd => by
    obtain ⟨nd1, nd2⟩ := List.nodup_cons.mp nd
    obtain ⟨ds, ea⟩ := h a (List.mem_cons_self ..)
    obtain ⟨xs, eh, rs⟩ : ∃ xs, H a = some (.lst xs) ∧ RDs X.K H ds xs := r a _ ea
    obtain ⟨o, I1⟩ := inv_frz I eh
    have r1 := rep_frz (o := o) r eh
    obtain ⟨H2, I2, le2, f2, r2⟩ := frz_all (S := delo S a) F I1 r1 (fun b hb => by
      obtain ⟨ds', e'⟩ := h b (List.mem_cons_of_mem _ hb)
      refine ⟨ds', ?_⟩
      unfold delo
      rw [if_neg (fun z : b = a => nd1 (by rw [← z]; exact hb))]
      exact e') nd2
    have le1 : LeH H (upd H a (.frz o (.lst xs))) := LeH.frz eh
    refine ⟨H2, I2, le1.trans le2, ⟨fun b hb ds' e' => ?_⟩, fun b ob hb => ?_⟩
    · rcases List.mem_cons.mp hb with rfl | hb
      · rw [ea] at e'
        cases e'
        exact ⟨xs, o, le2.fl _ _ _ upd_same, rs.le (le1.trans le2)⟩
      · refine f2.get b hb ds' ?_
        unfold delo
        rw [if_neg (fun z : b = a => nd1 (by rw [← z]; exact hb))]
        exact e'
    · refine r2 b ob ?_
      have hb : (if b ∈ a :: F then none else S b) = some ob := hb
      show (if b ∈ F then none else delo S a b) = some ob
      simp only [List.mem_cons] at hb
      by_cases z : b = a
      · rw [if_pos (.inl z)] at hb
        cases hb
      · by_cases z2 : b ∈ F
        · rw [if_pos (.inr z2)] at hb
          cases hb
        · rw [if_neg (fun y => y.elim z z2)] at hb
          rw [if_neg z2]
          unfold delo
          rw [if_neg z]
          exact hb
/-- what a def gives: lists may become values, other things may be let go -/
def Rt (Q : DK) : DK := fun d S => ∃ F d' S', Vw S F d d' ∧ (∀ a ∈ F, ∃ ds, S a = some (.lst ds)) ∧ F.Nodup ∧ Bhd S F S' ∧ Q d' S'
theorem Rt.mono {Q Q' : DK} (k : ∀ d S, Q d S → Q' d S) (d : D) (S : DH) (h : Rt Q d S) : Rt Q' d S := by
  obtain ⟨F, d', S', h1, h2, h3, h4, h5⟩ := h
  exact ⟨F, d', S', h1, h2, h3, h4, k _ _ h5⟩
theorem Rt.same {Q : DK} {d : D} {S : DH} (h : Q d S) : Rt Q d S := ⟨[], d, S, .same d, (fun _ z => nomatch z), .nil, fun b o e => ⟨e, List.not_mem_nil⟩, h⟩
theorem Rt.keep {Q : DK} {d : D} {S S' : DH} (x : Sub S S') (h : Q d S) : Rt Q d S' := ⟨[], d, S, .same d, (fun _ z => nomatch z), .nil, fun b o e => ⟨x b o e, List.not_mem_nil⟩, h⟩
/-- a list of its own is given -/
theorem Rt.rol {Q : DK} {p : Addr} {S S' : DH} {ds : List D} (e : S' p = some (.lst ds)) (n : S p = none) (x : Sub S S') (h : Q (.rol ds) S) : Rt Q (.ref p) S' :=
  ⟨[p], .rol ds, S, .lst e (List.mem_singleton.mpr rfl) (Vws.same ds), fun a ha => ⟨ds, by rw [List.mem_singleton.mp ha]; exact e⟩, List.nodup_cons.mpr ⟨List.not_mem_nil, .nil⟩,
    fun b o eb => ⟨x b o eb, fun z => by rw [List.mem_singleton.mp z, n] at eb; cases eb⟩, h⟩
theorem Rt.to {S : DH} {H : Hp} {d : D} {v : V} {u : Value} {Q : DK} {Q' : VK} (I : Inv X pins σ H s) (r : Rep X.w X.K S H) (rd : RD X.K H d v) (ru : RelV v u) (h : Rt Q d S)
    (k : ∀ d S' v H', LeH H H' → Rep X.w X.K S' H' → RD X.K H' d v → Q d S' → Q' v H') : ∃ v H', Inv X pins σ H' s ∧ RelV v u ∧ LeH H H' ∧ Q' v H' := by
  obtain ⟨F, d', S', h1, h2, h3, h4, h5⟩ := h
  obtain ⟨H', I', le, f, r'⟩ := frz_all F I r h2 h3
  refine ⟨v, H', I', ru, le, k d' S' v H' le (r'.sub fun b o e => ?_) (Vw.rd f h1 (rd.le le)) h5⟩
  obtain ⟨e1, e2⟩ := h4 b o e
  show (if b ∈ F then none else S b) = some o
  rw [if_neg e2]
  exact e1
end
/-- a def by its body -/
theorem dfn_of2 {P : Program} {w : World} {K : PySem.W.Frag} {mg : Str → Option Value} {base : Heap} {x qual : Str} {st : Stmt} {f : Addr} {fd : FuncData} {N ps : List Str} {k : Nat} {sp : DSp} {t : DTS} (F : Fun K x qual st f fd) (Sc : FnScope N ps (defScope st))
    (mono : ∀ ds S (Q Q' : DK) (E E' : DXK), (∀ d S', Q d S' → Q' d S') → (∀ C fs S', E C fs S' → E' C fs S') → sp ds S Q E → sp ds S Q' E') (len : ∀ ds S Q E, sp ds S Q E → ds.length = ps.length)
    (hbody : ∀ (cdv : Value) (A : Around) (outer : List Env) (s : Shared) (H : Hp) (E : XK), Room k (A.deeper (PyProof.Rows.envOfC qual (defScope st) s.heap.objs.size f cdv)) → (A.deeper (PyProof.Rows.envOfC qual (defScope st) s.heap.objs.size f cdv)).guards = some [] →
      DSs (cxOf (L2.CX P w) P w K mg base N qual (defScope st) f cdv A outer s H E) (defBody st) t)
    (hsp : ∀ ds S Q E, sp ds S Q E → t { nx := fun _ S' => Rt Q .non S', rt := Rt Q, xe := fun C fs _ S' => ∃ S'', Sub S'' S' ∧ E C fs S'' } (dstart N ds) S) : DFn P w K mg base (k + 1) f fd ps sp := by
  obtain ⟨oc, od, kV, doc, pm, an, cdv, ct, osl, rfl, lk, hcd⟩ := F.ex
  refine ⟨mono, len, fun A outer s H args us vs Q E hr gu e0 hb r ⟨ds, S, rep, rds, q⟩ => ?_⟩
  have hl : vs.length = ps.length := by rw [← rds.length]; exact len _ _ _ _ q
  have KX : K.In s.heap := e0.mod.kin.keeps fun b o z => (e0.bs b o z).1
  have lim : s.heap.NoLimit := e0.mod.nolimit.keeps fun b o z => (e0.bs b o z).1
  refine codeAny_call_function hr.depth (KX _ _ lk) rfl Sc.co Sc.gen rfl (PySem.W.codeRec_of KX hcd) (hb _ _ _ _ ?_)
  refine wpAny_newFunctionEnv_cells Sc.kind (fun ⟨n, v⟩ hy => ?_) fun env he s1 x => ?_
  · rcases Sc.par n (List.of_mem_zip hy).1 with z | z
    · exact .inl z
    · exact .inr ⟨z, PySem.W.cellsFrom_some _ _ _ (.inl z)⟩
  subst he
  have B := hbody cdv A outer s H E (hr.deeper _) (guards_deeper gu)
  have I : Inv (cxOf (L2.CX P w) P w K mg base N qual (defScope st) f cdv A outer s H E) [] (L2.start N vs) H s1 := inv_start Sc hr.hd e0 hl r x
  have wi : Wish (cxOf (L2.CX P w) P w K mg base N qual (defScope st) f cdv A outer s H E) (fun C fs _ S' => ∃ S'', Sub S'' S' ∧ lX w K H E C fs S'') H := by
    refine Takes.imp (takes_of (E := E) rfl rfl rfl rfl) fun cls d σ H' h => ?_
    obtain ⟨C, fs, τ, S', dd, ws, rfl, rfl, le, rl, hx, rk, hn, S'', sb, h⟩ := h
    refine h dd ws H' le (rl.rep.sub sb) hx rk ?_
    cases e : S'' dd with
    | none => rfl
    | some o => rw [sb dd o e] at hn; cases hn
  have fin : ∀ {σ' : L2.St} {H' : Hp} {v : V} {u : Value} {s' : Shared}, Inv (cxOf (L2.CX P w) P w K mg base N qual (defScope st) f cdv A outer s H E) [] σ' H' s' → RelV v u → (∃ d S', LeH H H' ∧ Rep w K S' H' ∧ RD K H' d v ∧ Rt (lQ w K H Q) d S') → CE outer P w H s Q u s' :=
    fun {σ' H' v u s'} J rv ⟨d, S', le, rp, rd, y⟩ => by
      obtain ⟨v, H', J, rv, le', y⟩ := Rt.to (X := cxOf (L2.CX P w) P w K mg base N qual (defScope st) f cdv A outer s H E) J rp rd rv y fun d S' v H2 le2 rp2 rd2 z => (z v H2 (le.trans le2) rp2 rd2 : Q v H2)
      exact ⟨v, H', J.os, J.bare, J.base, J.hok, rv, y⟩
  refine ⟨lim.keeps x.toInCall.keep, codeAny_func (PySem.wpAny_mono (B.run.run [] s1 (L2.start N vs) H { nx := fun _ H' => ∃ S', LeH H H' ∧ Rep w K S' H' ∧ Rt (lQ w K H Q) .non S', rt := fun v H' => ∃ d S', LeH H H' ∧ Rep w K S' H' ∧ RD K H' d v ∧ Rt (lQ w K H Q) d S' } I ⟨_, dstart N ds, S, wi, ⟨dstart_rel rds, rep⟩, B.mono { nx := fun _ S' => Rt (lQ w K H Q) .non S', rt := Rt (lQ w K H Q), xe := fun C fs _ S' => ∃ S'', Sub S'' S' ∧ lX w K H E C fs S'' } _ _ _ ⟨fun τ S' h σ H' le r' => ?_, fun d S' h v H' le r' rv => ?_, fun _ _ h => h.elim, fun _ _ h => h.elim, fun _ _ _ _ h => h⟩ (hsp _ _ _ _ q)⟩) (fun fl s' hs => ?_) fun e s' hs => hs)⟩
  · exact ⟨S', le, r'.rep, h⟩
  · exact ⟨d, S', le, r', rv, h⟩
  · cases fl with
    | ret u =>
      obtain ⟨v, σ', H', J, rv, y⟩ := hs
      exact fin J rv y
    | next =>
      obtain ⟨σ', H', J, S', le, rp, y⟩ := hs
      exact fin (v := V.non) (u := Value.none) J rfl ⟨.non, S', le, rp, rfl, y⟩
    | brk =>
      obtain ⟨_, _, _, y⟩ := hs
      exact y.elim
    | cont =>
      obtain ⟨_, _, _, y⟩ := hs
      exact y.elim

/-! ### expressions whose list is written no more -/
theorem DE.sub {X : Cx} {e : Expr} {t t' : DTE} (h : DE X e t) (m : ∀ (E E' : DW) τ S (Q Q' : DK), (∀ C fs τ S, E C fs τ S → E' C fs τ S) → (∀ d S', Q d S' → Q' d S') → t' E τ S Q → t' E' τ S Q') (k : ∀ E τ S Q, t' E τ S Q → t E τ S Q) : DE X e t' :=
  ⟨m, pE_imp h.run fun σ H Q ⟨E, τ, S, w, r, q⟩ => ⟨E, τ, S, w, r, k _ _ _ _ q⟩⟩
/-- a list becomes a value -/
@[simp] def fzK (Q : DK) : DK := fun d S => match d with
  | .ref a => (match S a with | some (.lst ds) => Q (.rol ds) (delo S a) | _ => False)
  | d => Q d S
theorem fzK_mono {Q Q' : DK} (k : ∀ d S', Q d S' → Q' d S') (d : D) (S : DH) (h : fzK Q d S) : fzK Q' d S := by
  cases d with
  | ref a =>
    revert h
    show (match S a with | some (.lst ds) => _ | _ => False) → (match S a with | some (.lst ds) => _ | _ => False)
    split
    · exact k _ _
    · exact fun h => h
  | _ => exact k _ _ h
theorem fzK_new {Q : DK} {S : DH} {p : Addr} {ds : List D} (hp : S p = none) (h : Q (.rol ds) S) : fzK Q (.ref p) (upo S p (.lst ds)) := by
  simp only [fzK, upo_same, delo_upo, delo_none hp]
  exact h
def fzK_to {X : Cx} {pins : List (Addr × Obj)} {σ : L2.St} {s : Shared} {S : DH} {H : Hp} {d : D} {v : V} {u : Value} {Q : DK} {Q' : VK} (I : Inv X pins σ H s) (r : Rep X.w X.K S H) (rd : RD X.K H d v) (ru : RelV v u) (h : fzK Q d S)
    (k : ∀ d S' v H', LeH H H' → Rep X.w X.K S' H' → RD X.K H' d v → Q d S' → Q' v H') : EP X pins σ Q' u s := by
  cases d with
  | ref a =>
    obtain rfl : v = .ref a := rd
    revert h
    show (match S a with | some (.lst ds) => _ | _ => False) → _
    split
    · rename_i ds ea
      intro h
      obtain ⟨xs, eh, rs⟩ : ∃ xs, H a = some (.lst xs) ∧ RDs X.K H ds xs := r a _ ea
      obtain ⟨o, I1⟩ := inv_frz I eh
      exact ⟨_, _, I1, ru, k (.rol ds) (delo S a) (.ref a) _ (LeH.frz eh) (rep_frz r eh) ⟨a, xs, rfl, .inl ⟨o, upd_same⟩, rs.le (LeH.frz eh)⟩ h⟩
    · exact fun h => h.elim
  | _ => exact ⟨v, H, I, ru, k _ _ _ _ (LeH.refl H) r rd h⟩
@[simp] def dFz (t : DTE) : DTE := fun E τ S Q => t E τ S (fzK Q)
section
variable {X : Cx} {e : Expr} {t : DTE}
theorem de_fz (h : DE X e t) : DE X e (dFz t) := by
  refine ⟨fun E E' τ S Q Q' he k q => h.mono _ _ _ _ _ _ he (fzK_mono k) q, ⟨fun pins s σ H Q I ⟨E, τ, S, w, r, q⟩ => ?_⟩⟩
  refine thn (h.run.run pins s σ H (fun v H1 => ∃ d S1, LeH H H1 ∧ Rep X.w X.K S1 H1 ∧ RD X.K H1 d v ∧ fzK (fun d S' => ∀ v H', LeH H H' → Rep X.w X.K S' H' → RD X.K H' d v → Q v H') d S1) I (h.to w r q fun d S1 v H1 le w1 r1 rd z => ⟨d, S1, le, r1.rep, rd, z⟩)) fun u s' ⟨v, H1, I1, ru, d, S1, le, rp, rd, z⟩ => ?_
  exact fzK_to I1 rp rd ru z fun d S' v H' le' rp' rd' y => y v H' (le.trans le') rp' rd'
end
@[simp] def rFz (r : R2D) : R2D := fun x y S Q => r x y S (fzK Q)
theorem od_fz {X : Cx} {f : Value → Value → Sem Value} {r : R2D} (h : OpD X f r) : OpD X f (rFz r) := by
  refine ⟨fun x y S Q Q' k q => h.mono _ _ _ _ _ (fzK_mono k) q, fun pins s σ H x y v u Q I rx ry ⟨d, e, S, rep, rd, re, q⟩ => ?_⟩
  refine thn (h.run pins s σ H x y v u (fun v H1 => ∃ d S1, LeH H H1 ∧ Rep X.w X.K S1 H1 ∧ RD X.K H1 d v ∧ fzK (fun d S' => ∀ v H', LeH H H' → Rep X.w X.K S' H' → RD X.K H' d v → Q v H') d S1) I rx ry ⟨d, e, S, rep, rd, re, h.mono _ _ _ _ _ (fun z S' y v H' le rp rz => ⟨z, S', le, rp, rz, y⟩) q⟩) fun u s' ⟨v, H1, I1, ru, d, S1, le, rp, rd, z⟩ => ?_
  exact fzK_to I1 rp rd ru z fun d S' v H' le' rp' rd' y => y v H' (le.trans le') rp' rd'
end Dt
set_option maxRecDepth 100000
set_option maxHeartbeats 4000000
/-! DatN: dicts whose keys are tuples, by the library's nested keys. -/
namespace Dt
open PySem PySem.Spec L2 PySem.W

mutual
theorem rd_nested {X : Cx} {pins : List (Addr × Obj)} {σ : L2.St} {H : Hp} {s : Shared} (I : Inv X pins σ H s) : ∀ (d : D) (nk : NestedKey) (v : V) (u : Value), nkey d = some nk → RD X.K H d v → RelV v u → NestedIs s.heap nk u
  | .non, nk, v, u, e, r, q => by
    simp only [nkey, Option.some.injEq] at e
    subst e
    cases r
    cases (show u = .none from q)
    exact .none
  | .int i, nk, v, u, e, r, q => by
    simp only [nkey, Option.some.injEq] at e
    subst e
    cases r
    obtain ⟨t, rfl⟩ := q
    exact .int i t
  | .str i, nk, v, u, e, r, q => by
    simp only [nkey, Option.some.injEq] at e
    subst e
    cases r
    obtain ⟨t, rfl⟩ := q
    exact .text i t
  | .tup ds, nk, v, u, e, r, q => by
    simp only [nkey] at e
    split at e
    · rename_i ks ek
      cases e
      obtain ⟨p, xs, rfl, sq, rs⟩ : ∃ p xs, v = V.ref p ∧ SqTn X.K H p xs ∧ RDs X.K H ds xs := r
      cases (show u = .ref p from q)
      obtain ⟨its, rv, ⟨o, e1, e2, n, e3⟩, hz⟩ := I.tuple sq.t
      exact .tup e1 e2 e3 (by simpa using rds_nested I ds ks xs its ek rs rv)
    · cases e
  | .bl _, _, _, _, e, _, _ => by simp [nkey] at e
  | .rol _, _, _, _, e, _, _ => by simp [nkey] at e
  | .ref _, _, _, _, e, _, _ => by simp [nkey] at e
theorem rds_nested {X : Cx} {pins : List (Addr × Obj)} {σ : L2.St} {H : Hp} {s : Shared} (I : Inv X pins σ H s) : ∀ (ds : List D) (ks : List NestedKey) (vs : List V) (us : List Value), nkeys ds = some ks → RDs X.K H ds vs → Vals vs us → NestedAll s.heap ks us
  | [], ks, vs, us, e, r, q => by
    simp only [nkeys, Option.some.injEq] at e
    subst e
    cases r
    cases q
    exact .nil
  | d :: ds, ks, vs, us, e, r, q => by
    simp only [nkeys] at e
    split at e
    · rename_i k1 ks1 e1 e2
      cases e
      obtain ⟨v, r', rfl, r1, r2⟩ := r
      cases q with
      | cons q1 q2 => exact .cons (rd_nested I d _ v _ e1 r1 q1) (rds_nested I ds _ r' _ e2 r2 q2)
    · cases e
end
/-- may be a key: a tuple of ints, texts, None, tuples of such -/
def okT (d : D) : Bool := match d, nkey d with | .tup _, some k => decide (k.depth ≤ 8) | _, _ => false
theorem okT_ex {d : D} (h : okT d = true) : ∃ nk, nkey d = some nk ∧ nk.depth ≤ 8 ∧ ∃ ds, d = .tup ds := by
  unfold okT at h
  split at h
  · rename_i ds k e
    exact ⟨k, e, of_decide_eq_true h, ds, rfl⟩
  · cases h
/-- entries beside keys and values -/
def RX (K : PySem.W.Frag) (H : Hp) : List (D × D) → List (NestedKey × Addr × Value) → Prop
  | [], xs => xs = []
  | (k, d) :: r, xs => ∃ nk b u s, xs = (nk, b, u) :: s ∧ (nkey k = some nk ∧ nk.depth ≤ 8 ∧ RD K H k (.ref b) ∧ ∃ v, RelV v u ∧ RD K H d v) ∧ RX K H r s
section
variable {K : PySem.W.Frag} {H H' : Hp}
theorem RX.le (le : LeH H H') : ∀ {kvs : List (D × D)} {xs : List (NestedKey × Addr × Value)}, RX K H kvs xs → RX K H' kvs xs
  | [], _, h => h
  | (_, _) :: _, _, ⟨nk, b, u, s, e, ⟨e1, e2, r1, v, r2, r3⟩, h⟩ => ⟨nk, b, u, s, e, ⟨e1, e2, r1.le le, v, r2, r3.le le⟩, RX.le le h⟩
theorem RX.length : ∀ {kvs : List (D × D)} {xs : List (NestedKey × Addr × Value)}, RX K H kvs xs → kvs.length = xs.length
  | [], _, h => by cases h; rfl
  | (_, _) :: _, _, ⟨nk, b, u, s, e, _, h⟩ => by subst e; simp [RX.length h]
theorem RX.append : ∀ {kvs ls : List (D × D)} {xs ys : List (NestedKey × Addr × Value)}, RX K H kvs xs → RX K H ls ys → RX K H (kvs ++ ls) (xs ++ ys)
  | [], _, _, _, h, k => by cases h; exact k
  | (_, _) :: _, _, _, _, ⟨nk, b, u, s, e, e1, h⟩, k => by subst e; exact ⟨nk, b, u, s ++ _, rfl, e1, RX.append h k⟩
theorem key_iff {k k' : D} {nk nk' : NestedKey} (e : nkey k = some nk) (e' : nkey k' = some nk') : nk = nk' ↔ k = k' :=
  ⟨fun h => nkey_inj k k' nk e (by rw [h]; exact e'), fun h => by rw [h, e'] at e; exact (Option.some.inj e).symm⟩
theorem RX.lk {k : D} {nk : NestedKey} (ek : nkey k = some nk) : ∀ {kvs : List (D × D)} {xs : List (NestedKey × Addr × Value)}, RX K H kvs xs →
    match Dt.lk kvs k, atKey xs nk with | some d, some p => ∃ v, RelV v p.2 ∧ RD K H d v | none, none => True | _, _ => False
  | [], _, h => by cases h; simp [Dt.lk, atKey]
  | (j, d) :: r, _, ⟨nk', b, u, s, e, ⟨e1, e2, r1, r2⟩, h⟩ => by
    subst e
    have ih := RX.lk ek h
    by_cases z : j = k
    · have z' : nk' = nk := (key_iff e1 ek).mpr z
      simp only [Dt.lk, atKey, List.find?_cons, z, z', if_true, decide_true, Option.map_some]
      exact r2
    · have z' : ¬ nk' = nk := fun y => z ((key_iff e1 ek).mp y)
      simp only [Dt.lk, atKey, List.find?_cons, z, z', if_false, decide_false]
      exact ih
theorem RX.ss {kvs : List (D × D)} {xs : List (NestedKey × Addr × Value)} {k d : D} {nk : NestedKey} (h : RX K H kvs xs) (ek : nkey k = some nk) (e : Dt.lk kvs k = some d) : ∃ p, atKey xs nk = some p ∧ ∃ v, RelV v p.2 ∧ RD K H d v := by
  have q := h.lk ek
  rw [e] at q
  split at q
  · rename_i e1 e2
    cases e1
    exact ⟨_, e2, q⟩
  · rename_i e1 _
    cases e1
  · exact q.elim
theorem RX.isSome {kvs : List (D × D)} {xs : List (NestedKey × Addr × Value)} {k : D} {nk : NestedKey} (h : RX K H kvs xs) (ek : nkey k = some nk) : (atKey xs nk).isSome = (Dt.lk kvs k).isSome := by
  have q := h.lk ek
  split at q
  · rename_i e1 e2
    rw [e1, e2]
    rfl
  · rename_i e1 e2
    rw [e1, e2]
    rfl
  · exact q.elim
theorem RX.mapv {k d : D} {nk : NestedKey} {u : Value} {v : V} (ek : nkey k = some nk) (rv : RelV v u) (rd : RD K H d v) : ∀ {kvs : List (D × D)} {xs : List (NestedKey × Addr × Value)}, RX K H kvs xs →
    RX K H (kvs.map fun q => if q.1 = k then (q.1, d) else q) (xs.map (putAt nk u))
  | [], _, h => by cases h; rfl
  | (j, _) :: _, _, ⟨nk', b, u', s, e, ⟨e1, e2, r1, r2⟩, h⟩ => by
    subst e
    by_cases z : j = k
    · have z' : nk' = nk := (key_iff e1 ek).mpr z
      simp only [List.map_cons, putAt, z, z', if_true]
      exact ⟨nk, b, u, _, rfl, ⟨ek, z' ▸ e2, z ▸ r1, v, rv, rd⟩, RX.mapv ek rv rd h⟩
    · have z' : ¬ nk' = nk := fun y => z ((key_iff e1 ek).mp y)
      simp only [List.map_cons, putAt, z, z', if_false]
      exact ⟨nk', b, u', _, rfl, ⟨e1, e2, r1, r2⟩, RX.mapv ek rv rd h⟩
theorem RX.pt {kvs : List (D × D)} {xs : List (NestedKey × Addr × Value)} {k d : D} {nk : NestedKey} {b : Addr} {u : Value} {v : V} (h : RX K H kvs xs) (ek : nkey k = some nk) (hd : nk.depth ≤ 8) (rk : RD K H k (.ref b)) (rv : RelV v u) (rd : RD K H d v) :
    RX K H (Dt.pt kvs k d) (storedH xs nk b u) := by
  unfold Dt.pt storedH
  rw [h.isSome ek]
  split
  · exact RX.mapv ek rv rd h
  · exact h.append ⟨nk, b, u, [], rfl, ⟨ek, hd, rk, v, rv, rd⟩, rfl⟩
theorem RX.dr {k : D} {nk : NestedKey} (ek : nkey k = some nk) : ∀ {kvs : List (D × D)} {xs : List (NestedKey × Addr × Value)}, RX K H kvs xs → RX K H (Dt.dr kvs k) (withoutH xs nk)
  | [], _, h => by cases h; rfl
  | (j, _) :: _, _, ⟨nk', b, u', s, e, ⟨e1, e2, r1, r2⟩, h⟩ => by
    subst e
    have ih := RX.dr ek h
    unfold Dt.dr withoutH at ih ⊢
    by_cases z : j = k
    · have z' : nk' = nk := (key_iff e1 ek).mpr z
      simp only [List.filter_cons, z, z', ne_eq, not_true, decide_false, Bool.false_eq_true, if_false]
      exact ih
    · have z' : ¬ nk' = nk := fun y => z ((key_iff e1 ek).mp y)
      simp only [List.filter_cons, z, z', ne_eq, not_false_eq_true, decide_true, if_true]
      exact ⟨nk', b, u', _, rfl, ⟨e1, e2, r1, r2⟩, ih⟩
theorem RX.get {k d : D} {i : Nat} : ∀ {kvs : List (D × D)} {xs : List (NestedKey × Addr × Value)} {i : Nat} {x : NestedKey × Addr × Value}, RX K H kvs xs → xs[i]? = some x → ∃ k d, kvs[i]? = some (k, d) ∧ nkey k = some x.1 ∧ x.1.depth ≤ 8 ∧ RD K H k (.ref x.2.1) ∧ ∃ v, RelV v x.2.2 ∧ RD K H d v
  | [], _, _, _, h, e => by cases h; simp at e
  | (j, d) :: _, _, 0, _, ⟨nk', b, u', s, e0, ⟨e1, e2, r1, r2⟩, h⟩, e => by
    subst e0
    simp at e
    subst e
    exact ⟨j, d, rfl, e1, e2, r1, r2⟩
  | (_, _) :: _, _, i + 1, _, ⟨nk', b, u', s, e0, _, h⟩, e => by
    subst e0
    obtain ⟨k, d, q⟩ := RX.get (k := .non) (d := .non) (i := 0) h (by simpa using e)
    exact ⟨k, d, by simpa using q⟩
theorem RX.nodup : ∀ {kvs : List (D × D)} {xs : List (NestedKey × Addr × Value)}, RX K H kvs xs → (kvs.map (·.1)).Nodup → (xs.map (·.1)).Nodup
  | [], _, h, _ => by cases h; exact .nil
  | (j, d) :: r, _, ⟨nk', b, u', s, e0, ⟨e1, e2, r1, r2⟩, h⟩, nd => by
    subst e0
    obtain ⟨n1, n2⟩ := List.nodup_cons.mp nd
    refine List.nodup_cons.mpr ⟨fun z => n1 ?_, RX.nodup h n2⟩
    obtain ⟨y, hy, ey⟩ := List.mem_map.mp z
    obtain ⟨i, hi⟩ := List.getElem?_of_mem hy
    obtain ⟨k, d', q1, q2, _⟩ := RX.get (k := .non) (d := .non) (i := 0) h hi
    have : k = j := nkey_inj k j nk' (by rw [q2]; exact congrArg _ ey) e1
    exact List.mem_map.mpr ⟨(k, d'), List.mem_of_getElem? q1, this⟩
end
theorem pt_nodup {kvs : List (D × D)} (k d : D) (h : (kvs.map (·.1)).Nodup) : ((pt kvs k d).map (·.1)).Nodup := by
  unfold pt
  have lkm : ∀ l : List (D × D), (lk l k).isSome = true ∨ k ∉ l.map (·.1) := fun l => by
    induction l with
    | nil => exact .inr (by simp)
    | cons q l ih =>
      obtain ⟨j, v⟩ := q
      by_cases z : j = k
      · exact .inl (by simp [lk, z])
      · rcases ih with ih | ih
        · exact .inl (by simpa [lk, z] using ih)
        · exact .inr (by simp [fun y => z (Eq.symm y)]; exact ⟨fun y => z y.symm, by simpa using ih⟩)
  split
  · have : (kvs.map fun q => if q.1 = k then (q.1, d) else q).map (·.1) = kvs.map (·.1) := by
      rw [List.map_map]
      refine List.map_congr_left fun q _ => ?_
      show (if q.1 = k then (q.1, d) else q).1 = q.1
      split <;> rfl
    rw [this]
    exact h
  · rename_i hn
    rw [List.map_append]
    refine List.nodup_append.mpr ⟨h, by simp, fun a ha b hb => ?_⟩
    simp at hb
    subst hb
    rcases lkm kvs with z | z
    · exact absurd z hn
    · exact fun y => z (y ▸ ha)
theorem pt_len {κ α : Type} [DecidableEq κ] (kvs : List (κ × α)) (k : κ) (d : α) : (pt kvs k d).length ≤ kvs.length + 1 := by
  unfold pt
  split <;> simp
section
variable {X : Cx} {pins : List (Addr × Obj)} {σ : L2.St} {H : Hp} {s : Shared} {a : Addr} {kvs : List (D × D)}
/-- a dict is looked at -/
theorem dn_open (I : Inv X pins σ H s) (r : ROb X.w X.K H a (.dN kvs)) : ∃ xs, s.heap.DictOfH (nestedKind X.prog X.w) a xs ∧ RX X.K H kvs xs ∧ (a == sysModules) = false ∧ kvs.length ≤ sizeLine ∧ (kvs.map (·.1)).Nodup ∧ Mut (H a) := by
  obtain ⟨rows, e, hl, nd, rr⟩ := r
  have x : ObjOk X.prog X.w H s.heap a (.ext (RawRows X.w rows a)) := I.hok a _ e
  obtain ⟨⟨hs, o, es, ep, ho, hx, hd, pr⟩, _⟩ := x
  have go : ∀ {kvs : List (D × D)} {rows : List (NestedKey × Addr × V)} {es : List DictEntry}, RRows X.K H kvs rows → Paired (fun (r : NestedKey × Addr × V) (e : DictEntry) => e.hash = r.1.hash X.w ∧ e.key = .ref r.2.1 ∧ RelV r.2.2 e.val) rows es →
      ∃ xs, RX X.K H kvs xs ∧ es = xs.map (entryOfKey (nestedKind X.prog X.w)) ∧ ∀ x ∈ xs, (nestedKind X.prog X.w).is s.heap x.1 x.2.1 := by
    intro kvs
    induction kvs with
    | nil =>
      intro rows es h p
      cases h
      cases p
      exact ⟨[], rfl, rfl, fun _ z => nomatch z⟩
    | cons q kvs ih =>
      obtain ⟨k, d⟩ := q
      rintro rows es ⟨nk, b, v, s', e, e1, e2, r1, r2, h⟩ p
      subst e
      cases p with
      | @cons _ en _ es' p1 p2 =>
        obtain ⟨xs, h1, h2, h3⟩ := ih h p2
        obtain ⟨hsh, ky, vl⟩ := en
        obtain ⟨q1, q2, q3⟩ := p1
        refine ⟨(nk, b, vl) :: xs, ⟨nk, b, vl, xs, rfl, ⟨e1, e2, r1, v, q3, r2⟩, h1⟩, ?_, fun x hx => ?_⟩
        · rw [List.map_cons, ← h2]
          simp only at q1 q2
          rw [q1, q2]
          rfl
        · rcases List.mem_cons.mp hx with rfl | hx
          · exact ⟨rd_nested I k nk (.ref b) (.ref b) e1 r1 rfl, e2⟩
          · exact h3 x hx
  obtain ⟨xs, h1, h2, h3⟩ := go rr pr
  exact ⟨xs, ⟨o, es, ep, ho, hx, hd, h2, h3, h1.nodup nd⟩, h1, hs, hl, nd, by rw [e]; trivial⟩
theorem rows_of {K : PySem.W.Frag} {w : World} {P : Program} {H : Hp} : ∀ {kvs : List (D × D)} {xs : List (NestedKey × Addr × Value)}, RX K H kvs xs →
    ∃ rows, RRows K H kvs rows ∧ Paired (fun (r : NestedKey × Addr × V) (e : DictEntry) => e.hash = r.1.hash w ∧ e.key = .ref r.2.1 ∧ RelV r.2.2 e.val) rows (xs.map (entryOfKey (nestedKind P w)))
  | [], _, h => by cases h; exact ⟨[], rfl, .nil⟩
  | (k, d) :: r, _, ⟨nk, b, u, s, e, ⟨e1, e2, r1, v, r2, r3⟩, h⟩ => by
    subst e
    obtain ⟨rows, h1, h2⟩ := rows_of (P := P) h
    exact ⟨(nk, b, v) :: rows, ⟨nk, b, v, rows, rfl, e1, e2, r1, r3, h1⟩, .cons ⟨rfl, rfl, r2⟩ h2⟩
/-- a dict was written -/
theorem dn_close {h' : Heap} {t : Nat} {xs : List (NestedKey × Addr × Value)} (I : Inv X pins σ H s) (mu : Mut (H a)) (hs : (a == sysModules) = false) (r : RX X.K H kvs xs) (hl : kvs.length ≤ sizeLine) (nd : (kvs.map (·.1)).Nodup) (hd : h'.DictOfH (nestedKind X.prog X.w) a xs) (sb : Heap.SameBut a s.heap h') :
    ∃ rows, Inv X pins σ (upd H a (dnHO X.w rows a)) { s with heap := h', toks := t } ∧ LeH H (upd H a (dnHO X.w rows a)) ∧ ROb X.w X.K (upd H a (dnHO X.w rows a)) a (.dN kvs) := by
  obtain ⟨rows, r1, r2⟩ := rows_of (P := X.prog) (w := X.w) r
  obtain ⟨o, es, ep, ho, hx, hdd, he, _, _⟩ := hd
  obtain ⟨u, eu⟩ : ∃ u, H a = some u := by
    cases q : H a with
    | none => rw [q] at mu; exact mu.elim
    | some u => exact ⟨u, rfl⟩
  have le : LeH H (upd H a (dnHO X.w rows a)) := LeH.put eu (by rw [← eu]; exact mu)
  refine ⟨rows, I.write (x := a) (e := a) mu (.inl rfl) (fun b u hb q => (sb.2 b hb).trans q) ⟨o, ho⟩ ⟨⟨hs, o, es, ep, ho, hx, hdd, by rw [he]; exact r2⟩, ⟨o, ho⟩, fun h1 h2 z k => ?_⟩, le, ⟨rows, upd_same, hl, nd, r1.le le⟩⟩
  obtain ⟨z1, o', es', ep', q1, q2⟩ := z
  exact ⟨z1, o', es', ep', k _ q1, q2⟩
/-- the key of a dict -/
theorem okT_key (I : Inv X pins σ H s) {k : D} {v : V} {u : Value} (h : okT k = true) (rd : RD X.K H k v) (ru : RelV v u) : ∃ nk b, nkey k = some nk ∧ nk.depth ≤ 8 ∧ v = .ref b ∧ u = .ref b ∧ (nestedKind X.prog X.w).is s.heap nk b := by
  obtain ⟨nk, e, hd, ds, rfl⟩ := okT_ex h
  obtain ⟨p, xs, rfl, _⟩ : ∃ p xs, v = V.ref p ∧ SqTn X.K H p xs ∧ RDs X.K H ds xs := id rd
  cases (show u = .ref p from ru)
  exact ⟨nk, p, e, hd, rfl, rfl, rd_nested I _ nk _ _ e rd rfl, hd⟩
end
section
variable {X : Cx} {pos : Pos}
/-- {} whose keys will be tuples -/
@[simp] def dDnN : DTE := fun _ _ S Q => newO S (.dN []) fun p S' => Q (.ref p) S'
end
end Dt
set_option maxRecDepth 100000
set_option maxHeartbeats 4000000
/-! DatTo: rules that make tuples, the new object known. -/
namespace Dt
open PySem PySem.Spec L2 PyProof.Rows
section
variable {X : Cx} {pins : List (Addr × Obj)} {σ : L2.St} {H : Hp} {s : Shared}
theorem newT {its : List Value} {xs : List V} {Q : VK} (I : Inv X pins σ H s) (z : xs.length ≤ sizeLine) (r : Vals xs its) (q : ∀ p i n, H p = none → Q (.ref p) (upd H p (tupO i n xs))) :
    EP X pins σ Q (.ref s.heap.objs.size) { s with heap := s.heap.push { cls := .type "tuple", data := .seq its.toArray } } :=
  ⟨.ref s.heap.objs.size, _, I.laid (t' := s.toks) (o := tupO its.toArray 0 xs) (fun _ _ e => Heap.get?_push_of_some _ e) (Nat.le_refl _) ⟨Heap.get?_push_size _ rfl, z, its, r, IsTup.new _ _⟩, rfl, q _ _ _ (I.hok.fresh (Nat.le_refl _))⟩
end
section
variable {X : Cx} {es : List Expr} {t : TA} {pos : Pos}
def tTupN (t : TA) : TE := fun σ H Q => t σ H fun xs H1 => xs.length ≤ sizeLine ∧ ∀ p i n, H1 p = none → Q (.ref p) (upd H1 p (tupO i n xs))
theorem pe_tupN {x1} (h : PA X es t) : PE X (.Tuple es x1 pos) (tTupN t) :=
  ⟨fun pins s σ H _ I hq => wpAny_Tuple_spliced (thn (h.run pos pins s σ H _ I hq) fun _ _ ⟨_, _, I1, r, z, q⟩ => ⟨by rw [← r.length]; exact z, newT I1 z r q⟩)⟩
theorem call_tupleN : CallR X (.type "tuple") (fun xs H Q => ∃ p ys, xs = [.ref p] ∧ SqL X.K H p ys ∧ ∀ l i n, H l = none → Q (.ref l) (upd H l (tupO i n ys))) := by
  intro pins s σ H xs us Q I r ⟨p, ys, e, hq, q⟩
  subst e
  obtain ⟨u, rfl, rx⟩ := vals1 r
  obtain rfl : u = Value.ref p := rx
  obtain ⟨its, r', pl, hz⟩ := I.list hq
  have hn := r'.length
  exact call_tuple_list pl.isList (fun h' kp => newT (s := { s with heap := h' }) (I.kept (t' := s.toks) kp) hz r' q) (by rw [List.size_toArray]; omega)
def rCatN (K : PySem.W.Frag) : R2 := fun x y H Q => ∃ a b xs ys, x = .ref a ∧ y = .ref b ∧ SqT K H a xs ∧ SqT K H b ys ∧ xs.length + ys.length ≤ sizeLine ∧
  (xs = [] → Q (.ref b) H) ∧ (xs ≠ [] → ys = [] → Q (.ref a) H) ∧ (xs ≠ [] → ys ≠ [] → ∀ p i n, H p = none → Q (.ref p) (upd H p (tupO i n (xs ++ ys))))
theorem op_catN : OpR X (binaryOp .Add) (rCatN X.K) := by
  intro pins s σ H x y v u Q I rx ry ⟨a, b, xs, ys, ex, ey, ha, hb, hz, q0, q1, q2⟩
  subst ex ey
  by_cases hx : xs = []
  · exact op_catA pins s σ H _ _ v u Q I rx ry ⟨a, b, xs, ys, rfl, rfl, ha, hb, hz, q0, q1, fun z => absurd hx z⟩
  by_cases hy : ys = []
  · exact op_catA pins s σ H _ _ v u Q I rx ry ⟨a, b, xs, ys, rfl, rfl, ha, hb, hz, q0, q1, fun _ z => absurd hy z⟩
  obtain rfl : v = Value.ref a := rx
  obtain rfl : u = Value.ref b := ry
  obtain ⟨i1, r1, p1, _⟩ := I.tuple ha
  obtain ⟨i2, r2, p2, _⟩ := I.tuple hb
  exact HT.cat_tup p1 p2 (fun z => hx (r1.nil_iff.mp z)) (fun z => absurd (r2.nil_iff.mp z) hy) (fun _ => newT I (by rw [List.length_append]; exact hz) (r1.append r2) (q2 hx hy)) (by rw [← r1.length, ← r2.length]; exact hz)
def rSlN (K : PySem.W.Frag) : V → Option Int → Option Int → Hp → VK → Prop := fun x lo hi H Q => ∃ a xs, x = .ref a ∧ SqT K H a xs ∧
  (HT.sIx xs.length 0 lo = 0 ∧ HT.sIx xs.length xs.length hi = xs.length → Q (.ref a) H) ∧ (¬ (HT.sIx xs.length 0 lo = 0 ∧ HT.sIx xs.length xs.length hi = xs.length) → ∀ p i n, H p = none → Q (.ref p) (upd H p (tupO i n (cutV xs lo hi))))
theorem sl_tupN : SlR X (rSlN X.K) := by
  intro pins s σ H x v vl vu lo hi sl Q I rx hs pl pu ⟨a, xs, ex, hx, q1, q2⟩
  subst ex
  by_cases hw : HT.sIx xs.length 0 lo = 0 ∧ HT.sIx xs.length xs.length hi = xs.length
  · exact sl_tupA pins s σ H _ v vl vu lo hi sl Q I rx hs pl pu ⟨a, xs, rfl, hx, q1, fun z => absurd hw z⟩
  obtain rfl : v = Value.ref a := rx
  obtain ⟨its, r, ht, hz⟩ := I.tuple hx
  have hl : its.toArray.size = xs.length := by rw [List.size_toArray, r.length]
  refine ⟨"tuple", _, PyProof.Rows.slot_tuple_getitem.lookup, ht.typeIs, HT.getItem_tuple_cut ht hs pl pu (by rw [hl]; exact hw) ?_ (by rw [hl]; exact hz)⟩
  rw [hl]
  exact newT I (Nat.le_trans (cutV_length xs lo hi) hz) ((r.drop (HT.sIx xs.length 0 lo)).take (HT.sIx xs.length xs.length hi - HT.sIx xs.length 0 lo)) (q2 hw)
/-- tuple(reversed(a list)) -/
def tTupRevN (K : PySem.W.Frag) (te : TE) : TE := fun σ H Q => te σ H fun v H1 => ∃ (a : Addr) (xs : List V), v = .ref a ∧ SqL K H1 a xs ∧ ∀ q i n, H1 q = none → Q (.ref q) (upd H1 q (tupO i n xs.reverse))
/-- tuple(range(..)) -/
def tTupRgN (te : L2.St → Hp → (Int → Int → Hp → Prop) → Prop) : TE := fun σ H Q => te σ H fun a b H1 => RgOk a b ∧ ∀ q i n, H1 q = none → Q (.ref q) (upd H1 q (tupO i n (rgV a b)))
end
end Dt
set_option maxRecDepth 100000
set_option maxHeartbeats 4000000
/-! Dat4: operators, comparisons, repr. -/
namespace Dt
open PySem PySem.Spec L2

/-! ### the library's trees -/
mutual
inductive Pd (S : DH) : D → PyData → Prop
  | non : Pd S .non .none
  | bl (b : Bool) : Pd S (.bl b) (.bool b)
  | int (i : Int) : Pd S (.int i) (.int i)
  | str (x : Str) : Pd S (.str x) (.str x)
  | tup {ds : List D} {ps : List PyData} : PdA S ds ps → Pd S (.tup ds) (.tuple ps)
  | rol {ds : List D} {ps : List PyData} : PdA S ds ps → Pd S (.rol ds) (.list ps)
  | lst {a : Addr} {ds : List D} {ps : List PyData} : S a = some (.lst ds) → PdA S ds ps → Pd S (.ref a) (.list ps)
inductive PdA (S : DH) : List D → List PyData → Prop
  | nil : PdA S [] []
  | cons {d : D} {ds : List D} {p : PyData} {ps : List PyData} : Pd S d p → PdA S ds ps → PdA S (d :: ds) (p :: ps)
end
section
variable {w : World} {K : PySem.W.Frag} {S : DH} {H : Hp}
mutual
theorem Pd.dp (rep : Rep w K S H) : ∀ (p : PyData) (d : D) (v : V), Pd S d p → RD K H d v → Dp K H v p
  | .none, _, _, h, r => by cases h; cases r; exact .non
  | .bool b, _, _, h, r => by cases h; cases r; exact .bl b
  | .int i, _, _, h, r => by cases h; cases r; exact .int i
  | .str x, _, _, h, r => by cases h; cases r; exact .str x
  | .tuple ps, _, v, h, r => by
    cases h with
    | tup hs =>
      obtain ⟨p, xs, rfl, sq, rs⟩ : ∃ p xs, v = V.ref p ∧ SqTn K H p xs ∧ RDs K H _ xs := r
      exact .tup sq (PdA.dp rep ps _ _ hs rs)
  | .list ps, _, v, h, r => by
    cases h with
    | rol hs =>
      obtain ⟨p, xs, rfl, sq, rs⟩ : ∃ p xs, v = V.ref p ∧ SqR K H p xs ∧ RDs K H _ xs := r
      exact .lst sq.l (PdA.dp rep ps _ _ hs rs)
    | lst e hs =>
      cases r
      obtain ⟨xs, q, rs⟩ := rep _ _ e
      exact .lst (.of q) (PdA.dp rep ps _ _ hs rs)
  | .dict _, _, _, h, _ => by cases h
theorem PdA.dp (rep : Rep w K S H) : ∀ (ps : List PyData) (ds : List D) (vs : List V), PdA S ds ps → RDs K H ds vs → DpAll K H vs ps
  | [], _, _, h, r => by
    cases h
    cases r
    exact .nil
  | p :: ps, _, _, h, r => by
    cases h with
    | cons h1 h2 =>
      obtain ⟨v, vs, rfl, r1, r2⟩ := r
      exact .cons (Pd.dp rep p _ v h1 r1) (PdA.dp rep ps _ vs h2 r2)
end
end
/-! without addresses -/
mutual
def toP : D → PyData
  | .non => .none
  | .bl b => .bool b
  | .int i => .int i
  | .str x => .str x
  | .tup ds => .tuple (toPs ds)
  | .rol ds => .list (toPs ds)
  | .ref _ => .none
def toPs : List D → List PyData
  | [] => []
  | d :: ds => toP d :: toPs ds
end
mutual
def imm : D → Bool
  | .tup ds => imms ds
  | .rol ds => imms ds
  | .ref _ => false
  | _ => true
def imms : List D → Bool
  | [] => true
  | d :: ds => imm d && imms ds
end
mutual
theorem imm_pd (S : DH) : ∀ d : D, imm d = true → Pd S d (toP d)
  | .non, _ => .non
  | .bl b, _ => .bl b
  | .int i, _ => .int i
  | .str x, _ => .str x
  | .tup ds, h => .tup (imms_pd S ds h)
  | .rol ds, h => .rol (imms_pd S ds h)
theorem imms_pd (S : DH) : ∀ ds : List D, imms ds = true → PdA S ds (toPs ds)
  | [], _ => .nil
  | d :: ds, h => by
    have h' : (imm d && imms ds) = true := h
    rw [Bool.and_eq_true] at h'
    exact .cons (imm_pd S d h'.1) (imms_pd S ds h'.2)
end

/-! ### + - * // % ** -/
@[simp] def dAdd : R2D := fun d e S Q => match d, e with
  | .int i, .int j => Q (.int (i + j)) S
  | .str x, .str y => x.length + y.length ≤ sizeLine ∧ Q (.str (x ++ y)) S
  | .tup xs, .tup ys => xs.length + ys.length ≤ sizeLine ∧ Q (.tup (xs ++ ys)) S
  | d, e => catD S d e fun zs => newO S (.lst zs) fun p S' => Q (.ref p) S'
/-- the same, a list is written no more -/
@[simp] def dAddF : R2D := fun d e S Q => match d, e with
  | .int i, .int j => Q (.int (i + j)) S
  | .str x, .str y => x.length + y.length ≤ sizeLine ∧ Q (.str (x ++ y)) S
  | .tup xs, .tup ys => xs.length + ys.length ≤ sizeLine ∧ Q (.tup (xs ++ ys)) S
  | d, e => catD S d e fun zs => Q (.rol zs) S
theorem OpD.sub {X : Cx} {f : Value → Value → Sem Value} {r r' : R2D} (h : OpD X f r) (m : Mono2 r') (k : ∀ x y S Q, r' x y S Q → r x y S Q) : OpD X f r' :=
  ⟨m, opR_imp h.run fun x y H Q ⟨d, e, S, rep, rd, re, q⟩ => ⟨d, e, S, rep, rd, re, k _ _ _ _ q⟩⟩
section
variable {X : Cx}
theorem rep_new {w : World} {K : PySem.W.Frag} {S : DH} {H : Hp} {Q0 : DK} {Q : VK} {ds : List D} {xs : List V} {q : Addr} (rep : Rep w K S H) (hq : H q = none) (rs : RDs K H ds xs) (h : lQ w K H Q (.ref q) (upo S q (.lst ds))) : Q (.ref q) (upd H q (.lst xs)) :=
  h (.ref q) _ (LeH.new hq) (rep.new hq (o := .lst ds) ⟨xs, upd_same, rs.le (LeH.new hq)⟩) rfl
theorem rep_tup {w : World} {K : PySem.W.Frag} {S : DH} {H : Hp} {Q : VK} {ds : List D} {xs : List V} {q : Addr} (rep : Rep w K S H) (hq : H q = none) (rs : RDs K H ds xs) {i : Array Value} {n : Nat} (h : lQ w K H Q (.tup ds) S) : Q (.ref q) (upd H q (tupO i n xs)) :=
  h (.ref q) _ (LeH.new hq) (rep.garb hq) ⟨q, xs, rfl, .inl ⟨_, _, upd_same⟩, rs.le (LeH.new hq)⟩
/-- lists, one behind the other -/
def rCatX (K : PySem.W.Frag) : R2 := fun x y H Q => ∃ l b xs zs, x = .ref l ∧ y = .ref b ∧ SqX K H l xs ∧ SqX K H b zs ∧ xs.length + zs.length ≤ sizeLine ∧ ∀ p, H p = none → Q (.ref p) (upd H p (.lst (xs ++ zs)))
theorem op_catX : OpR X (binaryOp .Add) (rCatX X.K) := by
  intro pins s σ H x y v u Q I rx ry h
  obtain ⟨l, b, xs, zs, rfl, rfl, hH, hB, hz, q⟩ := h
  cases rx
  cases ry
  obtain ⟨its, n, r, z, hl, e⟩ := sqX_get I hH
  obtain ⟨its2, n2, r2, z2, hl2, e2⟩ := sqX_get I hB
  refine PySem.P.add_list e e2 ?_ (by rw [List.size_toArray, List.size_toArray]; omega)
  have ea : its.toArray ++ its2.toArray = (its ++ its2).toArray := by simp
  rw [ea]
  exact ⟨.ref _, _, I.lnew (t' := s.toks) (r.append r2) (by rw [List.length_append]; omega), rfl, q _ I.fresh⟩
theorem catD_mono {S : DH} {d e : D} {k k' : List D → Prop} (h : ∀ z, k z → k' z) (q : catD S d e k) : catD S d e k' := opt_mono (fun _ q => opt_mono (fun _ q => ⟨q.1, h _ q.2⟩) q) q
theorem od_add : OpD X (binaryOp .Add) dAdd := by
  refine ⟨fun x y S Q Q' k h => ?_, fun pins s σ H x y v u Q I rx ry ⟨d, e, S, rep, rd, re, h⟩ => ?_⟩
  · unfold dAdd at h ⊢
    split at h
    · exact k _ _ h
    · exact ⟨h.1, k _ _ h.2⟩
    · exact ⟨h.1, k _ _ h.2⟩
    · exact catD_mono (fun z q p hp => k _ _ (q p hp)) h
  · unfold dAdd at h
    split at h
    · cases rd; cases re
      exact op_add pins s σ H _ _ v u Q I rx ry ⟨_, _, rfl, rfl, h _ H (LeH.refl H) rep rfl⟩
    · cases rd; cases re
      exact op_add_str pins s σ H _ _ v u Q I rx ry ⟨_, _, rfl, rfl, h.1, h.2 _ H (LeH.refl H) rep rfl⟩
    · rename_i ds es
      obtain ⟨p, xs, rfl, sq, rs⟩ : ∃ p xs, x = V.ref p ∧ SqTn X.K H p xs ∧ RDs X.K H ds xs := rd
      obtain ⟨q, ys, rfl, sq2, rs2⟩ : ∃ p xs, y = V.ref p ∧ SqTn X.K H p xs ∧ RDs X.K H es xs := re
      refine op_catN pins s σ H _ _ v u Q I rx ry ⟨p, q, xs, ys, rfl, rfl, sq, sq2, by rw [← rs.length, ← rs2.length]; exact h.1, fun e => ?_, fun _ e => ?_, fun _ _ p2 _ _ hp => rep_tup rep hp (rs.append rs2) h.2⟩
      · subst e
        have := rs.length
        have e2 : ds = [] := List.length_eq_zero_iff.mp (by simpa using this)
        subst e2
        exact h.2 _ H (LeH.refl H) rep ⟨q, ys, rfl, sq2, rs2⟩
      · subst e
        have := rs2.length
        have e2 : es = [] := List.length_eq_zero_iff.mp (by simpa using this)
        subst e2
        exact h.2 _ H (LeH.refl H) rep ⟨p, xs, rfl, sq, by rw [List.append_nil]; exact rs⟩
    · obtain ⟨xs, ea, h⟩ := opt_ex h
      obtain ⟨ys, eb, hz, h⟩ := opt_ex h
      obtain ⟨a, us, rfl, sa, r1⟩ := seqD_rd rep rd ea
      obtain ⟨b, ws, rfl, sb, r2⟩ := seqD_rd rep re eb
      exact op_catX pins s σ H _ _ v u Q I rx ry ⟨a, b, us, ws, rfl, rfl, sa, sb, by rw [← r1.length, ← r2.length]; exact hz, fun p hp => rep_new (Q0 := fun _ _ => True) rep hp (r1.append r2) (h p (rep.free hp))⟩
theorem od_addF : OpD X (binaryOp .Add) dAddF := (od_fz od_add).sub (fun x y S Q Q' k h => by
    unfold dAddF at h ⊢
    split at h
    · exact k _ _ h
    · exact ⟨h.1, k _ _ h.2⟩
    · exact ⟨h.1, k _ _ h.2⟩
    · exact catD_mono (fun z q => k _ _ q) h) fun x y S Q h => by
    unfold dAddF at h
    unfold rFz dAdd
    split at h
    · exact h
    · exact h
    · exact h
    · exact catD_mono (fun z q p hp => fzK_new hp q) h
/-- two ints -/
@[simp] def dII (C : Int → Int → Prop) (g : Int → Int → D) : R2D := fun d e S Q => match d, e with | .int i, .int j => C i j ∧ Q (g i j) S | _, _ => False
theorem dII_mono {C : Int → Int → Prop} {g : Int → Int → D} : Mono2 (dII C g) := fun x y S Q Q' k h => by
  cases x <;> cases y <;> first | exact h.elim | exact ⟨h.1, k _ _ h.2⟩
theorem od_II {f : Value → Value → Sem Value} {C : Int → Int → Prop} {g : Int → Int → D} {g' : Int → Int → V} (h : OpR X f (rI C g')) (hg : ∀ H i j, RD X.K H (g i j) (g' i j)) : OpD X f (dII C g) := by
  refine ⟨dII_mono, fun pins s σ H x y v u Q I rx ry ⟨d, e, S, rep, rd, re, q⟩ => ?_⟩
  cases d <;> cases e <;> first | exact q.elim | skip
  cases rd; cases re
  exact h pins s σ H _ _ v u Q I rx ry ⟨_, _, rfl, rfl, q.1, q.2 _ H (LeH.refl H) rep (hg _ _ _)⟩
theorem od_II0 {f : Value → Value → Sem Value} {g : Int → Int → D} {g' : Int → Int → V} (h : OpR X f (rI0 g')) (hg : ∀ H i j, RD X.K H (g i j) (g' i j)) : OpD X f (dII (fun _ _ => True) g) := by
  refine ⟨dII_mono, fun pins s σ H x y v u Q I rx ry ⟨d, e, S, rep, rd, re, q⟩ => ?_⟩
  cases d <;> cases e <;> first | exact q.elim | skip
  cases rd; cases re
  exact h pins s σ H _ _ v u Q I rx ry ⟨_, _, rfl, rfl, q.2 _ H (LeH.refl H) rep (hg _ _ _)⟩
theorem od_sub : OpD X (binaryOp .Sub) (dII (fun _ _ => True) fun i j => .int (i - j)) := od_II0 op_sub fun _ _ _ => rfl
theorem od_mod : OpD X (binaryOp .Mod) (dII (fun _ j => 0 < j) fun i j => .int (i % j)) := od_II op_mod fun _ _ _ => rfl
theorem od_fdiv : OpD X (binaryOp .FloorDiv) (dII CDivW fun i j => .int (i / j)) := od_II op_fdivW fun _ _ _ => rfl
theorem od_pow : OpD X (binaryOp .Pow) (dII CPow fun i j => .int (i ^ j.toNat)) := od_II op_pow fun _ _ _ => rfl
theorem od_lt : OpD X (compareOp .Lt) (dII (fun _ _ => True) fun i j => .bl (decide (i < j))) := od_II0 op_lt fun _ _ _ => rfl
theorem od_le : OpD X (compareOp .LtE) (dII (fun _ _ => True) fun i j => .bl (decide (i ≤ j))) := od_II0 op_le fun _ _ _ => rfl
theorem od_gt : OpD X (compareOp .Gt) (dII (fun _ _ => True) fun i j => .bl (decide (j < i))) := od_II0 op_gt fun _ _ _ => rfl
theorem od_ge : OpD X (compareOp .GtE) (dII (fun _ _ => True) fun i j => .bl (decide (j ≤ i))) := od_II0 op_ge fun _ _ _ => rfl

/-! ### == -/
def dEqG (neg : Bool) : R2D := fun d e S Q => ∃ p q, Pd S d p ∧ Pd S e q ∧ SeqAt.shaped p = true ∧ SeqAt.shaped q = true ∧ Q (.bl (if neg then !PyData.eqv p q else PyData.eqv p q)) S
def dEq (neg : Bool) : R2D := fun d e S Q => match d, e with
  | .int i, .int j => Q (.bl (if neg then !(i == j) else i == j)) S
  | .str i, .str j => Q (.bl (if neg then !(i == j) else i == j)) S
  | .bl i, .bl j => Q (.bl (if neg then !(i == j) else i == j)) S
  | .non, .str j => Q (.bl neg) S
  | .str j, .non => Q (.bl neg) S
  | .int _, .str j => Q (.bl neg) S
  | .str j, .int _ => Q (.bl neg) S
  | d, e => dEqG neg d e S Q
theorem dEq_mono (neg : Bool) : Mono2 (dEq neg) := fun x y S Q Q' k h => by
  unfold dEq at h ⊢
  split at h <;> first | exact k _ _ h | exact (fun ⟨p, q, h1, h2, h3, h4, h⟩ => ⟨p, q, h1, h2, h3, h4, k _ _ h⟩ : dEqG neg _ _ S Q → dEqG neg _ _ S Q') h
theorem od_eq (hu : X.A.units + 64 < cLine) : OpD X (compareOp .Eq) (dEq false) := by
  refine ⟨dEq_mono false, fun pins s σ H x y v u Q I rx ry ⟨d, e, S, rep, rd, re, h⟩ => ?_⟩
  unfold dEq at h
  split at h
  · cases rd; cases re
    exact op_eq pins s σ H _ _ v u Q I rx ry ⟨rfl, by rw [dec_int]; exact h _ H (LeH.refl H) rep rfl⟩
  · cases rd; cases re
    exact op_eq pins s σ H _ _ v u Q I rx ry ⟨rfl, by rw [dec_str]; exact h _ H (LeH.refl H) rep rfl⟩
  · cases rd; cases re
    exact op_eq pins s σ H _ _ v u Q I rx ry ⟨rfl, by rw [dec_bl]; exact h _ H (LeH.refl H) rep rfl⟩
  · cases rd; cases re
    exact op_eq pins s σ H _ _ v u Q I rx ry ⟨rfl, h _ H (LeH.refl H) rep rfl⟩
  · cases rd; cases re
    exact op_eq pins s σ H _ _ v u Q I rx ry ⟨rfl, h _ H (LeH.refl H) rep rfl⟩
  · cases rd; cases re
    exact op_eq pins s σ H _ _ v u Q I rx ry ⟨rfl, h _ H (LeH.refl H) rep rfl⟩
  · cases rd; cases re
    exact op_eq pins s σ H _ _ v u Q I rx ry ⟨rfl, h _ H (LeH.refl H) rep rfl⟩
  · obtain ⟨p, q, h1, h2, h3, h4, h⟩ := h
    exact op_eqD hu pins s σ H _ _ v u Q I rx ry ⟨p, q, h1.dp rep p _ x rd, h2.dp rep q _ y re, h3, h4, h _ H (LeH.refl H) rep rfl⟩
theorem od_ne (hu : X.A.units + 64 < cLine) : OpD X (compareOp .NotEq) (dEq true) := by
  refine ⟨dEq_mono true, fun pins s σ H x y v u Q I rx ry ⟨d, e, S, rep, rd, re, h⟩ => ?_⟩
  unfold dEq at h
  split at h
  · cases rd; cases re
    exact op_ne pins s σ H _ _ v u Q I rx ry ⟨rfl, by rw [dec_int]; exact h _ H (LeH.refl H) rep rfl⟩
  · cases rd; cases re
    exact op_ne pins s σ H _ _ v u Q I rx ry ⟨rfl, by rw [dec_str]; exact h _ H (LeH.refl H) rep rfl⟩
  · cases rd; cases re
    exact op_ne pins s σ H _ _ v u Q I rx ry ⟨rfl, by rw [dec_bl]; exact h _ H (LeH.refl H) rep rfl⟩
  · cases rd; cases re
    exact op_ne pins s σ H _ _ v u Q I rx ry ⟨rfl, h _ H (LeH.refl H) rep rfl⟩
  · cases rd; cases re
    exact op_ne pins s σ H _ _ v u Q I rx ry ⟨rfl, h _ H (LeH.refl H) rep rfl⟩
  · cases rd; cases re
    exact op_ne pins s σ H _ _ v u Q I rx ry ⟨rfl, h _ H (LeH.refl H) rep rfl⟩
  · cases rd; cases re
    exact op_ne pins s σ H _ _ v u Q I rx ry ⟨rfl, h _ H (LeH.refl H) rep rfl⟩
  · obtain ⟨p, q, h1, h2, h3, h4, h⟩ := h
    exact op_neD hu pins s σ H _ _ v u Q I rx ry ⟨p, q, h1.dp rep p _ x rd, h2.dp rep q _ y re, h3, h4, h _ H (LeH.refl H) rep rfl⟩
/-- is None, is not None -/
@[simp] def isNon : D → Bool
  | .non => true
  | _ => false
@[simp] def dIsN (neg : Bool) : R2D := fun d e S Q => match e with | .non => Q (.bl (if neg then !isNon d else isNon d)) S | _ => False
theorem rd_non {K : PySem.W.Frag} {H : Hp} {d : D} {v : V} (r : RD K H d v) : decide (v = .non) = isNon d := by
  cases d with
  | non => cases r; rfl
  | tup ds => obtain ⟨p, xs, rfl, _⟩ : ∃ p xs, v = V.ref p ∧ SqTn K H p xs ∧ RDs K H ds xs := r; rfl
  | rol ds => obtain ⟨p, xs, rfl, _⟩ : ∃ p xs, v = V.ref p ∧ SqR K H p xs ∧ RDs K H ds xs := r; rfl
  | _ => cases r; rfl
theorem od_is : OpD X (compareOp .Is) (dIsN false) := by
  refine ⟨fun x y S Q Q' k h => ?_, fun pins s σ H x y v u Q I rx ry ⟨d, e, S, rep, rd, re, h⟩ => ?_⟩
  · cases y <;> first | exact h.elim | exact k _ _ h
  · cases e <;> first | exact h.elim | skip
    cases re
    exact op_isN pins s σ H _ _ v u Q I rx ry ⟨rfl, by rw [rd_non rd]; exact h _ H (LeH.refl H) rep rfl⟩
theorem od_isnt : OpD X (compareOp .IsNot) (dIsN true) := by
  refine ⟨fun x y S Q Q' k h => ?_, fun pins s σ H x y v u Q I rx ry ⟨d, e, S, rep, rd, re, h⟩ => ?_⟩
  · cases y <;> first | exact h.elim | exact k _ _ h
  · cases e <;> first | exact h.elim | skip
    cases re
    refine op_notN pins s σ H _ _ v u Q I rx ry ⟨rfl, ?_⟩
    rw [rd_non rd]
    exact h _ H (LeH.refl H) rep rfl
/-- in, not in: signs in a text; data in a list or tuple of data -/
def inP (p : PyData) (ps : List PyData) : Bool := ps.any fun z => PyData.eqv z p
@[simp] def dInS (neg : Bool) : R2D := fun d e S Q => match d, e with | .str x, .str y => Q (.bl (if neg then !(!(Builtin.Str.occurrences y x 0 y.length 1).isEmpty) else !(Builtin.Str.occurrences y x 0 y.length 1).isEmpty)) S | _, _ => False
theorem od_inS : OpD X (compareOp .In) (dInS false) := by
  refine ⟨fun x y S Q Q' k h => ?_, fun pins s σ H x y v u Q I rx ry ⟨d, e, S, rep, rd, re, h⟩ => ?_⟩
  · cases x <;> cases y <;> first | exact h.elim | exact k _ _ h
  · cases d <;> cases e <;> first | exact h.elim | skip
    cases rd; cases re
    exact op_in_str pins s σ H _ _ v u Q I rx ry ⟨_, _, rfl, rfl, h _ H (LeH.refl H) rep rfl⟩
def dInL (neg : Bool) : R2D := fun d e S Q => ∃ p ps, Pd S d p ∧ Pd S e (.list ps) ∧ SeqAt.shaped p = true ∧ SeqAt.shaped (.list ps) = true ∧ Q (.bl (if neg then !inP p ps else inP p ps)) S
theorem od_inL (hu : X.A.units + 65 < cLine) : OpD X (compareOp .In) (dInL false) := by
  refine ⟨fun x y S Q Q' k ⟨p, q, h1, h2, h3, h4, h⟩ => ⟨p, q, h1, h2, h3, h4, k _ _ h⟩, fun pins s σ H x y v u Q I rx ry ⟨d, e, S, rep, rd, re, p, q, h1, h2, h3, h4, h⟩ => ?_⟩
  exact op_inD hu pins s σ H _ _ v u Q I rx ry ⟨p, q, h1.dp rep p d x rd, h2.dp rep _ e y re, h3, h4, h _ H (LeH.refl H) rep rfl⟩
theorem od_ninL (hu : X.A.units + 65 < cLine) : OpD X (compareOp .NotIn) (dInL true) := by
  refine ⟨fun x y S Q Q' k ⟨p, q, h1, h2, h3, h4, h⟩ => ⟨p, q, h1, h2, h3, h4, k _ _ h⟩, fun pins s σ H x y v u Q I rx ry ⟨d, e, S, rep, rd, re, p, q, h1, h2, h3, h4, h⟩ => ?_⟩
  exact op_notInD hu pins s σ H _ _ v u Q I rx ry ⟨p, q, h1.dp rep p d x rd, h2.dp rep _ e y re, h3, h4, h _ H (LeH.refl H) rep rfl⟩

/-! ### calls of built-ins -/
abbrev RCD := List D → DH → DK → Prop
def MonoC (r : RCD) : Prop := ∀ ds S (Q Q' : DK), (∀ d S', Q d S' → Q' d S') → r ds S Q → r ds S Q'
def upC (w : World) (K : PySem.W.Frag) (r : RCD) : List V → Hp → VK → Prop := fun vs H Q => ∃ ds S, Rep w K S H ∧ RDs K H ds vs ∧ r ds S (lQ w K H Q)
structure CallD (X : Cx) (f : Value) (r : RCD) : Prop where
  mono : MonoC r
  run : CallR X f (upC X.w X.K r)
@[simp] def dCB (r : RCD) (t : DTA) : DTE := fun E τ S Q => t E τ S fun ds S1 => r ds S1 Q
variable {x : Str} {p pos : Pos} {e : Expr} {es : List Expr} {t : DTA} {id T : String} {r : RCD}
theorem dCB_up (hr : MonoC r) (ha : DA X es t) {σ : L2.St} {H : Hp} {Q : VK} (h : upE X (dCB r t) σ H Q) : tCB (upC X.w X.K r) (upA X t) σ H Q := by
  obtain ⟨E, τ, S, w, rl, q⟩ := h
  exact ha.to w rl q fun ds S1 vs H1 le w1 r1 rd h => ⟨ds, S1, r1.rep, rd, hr _ _ _ _ (fun d S' z v H' le2 rp rv => z v H' (le.trans le2) rp rv) h⟩
theorem de_callB (hc : CallD X (.builtin id) r) (hg : Gl X x) (hm : X.mg x = none) (hv : bootBuiltins x = some (.builtin id)) (ha : DA X (e :: es) t) (hn : x ≠ "__name__" := by decide) (hdb : (x == ("__debug__" : Str)) = false := by decide)
    (he : starEach (e :: es) X.env = (false, eval e X.env) :: starEach es X.env := by rfl) (hpl : (backTo pos (starEach es X.env)).any (·.1) = false := by rfl) : DE X (.Call (.Name x p) (e :: es) [] pos) (dCB r t) :=
  ⟨fun _ _ _ _ _ _ hE k q => ha.mono _ _ _ _ _ _ hE (fun _ _ z => hc.mono _ _ _ _ k z) q, pE_imp (pe_callB hc.run hg hm hv ha.run hn hdb he hpl) fun _ _ _ h => dCB_up hc.mono ha h⟩
theorem de_callTy (hc : CallD X (.type T) r) (hg : Gl X x) (hm : X.mg x = none) (hv : bootBuiltins x = some (.type T)) (ha : DA X (e :: es) t) (hn : x ≠ "__name__" := by decide) (hdb : (x == ("__debug__" : Str)) = false := by decide)
    (he : starEach (e :: es) X.env = (false, eval e X.env) :: starEach es X.env := by rfl) (hpl : (backTo pos (starEach es X.env)).any (·.1) = false := by rfl) : DE X (.Call (.Name x p) (e :: es) [] pos) (dCB r t) :=
  ⟨fun _ _ _ _ _ _ hE k q => ha.mono _ _ _ _ _ _ hE (fun _ _ z => hc.mono _ _ _ _ k z) q, pE_imp (pe_callTy hc.run hg hm hv ha.run hn hdb he hpl) fun _ _ _ h => dCB_up hc.mono ha h⟩
theorem rds1 {K : PySem.W.Frag} {H : Hp} {d : D} {vs : List V} (r : RDs K H [d] vs) : ∃ v, vs = [v] ∧ RD K H d v := by
  obtain ⟨v, _, rfl, h, rfl⟩ := r
  exact ⟨v, rfl, h⟩
theorem rds2 {K : PySem.W.Frag} {H : Hp} {d e : D} {vs : List V} (r : RDs K H [d, e] vs) : ∃ v u, vs = [v, u] ∧ RD K H d v ∧ RD K H e u := by
  obtain ⟨v, _, rfl, h, u, _, rfl, h2, rfl⟩ := r
  exact ⟨v, u, rfl, h, h2⟩
/-- repr -/
def cRepr : RCD := fun ds S Q => match ds with | [d] => ∃ p, Pd S d p ∧ p.showable = true ∧ p.depth ≤ 100 ∧ p.shown.length ≤ sizeLine ∧ Q (.str p.shown) S | _ => False
theorem noDict_pd {S : DH} : ∀ (p : PyData) (d : D), Pd S d p → p.hasDict = false
  | .none, _, h | .bool _, _, h | .int _, _, h | .str _, _, h => rfl
  | .tuple ps, _, h => by cases h with | tup hs => exact go ps _ hs
  | .list ps, _, h => by cases h with | rol hs => exact go ps _ hs | lst _ hs => exact go ps _ hs
  | .dict _, _, h => by cases h
where go : ∀ (ps : List PyData) (ds : List D), PdA S ds ps → PyData.hasDictAll ps = false
  | [], _, _ => rfl
  | p :: ps, _, h => by
    cases h with
    | cons h1 h2 =>
      show (PyData.hasDict p || PyData.hasDictAll ps) = false
      rw [noDict_pd p _ h1, go ps _ h2]
      rfl
end
end Dt
set_option maxRecDepth 100000
set_option maxHeartbeats 4000000
/-! Dat5: subscripts, slices, dicts, built-ins, methods, what is walked. -/
namespace Dt
open PySem PySem.Spec L2

/-! ### keys -/
@[simp] def dkey : D → Option Key
  | .int i => some (.inl i)
  | .str x => some (.inr x)
  | _ => none
def dkeys : List D → Option (List Key)
  | [] => some []
  | d :: ds => match dkey d, dkeys ds with | some k, some ks => some (k :: ks) | _, _ => none
def tkey : D → Option (List Key)
  | .tup ds => dkeys ds
  | _ => none
section
variable {w : World} {K : PySem.W.Frag} {S : DH} {H : Hp}
theorem dkey_rd {d : D} {k : Key} {v : V} (e : dkey d = some k) (r : RD K H d v) : v = kV k := by
  cases d <;> cases e <;> exact r
/-- a key tuple of the heap: not one of the written part -/
def TrkT (K : PySem.W.Frag) (H : Hp) (d : D) (v : V) : Prop := ∃ p ks, v = .ref p ∧ tkey d = some ks ∧ H p = some (.tup (ks.map kV))
end
/-- the tuple that a value stands for is tracked itself -/
theorem sqT_split {K : PySem.W.Frag} {H : Hp} {p : Addr} {xs : List V} (h : SqT K H p xs) : H p = some (.tup xs) ∨ (∃ o, H p = some (.frz o (.tup xs))) ∨ ∃ (o : Obj) (its : Array Value) (n : Nat), K.lookup p = some o ∧ o.cls = .type "tuple" ∧ o.data = .seq its n ∧ its.size ≤ sizeLine ∧ Vals xs its.toList := by
  rcases h with (h | h) | h
  · exact .inl h
  · exact .inr (.inl h)
  · exact .inr (.inr h)

/-! ### o[i] -/
@[simp] def dIxS : R2D := fun d e S Q => match d, e with
  | .tup ds, .int i => opt (atI ds i) fun x => Q x S
  | .rol ds, .int i => opt (atI ds i) fun x => Q x S
  | .str z, .int i => z.length ≤ sizeLine ∧ opt (atI z.cps.toList i) fun c => Q (.str ⟨#[c]⟩) S
  | .ref a, e => (match S a with
    | some (.lst ds) => (match e with | .int i => opt (atI ds i) fun x => Q x S | _ => False)
    | some (.dK kvs) => opt (dkey e) fun k => opt (lk kvs k) fun x => Q x S
    | some (.dN kvs) => okT e = true ∧ opt (lk kvs e) fun x => Q x S
    | _ => False)
  | _, _ => False
def IxD (X : Cx) (r : R2D) : Prop := Mono2 r ∧ IxR X (upO X.w X.K r)
theorem atI_of {K : PySem.W.Frag} {H : Hp} {ds : List D} {xs : List V} {i : Int} {d : D} (r : RDs K H ds xs) (e : atI ds i = some d) : ∃ v, atI xs i = some v ∧ RD K H d v := by
  unfold atI at e ⊢
  rw [← r.length]
  cases q : ixN ds.length i with
  | none => rw [q] at e; cases e
  | some j =>
    rw [q] at e
    exact r.get e
section
variable {X : Cx} {a b : Expr} {ta tb : DTE} {pos : Pos}
theorem ixD_any (hu : X.A.units + 120 < cLine) : IxD X dIxS := by
  refine ⟨fun x y S Q Q' k h => ?_, fun value slice pins s σ H x y v u Q I rx ry ⟨d, e, S, rep, rd, re, h⟩ hs => ?_⟩
  · cases x with
    | tup ds => cases y <;> first | exact h.elim | exact opt_mono (fun _ z => k _ _ z) h
    | rol ds => cases y <;> first | exact h.elim | exact opt_mono (fun _ z => k _ _ z) h
    | str z => cases y <;> first | exact h.elim | exact ⟨h.1, opt_mono (fun _ z => k _ _ z) h.2⟩
    | ref a =>
      revert h
      show (match S a with | some (.lst ds) => _ | some (.dK kvs) => _ | some (.dN kvs) => _ | _ => False) → (match S a with | some (.lst ds) => _ | some (.dK kvs) => _ | some (.dN kvs) => _ | _ => False)
      split
      · intro h
        cases y <;> first | exact h.elim | exact opt_mono (fun _ z => k _ _ z) h
      · exact fun h => opt_mono (fun _ z => opt_mono (fun _ z => k _ _ z) z) h
      · exact fun h => ⟨h.1, opt_mono (fun _ z => k _ _ z) h.2⟩
      · exact fun h => h
    | _ => exact h.elim
  · cases d with
    | tup ds =>
      cases e <;> first | exact h.elim | skip
      rename_i i
      cases re
      obtain ⟨p, xs, rfl, sq, rs⟩ : ∃ p xs, x = V.ref p ∧ SqTn X.K H p xs ∧ RDs X.K H ds xs := rd
      obtain ⟨z, e1, q⟩ := opt_ex h
      obtain ⟨w, e2, rw2⟩ := atI_of rs e1
      exact ix_tup value slice pins s σ H _ _ v u Q I rx ry ⟨p, xs, i, w, rfl, rfl, sq, e2, q w H (LeH.refl H) rep rw2⟩ hs
    | rol ds =>
      cases e <;> first | exact h.elim | skip
      rename_i i
      cases re
      obtain ⟨p, xs, rfl, sq, rs⟩ : ∃ p xs, x = V.ref p ∧ SqR X.K H p xs ∧ RDs X.K H ds xs := rd
      obtain ⟨z, e1, q⟩ := opt_ex h
      obtain ⟨w, e2, rw2⟩ := atI_of rs e1
      exact ix_list value slice pins s σ H _ _ v u Q I rx ry ⟨p, xs, i, w, rfl, rfl, sq.l, e2, q w H (LeH.refl H) rep rw2⟩ hs
    | str z =>
      cases e <;> first | exact h.elim | skip
      rename_i i
      cases re
      cases rd
      obtain ⟨c, e1, q⟩ := opt_ex h.2
      exact ix_str value slice pins s σ H _ _ v u Q I rx ry ⟨z, i, c, rfl, rfl, h.1, e1, q _ H (LeH.refl H) rep rfl⟩ hs
    | ref a =>
      cases rd
      revert h
      show (match S a with | some (.lst ds) => _ | some (.dK kvs) => _ | some (.dN kvs) => _ | _ => False) → _
      split
      · rename_i ds ea
        intro h
        cases e <;> first | exact h.elim | skip
        rename_i i
        cases re
        obtain ⟨xs, e0, rs⟩ : ∃ xs, H a = some (.lst xs) ∧ RDs X.K H ds xs := rep a _ ea
        obtain ⟨z, e1, q⟩ := opt_ex h
        obtain ⟨w, e2, rw2⟩ := atI_of rs e1
        exact ix_list value slice pins s σ H _ _ v u Q I rx ry ⟨a, xs, i, w, rfl, rfl, .of e0, e2, q w H (LeH.refl H) rep rw2⟩ hs
      · rename_i kvs ea
        intro h
        obtain ⟨ws, e0, rk⟩ : ∃ ws, H a = some (.dK ws) ∧ RKs X.K H kvs ws := rep a _ ea
        obtain ⟨k, ek, h⟩ := opt_ex h
        obtain ⟨z, el, q⟩ := opt_ex h
        obtain ⟨w, ew, rw2⟩ := rk.ss el
        have ey := dkey_rd ek re
        subst ey
        cases rx
        have g : DGet H a (kV k) (some w) := ew ▸ DGet.k e0
        exact PyProof.Rows.tail_any (dict_typeIs I g) PySem.F.slot_dict_getitem.lookup (d_getItem (by omega) I g ry fun w' s3 I3 r3 => ⟨w, H, I3, r3, q w H (LeH.refl H) rep rw2⟩) hs
      · rename_i kvs ea
        rintro ⟨hk, h⟩
        obtain ⟨z, el, q⟩ := opt_ex h
        obtain ⟨xs, dd, rx', hsys, hl, nd, mu⟩ := dn_open I (rep a _ ea)
        obtain ⟨nk, b, ek, _, rfl, rfl, his⟩ := okT_key I hk re ry
        obtain ⟨p, hp, w, rw1, rw2⟩ := rx'.ss ek el
        cases rx
        exact PyProof.Rows.tail_any dd.typeIs PySem.F.slot_dict_getitem.lookup (wpAny_getItem_heap (show X.A.units + 1 + 8 < cLine by omega) his dd hp ⟨w, H, I.tok _, rw1, q w H (LeH.refl H) rep rw2⟩) hs
      · exact fun h => h.elim
    | _ => exact h.elim
theorem de_ix {r : R2D} (hr : IxD X r) (ha : DE X a ta) (hb : DE X b tb) (hs : PlainIx b := by exact fun _ _ => rfl) : DE X (.Subscript a b pos) (dOp r ta tb) :=
  ⟨fun _ _ _ _ _ _ he k q => dOp_mono ha hb hr.1 he k q, pE_imp (pe_ix hr.2 ha.run hb.run hs) fun _ _ _ h => dOp_up ha hb hr.1 h⟩
end

/-! ### o[i:j] -/
abbrev DTO := DW → DSt → DH → (Option Int → DH → Prop) → Prop
def upP (X : Cx) (t : DTO) : TO := fun σ H Q => ∃ E τ S, Wish X E H ∧ Rel X.w X.K τ S σ H ∧ t E τ S fun o S' => ∀ H', LeH H H' → Rep X.w X.K S' H' → Q o H'
structure DO (X : Cx) (e : Option Expr) (t : DTO) : Prop where
  mono : ∀ (E E' : DW) τ S (Q Q' : Option Int → DH → Prop), (∀ C fs τ S, E C fs τ S → E' C fs τ S) → (∀ d S', Q d S' → Q' d S') → t E τ S Q → t E' τ S Q'
  run : PO X e (upP X t)
@[simp] def dNoP : DTO := fun _ _ S Q => Q none S
@[simp] def dSoP (te : DTE) : DTO := fun E τ S Q => te E τ S fun d S' => match d with | .int i => Q (some i) S' | _ => False
section
variable {X : Cx} {e o : Expr} {lo hi : Option Expr} {te to : DTE} {tl th : DTO} {pos p2 : Pos}
theorem pP_imp {e : Option Expr} {t t' : TO} (h : PO X e t) (k : ∀ σ H Q, t' σ H Q → t σ H Q) : PO X e t' := ⟨fun pins s σ H Q I q => h.run pins s σ H Q I (k σ H Q q)⟩
theorem do_none : DO X none dNoP := ⟨fun _ _ _ _ _ _ _ k q => k _ _ q, pP_imp po_none fun σ H Q ⟨E, τ, S, w, r, q⟩ => q H (LeH.refl H) r.rep⟩
theorem do_some (h : DE X e te) : DO X (some e) (dSoP te) := by
  refine ⟨fun E E' τ S Q Q' he k q => h.mono _ _ _ _ _ _ he (fun d S' z => ?_) q, pP_imp (po_some h.run) fun σ H Q ⟨E, τ, S, w, r, q⟩ => ?_⟩
  · cases d <;> first | exact z.elim | exact k _ _ z
  · refine h.to w r q fun d S' v H' le w' r' rd z => ?_
    cases d <;> first | exact z.elim | skip
    exact ⟨_, rd, z H' le r'.rep⟩
theorem DO.lead {t : DTO} (h : DO X lo t) {E : DW} {τ : DSt} {S : DH} {σ : L2.St} {H : Hp} {Q0 : Option Int → DH → Prop} {Q : Option Int → Hp → Prop} (w : Wish X E H) (r : Rel X.w X.K τ S σ H) (q : t E τ S Q0)
    (k : ∀ b S' H', LeH H H' → Wish X E H' → Rel X.w X.K τ S' σ H' → Q0 b S' → Q b H') : upP X t σ H Q :=
  ⟨E, τ, S, w, r, h.mono _ _ _ _ _ _ (fun _ _ _ _ z => z) (fun d S' z H' le rp => k d S' H' le (w.le le) (r.le le rp) z) q⟩
def cutD (ds : List D) (lo hi : Option Int) : List D := (ds.drop (HT.sIx ds.length 0 lo)).take (HT.sIx ds.length ds.length hi - HT.sIx ds.length 0 lo)
theorem cut_rd {K : PySem.W.Frag} {H : Hp} {ds : List D} {xs : List V} (r : RDs K H ds xs) (lo hi : Option Int) : RDs K H (cutD ds lo hi) (cutV xs lo hi) := by
  unfold cutD cutV
  rw [r.length]
  exact (r.drop _).take _
@[simp] def dSl (to : DTE) (tl th : DTO) : DTE := fun E τ S Q => to E τ S fun d S1 => tl E τ S1 fun l S2 => th E τ S2 fun h S3 => match d with
  | .str z => z.length ≤ sizeLine ∧ Q (.str (cutS z l h)) S3
  | .tup ds => Q (.tup (cutD ds l h)) S3
  | .ref a => (match S3 a with | some (.lst ds) => newO S3 (.lst (cutD ds l h)) fun p S' => Q (.ref p) S' | _ => False)
  | .rol ds => newO S3 (.lst (cutD ds l h)) fun p S' => Q (.ref p) S'
  | _ => False
theorem de_sl (ho : DE X o to) (hl : DO X lo tl) (hh : DO X hi th) : DE X (.Subscript o (.Slice lo hi none p2) pos) (dSl to tl th) := by
  refine ⟨fun E E' τ S Q Q' he k q => ho.mono _ _ _ _ _ _ he (fun d S1 z => hl.mono _ _ _ _ _ _ he (fun l S2 z => hh.mono _ _ _ _ _ _ he (fun h S3 z => ?_) z) z) q,
    pE_imp (pe_slice (sl_list.or (sl_tupN.or sl_str)) ho.run hl.run hh.run) fun σ H Q ⟨E, τ, S, w, r, q⟩ => ?_⟩
  · cases d with
    | str x => exact ⟨z.1, k _ _ z.2⟩
    | tup ds => exact k _ _ z
    | rol ds => exact fun p hp => k _ _ (z p hp)
    | ref a =>
      revert z
      show (match S3 a with | some (.lst ds) => _ | _ => False) → (match S3 a with | some (.lst ds) => _ | _ => False)
      split
      · exact fun z p hp => k _ _ (z p hp)
      · exact fun z => z
    | _ => exact z
  · refine ho.to w r q fun d S1 x H1 le1 w1 r1 rd z => hl.lead w1 r1 z fun l S2 H2 le2 w2 r2 z => hh.lead w2 r2 z fun h S3 H3 le3 w3 r3 z => ?_
    have rd3 := rd.le (le2.trans le3)
    have le := le1.trans (le2.trans le3)
    cases d with
    | str x =>
      cases rd
      exact .inr (.inr ⟨_, rfl, z.1, z.2 _ H3 le r3.rep rfl⟩)
    | tup ds =>
      obtain ⟨p, xs, rfl, sq, rs⟩ : ∃ p xs, x = V.ref p ∧ SqTn X.K H3 p xs ∧ RDs X.K H3 ds xs := rd3
      refine .inr (.inl ⟨p, xs, rfl, sq, fun ⟨h1, h2⟩ => z _ H3 le r3.rep ⟨p, xs, rfl, sq, ?_⟩, fun _ q _ _ hq => ?_⟩)
      · have : cutD ds l h = ds := by
          unfold cutD
          rw [rs.length, h1, h2, List.drop_zero, Nat.sub_zero, ← rs.length, List.take_length]
        rw [this]
        exact rs
      · exact z _ _ (le.trans (LeH.new hq)) (r3.rep.garb hq) ⟨q, _, rfl, .inl ⟨_, _, upd_same⟩, (cut_rd rs l h).le (LeH.new hq)⟩
    | rol ds =>
      obtain ⟨p, xs, rfl, sq, rs⟩ : ∃ p xs, x = V.ref p ∧ SqR X.K H3 p xs ∧ RDs X.K H3 ds xs := rd3
      refine .inl ⟨p, xs, rfl, sq.l, fun q hq => ?_⟩
      exact z q (r3.rep.free hq) _ _ (le.trans (LeH.new hq)) (r3.rep.new hq (o := .lst (cutD ds l h)) ⟨_, upd_same, (cut_rd rs l h).le (LeH.new hq)⟩) rfl
    | ref a =>
      cases rd
      revert z
      show (match S3 a with | some (.lst ds) => _ | _ => False) → _
      split
      · rename_i ds ea
        intro z
        obtain ⟨xs, e0, rs⟩ : ∃ xs, H3 a = some (.lst xs) ∧ RDs X.K H3 ds xs := r3.rep a _ ea
        refine .inl ⟨a, xs, rfl, .of e0, fun q hq => ?_⟩
        exact z q (r3.rep.free hq) _ _ (le.trans (LeH.new hq)) (r3.rep.new hq (o := .lst (cutD ds l h)) ⟨_, upd_same, (cut_rd rs l h).le (LeH.new hq)⟩) rfl
      · exact fun z => z.elim
    | _ => exact z.elim
@[simp] def dSlF (to : DTE) (tl th : DTO) : DTE := fun E τ S Q => to E τ S fun d S1 => tl E τ S1 fun l S2 => th E τ S2 fun h S3 => match d with
  | .str z => z.length ≤ sizeLine ∧ Q (.str (cutS z l h)) S3
  | .tup ds => Q (.tup (cutD ds l h)) S3
  | d => opt (seqD S3 d) fun ds => Q (.rol (cutD ds l h)) S3
theorem de_slF (ho : DE X o to) (hl : DO X lo tl) (hh : DO X hi th) : DE X (.Subscript o (.Slice lo hi none p2) pos) (dSlF to tl th) :=
  (de_fz (de_sl ho hl hh)).sub (fun E E' τ S Q Q' he k q => ho.mono _ _ _ _ _ _ he (fun d S1 z => hl.mono _ _ _ _ _ _ he (fun l S2 z => hh.mono _ _ _ _ _ _ he (fun h S3 z => by
      cases d with
      | str x => exact ⟨z.1, k _ _ z.2⟩
      | tup ds => exact k _ _ z
      | _ => exact opt_mono (fun _ q => k _ _ q) z) z) z) q)
    fun E τ S Q q => ho.mono _ _ _ _ _ _ (fun _ _ _ _ z => z) (fun d S1 z => hl.mono _ _ _ _ _ _ (fun _ _ _ _ z => z) (fun l S2 z => hh.mono _ _ _ _ _ _ (fun _ _ _ _ z => z) (fun h S3 z => by
      cases d with
      | str x => exact ⟨z.1, z.2⟩
      | tup ds => exact z
      | rol ds => exact fun p hp => fzK_new hp z
      | ref a =>
        obtain ⟨ds, e, z⟩ := opt_ex z
        simp only [seqD_ref] at e
        split at e
        · rename_i xs ea
          cases e
          simp only [ea]
          exact fun p hp => fzK_new hp z
        · cases e
      | _ => cases z) z) z) q
end

/-! ### displays -/
section
variable {X : Cx} {es : List Expr} {t : DTA} {pos : Pos}
@[simp] def dTup (t : DTA) : DTE := fun E τ S Q => t E τ S fun ds S1 => ds.length ≤ sizeLine ∧ Q (.tup ds) S1
@[simp] def dLst (t : DTA) : DTE := fun E τ S Q => t E τ S fun ds S1 => ds.length ≤ sizeLine ∧ newO S1 (.lst ds) fun p S' => Q (.ref p) S'
theorem de_tup {x1} (h : DA X es t) : DE X (.Tuple es x1 pos) (dTup t) := by
  refine ⟨fun E E' τ S Q Q' he k q => h.mono _ _ _ _ _ _ he (fun ds S1 z => ⟨z.1, k _ _ z.2⟩) q, pE_imp (pe_tupN h.run) fun σ H Q ⟨E, τ, S, w, r, q⟩ => ?_⟩
  refine h.to w r q fun ds S1 vs H1 le w1 r1 rd z => ⟨by rw [← rd.length]; exact z.1, fun p _ _ hp => ?_⟩
  exact z.2 _ _ (le.trans (LeH.new hp)) (r1.rep.garb hp) ⟨p, vs, rfl, .inl ⟨_, _, upd_same⟩, rd.le (LeH.new hp)⟩
theorem de_lst (h : DA X es t) : DE X (.List es pos) (dLst t) := by
  refine ⟨fun E E' τ S Q Q' he k q => h.mono _ _ _ _ _ _ he (fun ds S1 z => ⟨z.1, fun p hp => k _ _ (z.2 p hp)⟩) q, pE_imp (pe_lst h.run) fun σ H Q ⟨E, τ, S, w, r, q⟩ => ?_⟩
  refine h.to w r q fun ds S1 vs H1 le w1 r1 rd z => ⟨by rw [← rd.length]; exact z.1, fun p hp => ?_⟩
  exact z.2 p (r1.rep.free hp) _ _ (le.trans (LeH.new hp)) (r1.rep.new hp (o := .lst ds) ⟨vs, upd_same, rd.le (LeH.new hp)⟩) rfl
@[simp] def dLstF (t : DTA) : DTE := fun E τ S Q => t E τ S fun ds S1 => ds.length ≤ sizeLine ∧ Q (.rol ds) S1
theorem de_lstF (h : DA X es t) : DE X (.List es pos) (dLstF t) := (de_fz (de_lst h)).sub (fun E E' τ S Q Q' he k q => h.mono _ _ _ _ _ _ he (fun ds S1 z => ⟨z.1, k _ _ z.2⟩) q) fun E τ S Q q => h.mono _ _ _ _ _ _ (fun _ _ _ _ z => z) (fun ds S1 z => ⟨z.1, fun p hp => fzK_new hp z.2⟩) q
/-- {} with int and text keys; with keys that are tuples of such -/
@[simp] def dDnK : DTE := fun _ _ S Q => newO S (.dK []) fun p S' => Q (.ref p) S'
/-- {k: v, ..}, the keys written texts -/
@[simp] def dPairs : List (Str × DTE) → DW → DSt → DH → (List (Key × D) → DH → Prop) → Prop
  | [], _, _, S, Q => Q [] S
  | (k, tv) :: r, E, τ, S, Q => tv E τ S fun d S1 => dPairs r E τ S1 fun kvs S2 => Q ((Sum.inr k, d) :: kvs) S2
def mergeD (kvs more : List (Key × D)) : List (Key × D) := more.foldl (fun acc kv => pt acc kv.1 kv.2) kvs
theorem merge_rk {K : PySem.W.Frag} {H : Hp} : ∀ {more kvs : List (Key × D)} {ms ws : List (Key × V)}, RKs K H more ms → RKs K H kvs ws → RKs K H (mergeD kvs more) (mergeK ws ms)
  | [], _, _, _, h, k => by cases h; exact k
  | (j, d) :: r, _, _, _, h, k => by
    obtain ⟨v, s, rfl, h1, h2⟩ := h
    show RKs K H (mergeD (pt _ j d) r) (mergeK (putK _ j v) s)
    exact merge_rk h2 (k.pt h1)
@[simp] def dDisp (prs : List (Str × DTE)) : DTE := fun E τ S Q => newO S (.dK []) fun p S1 => dPairs prs E τ S1 fun kvs S2 => S2 p = some (.dK []) ∧ Q (.ref p) (upo S2 p (.dK (mergeD [] kvs)))
inductive DPs (X : Cx) (pos : Pos) : List (Option Expr) → List Expr → List (Str × DTE) → Prop where
  | nil : DPs X pos [] [] []
  | cons {k : Str} {j : Nat} {kp : Pos} {v : Expr} {ks : List (Option Expr)} {vs : List Expr} {tv : DTE} {prs : List (Str × DTE)} : DE X v tv → DPs X pos ks vs prs → DPs X pos (some (.Constant (.str k) j kp) :: ks) (v :: vs) ((k, tv) :: prs)
def trsOf (X : Cx) (prs : List (Str × DTE)) : List (TE × TE) := prs.map fun q => (tC (.str q.1), upE X q.2)
theorem DPs.pps {ks : List (Option Expr)} {vs : List Expr} {prs : List (Str × DTE)} (h : DPs X pos ks vs prs) : PPs X pos ks vs (trsOf X prs) := by
  induction h with
  | nil => exact pps_nil
  | cons hv _ ih => exact pps_cons pe_str hv.run ih
theorem DPs.mono {ks : List (Option Expr)} {vs : List Expr} {prs : List (Str × DTE)} (h : DPs X pos ks vs prs) : ∀ (E E' : DW) τ S (Q Q' : List (Key × D) → DH → Prop), (∀ C fs τ S, E C fs τ S → E' C fs τ S) → (∀ d S', Q d S' → Q' d S') → dPairs prs E τ S Q → dPairs prs E' τ S Q' := by
  induction h with
  | nil => exact fun _ _ _ _ _ _ _ k q => k _ _ q
  | cons hv _ ih => exact fun _ _ _ _ _ _ he k q => hv.mono _ _ _ _ _ _ he (fun d S1 z => ih _ _ _ _ _ _ he (fun _ _ z => k _ _ z) z) q
theorem DPs.to {ks : List (Option Expr)} {vs : List Expr} {prs : List (Str × DTE)} (h : DPs X pos ks vs prs) : ∀ {E : DW} {τ : DSt} {S : DH} {σ : L2.St} {H : Hp} {Q0 : List (Key × D) → DH → Prop} {Q : List (V × V) → Hp → Prop}, Wish X E H → Rel X.w X.K τ S σ H → dPairs prs E τ S Q0 →
    (∀ kvs S' (ws : List (Key × V)) H', LeH H H' → Wish X E H' → Rel X.w X.K τ S' σ H' → RKs X.K H' kvs ws → kvs.length = prs.length → Q0 kvs S' → Q (ws.map fun kv => (kV kv.1, kv.2)) H') → tPairs (trsOf X prs) σ H Q := by
  induction h with
  | nil => exact fun w r q k => k [] _ [] _ (LeH.refl _) w r rfl rfl q
  | @cons kk j kp v ks vs tv prs hv _ ih =>
    intro E τ S σ H Q0 Q w r q k
    refine hv.to w r q fun d S1 x H1 le1 w1 r1 rd z => ih w1 r1 z fun kvs S2 ws H2 le2 w2 r2 rk hl z => ?_
    exact k ((Sum.inr kk, d) :: kvs) S2 ((Sum.inr kk, x) :: ws) H2 (le1.trans le2) w2 r2 ⟨x, ws, rfl, rd.le le2, rk⟩ (by simp [hl]) z
theorem de_disp {ks : List (Option Expr)} {vs : List Expr} {prs : List (Str × DTE)} (h : DPs X pos ks vs prs) (hall : ks.all (·.isSome) = true := by rfl) (hl : ks.length = vs.length := by rfl) (h0 : ks ≠ [] := by exact fun z => nomatch z) (h15 : ks.length ≤ 15 := by decide) (h16 : prs.length ≤ 15 := by decide) : DE X (.Dict ks vs pos) (dDisp prs) := by
  refine ⟨fun E E' τ S Q Q' he k q p hp => h.mono _ _ _ _ _ _ he (fun kvs S2 z => ⟨z.1, k _ _ z.2⟩) (q p hp), pE_imp (pe_disp h.pps hall hl h0 h15) fun σ H Q ⟨E, τ, S, w, r, q⟩ p hp => ?_⟩
  have le0 : LeH H (upd H p (.dK [])) := LeH.new hp
  have r0 : Rel X.w X.K τ (upo S p (.dK [])) σ (upd H p (.dK [])) := r.le le0 (r.rep.new hp (o := .dK []) ⟨[], upd_same, rfl⟩)
  refine h.to (w.le le0) r0 (q p (r.rep.free hp)) fun kvs S2 ws H2 le2 w2 r2 rk hlen z => ?_
  obtain ⟨ws0, e0, rk0⟩ : ∃ ws, H2 p = some (.dK ws) ∧ RKs X.K H2 [] ws := r2.rep p _ z.1
  cases rk0
  have le3 : LeH H2 (upd H2 p (.dK (mergeK [] ws))) := LeH.put e0 trivial
  exact ⟨e0, ws, rfl, by rw [← rk.length, hlen]; exact h16, z.2 _ _ (le0.trans (le2.trans le3)) (r2.rep.put e0 trivial (o := .dK (mergeD [] kvs)) ⟨_, upd_same, (merge_rk rk (show RKs X.K H2 ([] : List (Key × D)) [] from rfl)).le le3⟩) rfl⟩
end

/-! ### o[i] = e -/
section
variable {X : Cx} {o i value : Expr} {to ti tv : DTE} {pos pos' : Pos}
/-- what the place's object becomes -/
@[simp] def putO (ob : Ob) (k v : D) : Option Ob := match ob, k with
  | .lst ds, .int i => (ixN ds.length i).map fun j => .lst (ds.set j v)
  | .dK kvs, k => (dkey k).bind fun kk => if kvs.length < sizeLine then some (.dK (pt kvs kk v)) else none
  | .dN kvs, k => if okT k = true ∧ kvs.length < sizeLine then some (.dN (pt kvs k v)) else none
  | _, _ => none
@[simp] def dPut (to ti tv : DTE) : DTS := fun A τ S => tv A.xe τ S fun v S1 => to A.xe τ S1 fun d S2 => ti A.xe τ S2 fun k S3 => match d with
  | .ref a => opt (S3 a) fun ob => opt (putO ob k v) fun ob' => A.nx τ (upo S3 a ob')
  | _ => False
/-- what a store asks, told of data -/
def rPutD (K : PySem.W.Frag) (w : World) : TSet := fun o i v H Q => rSetL o i v H Q ∨ (∃ a H4, o = .ref a ∧ DPut H a i v H4 ∧ Q H4) ∨
  ∃ a kvs k d, o = .ref a ∧ ROb w K H a (.dN kvs) ∧ okT k = true ∧ RD K H k i ∧ RD K H d v ∧ kvs.length < sizeLine ∧ ∀ rows, LeH H (upd H a (dnHO w rows a)) → ROb w K (upd H a (dnHO w rows a)) a (.dN (pt kvs k d)) → Q (upd H a (dnHO w rows a))
theorem set_both (hu : X.A.units + 120 < cLine) : PSet X (rPutD X.K X.w) := by
  intro pins s σ H o i v ov iv u Q I ro ri rv h
  rcases h with h | ⟨a, H4, rfl, g, q⟩ | ⟨a, kvs, k, d, rfl, rb, hk, rk, rd, hl, q⟩
  · exact set_list pins s σ H o i v ov iv u Q I ro ri rv h
  · cases ro
    exact d_setItem (by omega) I g ri rv fun s4 I4 => ⟨H4, I4, q⟩
  · cases ro
    obtain ⟨xs, dd, rx', hsys, _, nd, mu⟩ := dn_open I rb
    obtain ⟨nk, b, ek, hd8, rfl, rfl, his⟩ := okT_key I hk rk ri
    refine wpAny_setItem_heap (show X.A.units + 1 + 8 < cLine by omega) his dd (fun h' dd' sb => ?_) (by rw [← rx'.length]; omega)
    obtain ⟨rows, I2, le, rb2⟩ := dn_close (t := s.toks + (nestedKind X.prog X.w).draws nk) I mu hsys (rx'.pt ek hd8 rk rv rd) (by have := pt_len kvs k d; omega) (pt_nodup k d nd) dd' sb
    exact ⟨_, I2, q rows le rb2⟩
theorem ds_put (hu : X.A.units + 120 < cLine) (ho : DE X o to) (hi : DE X i ti) (hv : DE X value tv) (hs : swapsWithSole [.Subscript o i pos'] value pos.line X.env = pure false := by rfl) (hw : swappedStores [.Subscript o i pos'] value X.env = pure none := by rfl)
    (h1 : (assignEach [.Subscript o i pos'] X.env).map (·.2) = [assign (.Subscript o i pos') X.env] := by rfl)
    (ha : ∀ v, assign (.Subscript o i pos') X.env v = (do let ov ← holding [v] (eval o X.env); let iv ← holding [v, ov] (eval i X.env); standAt pos'; holding [v, ov, iv] (setItem ov iv v); release [v, ov, iv] []) := by intro _; rfl) :
    DS X (.Assign [.Subscript o i pos'] value pos) (dPut to ti tv) := by
  refine ⟨fun A B τ S le q => hv.mono _ _ _ _ _ _ le.xe (fun v S1 z => ho.mono _ _ _ _ _ _ le.xe (fun d S2 z => hi.mono _ _ _ _ _ _ le.xe (fun k S3 z => ?_) z) z) q,
    pS_imp (ps_asg hv.run (pg_sub ho.run hi.run (set_both hu) ha) hs hw h1) fun D σ H ⟨E, τ, S, w, r, q⟩ => ?_⟩
  · cases d <;> first | exact z | exact opt_mono (fun _ z => opt_mono (fun _ z => le.nx _ _ z) z) z
  · refine hv.to w r q fun v S1 x H1 le1 w1 r1 rv z => ho.to w1 r1 z fun d S2 y H2 le2 w2 r2 rd z => hi.to w2 r2 z fun k S3 u H3 le3 w3 r3 rk z => ?_
    cases d with
    | ref a =>
      cases rd
      obtain ⟨ob, ea, z⟩ := opt_ex z
      obtain ⟨ob', eo, z⟩ := opt_ex z
      have rv3 := rv.le (le2.trans le3)
      have le := le1.trans (le2.trans le3)
      cases ob with
      | lst ds =>
        cases k with
        | int n =>
          cases rk
          obtain ⟨xs, e0, rs⟩ : ∃ xs, H3 a = some (.lst xs) ∧ RDs X.K H3 ds xs := r3.rep a _ ea
          have eo' : (ixN ds.length n).map (fun j => Ob.lst (ds.set j v)) = some ob' := eo
          cases ej : ixN ds.length n with
          | none =>
            rw [ej] at eo'
            cases eo'
          | some j =>
            rw [ej] at eo'
            cases eo'
            have le4 : LeH H3 (upd H3 a (.lst (xs.set j x))) := LeH.put e0 trivial
            exact .inl ⟨a, xs, n, j, rfl, rfl, e0, by rw [← rs.length]; exact ej, z _ _ (le.trans le4) (r3.le le4 (r3.rep.put e0 trivial (o := .lst (ds.set j v)) ⟨_, upd_same, (rs.set j rv3).le le4⟩))⟩
        | _ => cases eo
      | dK kvs =>
        obtain ⟨ws, e0, rk0⟩ : ∃ ws, H3 a = some (.dK ws) ∧ RKs X.K H3 kvs ws := r3.rep a _ ea
        have eo' : ((dkey k).bind fun kk => if kvs.length < sizeLine then some (Ob.dK (pt kvs kk v)) else none) = some ob' := by
          cases k <;> exact eo
        cases ek : dkey k with
        | none =>
          rw [ek] at eo'
          cases eo'
        | some kk =>
          rw [ek, Option.bind_some] at eo'
          split at eo'
          · rename_i hl
            cases eo'
            have eu := dkey_rd ek rk
            subst eu
            have le4 : LeH H3 (upd H3 a (.dK (putK ws kk x))) := LeH.put e0 trivial
            exact .inr (.inl ⟨a, _, rfl, DPut.k e0 (by rw [← rk0.length]; exact hl), z _ _ (le.trans le4) (r3.le le4 (r3.rep.put e0 trivial (o := .dK (pt kvs kk v)) ⟨_, upd_same, (rk0.pt rv3).le le4⟩))⟩)
          · cases eo'
      | dN kvs =>
        have eo' : (if okT k = true ∧ kvs.length < sizeLine then some (Ob.dN (pt kvs k v)) else none) = some ob' := by
          cases k <;> exact eo
        split at eo'
        · rename_i hk
          cases eo'
          have rb := r3.rep a _ ea
          refine .inr (.inr ⟨a, kvs, k, v, rfl, rb, hk.1, rk, rv3, hk.2, fun rows le4 rb2 => z _ _ (le.trans le4) (r3.le le4 ?_)⟩)
          obtain ⟨rows0, e0, _⟩ := rb
          exact r3.rep.put e0 trivial rb2
        · cases eo'
      | ins C fs => cases k <;> cases eo
      | exc _ _ => cases k <;> cases eo
      | xd _ => cases k <;> cases eo
      | ex0 _ => cases k <;> cases eo
      | ex1 _ _ => cases k <;> cases eo
      | xm _ => cases k <;> cases eo
      | fK _ => cases k <;> cases eo
      | fN _ => cases k <;> cases eo
    | _ => exact z.elim
end
end Dt
set_option maxRecDepth 100000
set_option maxHeartbeats 4000000
/-! Dat6: built-ins by name, methods, what is walked, isinstance, names of the module. -/
namespace Dt
open PySem PySem.Spec L2

section
variable {X : Cx}
/-! ### calls -/
@[simp] def cLen : RCD := fun ds S Q => match ds with
  | [.str z] => z.length ≤ sizeLine ∧ Q (.int z.length) S
  | [.tup xs] => Q (.int xs.length) S
  | [.rol xs] => Q (.int xs.length) S
  | [.ref a] => (match S a with | some (.lst xs) => Q (.int xs.length) S | some (.dK kvs) => Q (.int kvs.length) S | some (.dN kvs) => Q (.int kvs.length) S | _ => False)
  | _ => False
theorem cd_len : CallD X (.builtin "len") cLen := by
  refine ⟨fun ds S Q Q' k h => ?_, fun pins s σ H vs us Q I rv ⟨ds, S, rep, rd, h⟩ => ?_⟩
  · match ds, h with
    | [.str z], h => exact ⟨h.1, k _ _ h.2⟩
    | [.tup xs], h => exact k _ _ h
    | [.rol xs], h => exact k _ _ h
    | [.ref a], h =>
      revert h
      show (match S a with | some (.lst xs) => _ | some (.dK kvs) => _ | some (.dN kvs) => _ | _ => False) → (match S a with | some (.lst xs) => _ | some (.dK kvs) => _ | some (.dN kvs) => _ | _ => False)
      split
      · exact k _ _
      · exact k _ _
      · exact k _ _
      · exact fun h => h
  · match ds, h with
    | [.str z], h =>
      obtain ⟨v, rfl, r⟩ := rds1 rd
      cases r
      exact call_len_str pins s σ H _ us Q I rv ⟨z, rfl, h.1, h.2 _ H (LeH.refl H) rep rfl⟩
    | [.tup xs], h =>
      obtain ⟨v, rfl, r⟩ := rds1 rd
      obtain ⟨p, ys, rfl, sq, rs⟩ : ∃ p ys, v = V.ref p ∧ SqTn X.K H p ys ∧ RDs X.K H xs ys := r
      exact call_len_seq pins s σ H _ us Q I rv ⟨p, ys, rfl, .inr sq, by rw [← rs.length]; exact h _ H (LeH.refl H) rep rfl⟩
    | [.rol xs], h =>
      obtain ⟨v, rfl, r⟩ := rds1 rd
      obtain ⟨p, ys, rfl, sq, rs⟩ : ∃ p ys, v = V.ref p ∧ SqR X.K H p ys ∧ RDs X.K H xs ys := r
      exact call_len_seq pins s σ H _ us Q I rv ⟨p, ys, rfl, .inl sq.l, by rw [← rs.length]; exact h _ H (LeH.refl H) rep rfl⟩
    | [.ref a], h =>
      obtain ⟨v, rfl, r⟩ := rds1 rd
      cases r
      revert h
      show (match S a with | some (.lst xs) => _ | some (.dK kvs) => _ | some (.dN kvs) => _ | _ => False) → _
      split
      · rename_i xs ea
        intro h
        obtain ⟨ys, e0, rs⟩ : ∃ ys, H a = some (.lst ys) ∧ RDs X.K H xs ys := rep a _ ea
        exact call_len_seq pins s σ H _ us Q I rv ⟨a, ys, rfl, .inl (.of e0), by rw [← rs.length]; exact h _ H (LeH.refl H) rep rfl⟩
      · rename_i kvs ea
        intro h
        obtain ⟨ws, e0, rk⟩ : ∃ ws, H a = some (.dK ws) ∧ RKs X.K H kvs ws := rep a _ ea
        exact call_lenD pins s σ H _ us Q I rv ⟨a, ws, rfl, e0, by rw [← rk.length]; exact h _ H (LeH.refl H) rep rfl⟩
      · rename_i kvs ea
        intro h
        obtain ⟨xs, dd, rx', hsys, hl, nd, mu⟩ := dn_open I (rep a _ ea)
        rw [Vals.ref1 rv]
        refine call_len_dictH hsys dd (by rw [← rx'.length]; rw [sizeLine_eq] at hl; omega) ?_
        rw [← rx'.length]
        exact ⟨.int ((kvs.length : Nat) : Int), H, I.tok _, ⟨_, rfl⟩, h _ H (LeH.refl H) rep rfl⟩
      · exact fun h => h.elim
@[simp] def cMax2 : RCD := fun ds S Q => match ds with | [.int i, .int j] => Q (.int (if j > i then j else i)) S | _ => False
@[simp] def cMin2 : RCD := fun ds S Q => match ds with | [.int i, .int j] => Q (.int (if j < i then j else i)) S | _ => False
theorem cd_max2 (hc : X.calm = true) : CallD X (.builtin "max") cMax2 := by
  refine ⟨fun ds S Q Q' k h => ?_, fun pins s σ H vs us Q I rv ⟨ds, S, rep, rd, h⟩ => ?_⟩
  · match ds, h with | [.int i, .int j], h => exact k _ _ h
  · match ds, h with
    | [.int i, .int j], h =>
      obtain ⟨v, u, rfl, r1, r2⟩ := rds2 rd
      cases r1; cases r2
      exact call_max2 hc pins s σ H _ us Q I rv ⟨i, j, rfl, h _ H (LeH.refl H) rep rfl⟩
theorem cd_min2 (hc : X.calm = true) : CallD X (.builtin "min") cMin2 := by
  refine ⟨fun ds S Q Q' k h => ?_, fun pins s σ H vs us Q I rv ⟨ds, S, rep, rd, h⟩ => ?_⟩
  · match ds, h with | [.int i, .int j], h => exact k _ _ h
  · match ds, h with
    | [.int i, .int j], h =>
      obtain ⟨v, u, rfl, r1, r2⟩ := rds2 rd
      cases r1; cases r2
      exact call_min2 hc pins s σ H _ us Q I rv ⟨i, j, rfl, h _ H (LeH.refl H) rep rfl⟩
def cMinL : RCD := fun ds S Q => ∃ (d : D) (ns : List Int), ds = [d] ∧ seqD S d = some (ns.map D.int) ∧ 0 < ns.length ∧ ∀ m, m ∈ ns → (∀ y, y ∈ ns → m ≤ y) → Q (.int m) S
def cMaxL : RCD := fun ds S Q => ∃ (d : D) (ns : List Int), ds = [d] ∧ seqD S d = some (ns.map D.int) ∧ 0 < ns.length ∧ ∀ m, m ∈ ns → (∀ y, y ∈ ns → y ≤ m) → Q (.int m) S
theorem cd_minL (hc : X.calm = true) : CallD X (.builtin "min") cMinL := by
  refine ⟨fun ds S Q Q' k ⟨a, ns, e, h1, h2, h⟩ => ⟨a, ns, e, h1, h2, fun m hm hy => k _ _ (h m hm hy)⟩, fun pins s σ H vs us Q I rv ⟨ds, S, rep, rd, d, ns, e, h1, h2, h⟩ => ?_⟩
  subst e
  obtain ⟨v, rfl, r⟩ := rds1 rd
  obtain ⟨a, ys, rfl, sq, rs⟩ := seqD_rd rep r h1
  rw [RDs.ints.mp rs] at sq
  exact cr_min hc pins s σ H _ us Q I rv ⟨a, ns, rfl, sq.l, h2, fun m hm hy => h m hm hy _ H (LeH.refl H) rep rfl⟩
def cAll : RCD := fun ds S Q => ∃ (d : D) (bs : List Bool), ds = [d] ∧ seqD S d = some (bs.map D.bl) ∧ Q (.bl (bs.all id)) S
def cAny : RCD := fun ds S Q => ∃ (d : D) (bs : List Bool), ds = [d] ∧ seqD S d = some (bs.map D.bl) ∧ Q (.bl (bs.any id)) S
theorem cd_all (hc : X.calm = true) : CallD X (.builtin "all") cAll := by
  refine ⟨fun ds S Q Q' k ⟨a, ns, e, h1, h⟩ => ⟨a, ns, e, h1, k _ _ h⟩, fun pins s σ H vs us Q I rv ⟨ds, S, rep, rd, d, ns, e, h1, h⟩ => ?_⟩
  subst e
  obtain ⟨v, rfl, r⟩ := rds1 rd
  obtain ⟨a, ys, rfl, sq, rs⟩ := seqD_rd rep r h1
  rw [RDs.bls.mp rs] at sq
  exact cr_all hc pins s σ H _ us Q I rv ⟨a, ns, rfl, sq.l, h _ H (LeH.refl H) rep rfl⟩
@[simp] def cList : RCD := fun ds S Q => match ds with
  | [.tup xs] => newO S (.lst xs) fun p S' => Q (.ref p) S'
  | [.rol xs] => newO S (.lst xs) fun p S' => Q (.ref p) S'
  | [.ref a] => (match S a with | some (.lst xs) => newO S (.lst xs) fun p S' => Q (.ref p) S' | _ => False)
  | _ => False
theorem cd_list : CallD X (.type "list") cList := by
  refine ⟨fun ds S Q Q' k h => ?_, fun pins s σ H vs us Q I rv ⟨ds, S, rep, rd, h⟩ => ?_⟩
  · match ds, h with
    | [.tup xs], h => exact fun p hp => k _ _ (h p hp)
    | [.rol xs], h => exact fun p hp => k _ _ (h p hp)
    | [.ref a], h =>
      revert h
      show (match S a with | some (.lst xs) => _ | _ => False) → (match S a with | some (.lst xs) => _ | _ => False)
      split
      · exact fun h p hp => k _ _ (h p hp)
      · exact fun h => h
  · match ds, h with
    | [.tup xs], h =>
      obtain ⟨v, rfl, r⟩ := rds1 rd
      obtain ⟨p, ys, rfl, sq, rs⟩ : ∃ p ys, v = V.ref p ∧ SqTn X.K H p ys ∧ RDs X.K H xs ys := r
      exact call_list_of pins s σ H _ us Q I rv ⟨p, ys, rfl, .inr sq, fun l hl => rep_new (Q0 := fun _ _ => True) rep hl rs (h l (rep.free hl))⟩
    | [.rol xs], h =>
      obtain ⟨v, rfl, r⟩ := rds1 rd
      obtain ⟨p, ys, rfl, sq, rs⟩ : ∃ p ys, v = V.ref p ∧ SqR X.K H p ys ∧ RDs X.K H xs ys := r
      exact call_list_of pins s σ H _ us Q I rv ⟨p, ys, rfl, .inl sq.l, fun l hl => rep_new (Q0 := fun _ _ => True) rep hl rs (h l (rep.free hl))⟩
    | [.ref a], h =>
      obtain ⟨v, rfl, r⟩ := rds1 rd
      cases r
      revert h
      show (match S a with | some (.lst xs) => _ | _ => False) → _
      split
      · rename_i xs ea
        intro h
        obtain ⟨ys, e0, rs⟩ : ∃ ys, H a = some (.lst ys) ∧ RDs X.K H xs ys := rep a _ ea
        exact call_list_of pins s σ H _ us Q I rv ⟨a, ys, rfl, .inl (.of e0), fun l hl => rep_new (Q0 := fun _ _ => True) rep hl rs (h l (rep.free hl))⟩
      · exact fun h => h.elim
theorem CallD.sub {f : Value} {r r' : RCD} (h : CallD X f r) (m : MonoC r') (k : ∀ ds S Q, r' ds S Q → r ds S Q) : CallD X f r' :=
  ⟨m, fun pins s σ H vs us Q I rv ⟨ds, S, rep, rd, q⟩ => h.run pins s σ H vs us Q I rv ⟨ds, S, rep, rd, k _ _ _ q⟩⟩
@[simp] def cFz (r : RCD) : RCD := fun ds S Q => r ds S (fzK Q)
theorem cd_fz {f : Value} {r : RCD} (h : CallD X f r) : CallD X f (cFz r) := by
  refine ⟨fun ds S Q Q' k q => h.mono _ _ _ _ (fzK_mono k) q, fun pins s σ H vs us Q I rv ⟨ds, S, rep, rd, q⟩ => ?_⟩
  refine thn (h.run pins s σ H vs us (fun v H1 => ∃ d S1, LeH H H1 ∧ Rep X.w X.K S1 H1 ∧ RD X.K H1 d v ∧ fzK (fun d S' => ∀ v H', LeH H H' → Rep X.w X.K S' H' → RD X.K H' d v → Q v H') d S1) I rv ⟨ds, S, rep, rd, h.mono _ _ _ _ (fun z S' y v H' le rp rz => ⟨z, S', le, rp, rz, y⟩) q⟩) fun u s' ⟨v, H1, I1, ru, d, S1, le, rp, rd, z⟩ => ?_
  exact fzK_to I1 rp rd ru z fun d S' v H' le' rp' rd' y => y v H' (le.trans le') rp' rd'
@[simp] def cListF : RCD := fun ds S Q => match ds with
  | [.tup xs] => Q (.rol xs) S
  | [d] => opt (seqD S d) fun xs => Q (.rol xs) S
  | _ => False
theorem cd_listF : CallD X (.type "list") cListF := (cd_fz cd_list).sub (fun ds S Q Q' k h => by
    unfold cListF at h ⊢
    split at h
    · exact k _ _ h
    · exact opt_mono (fun _ q => k _ _ q) h
    · exact h) fun ds S Q h => by
    unfold cListF at h
    unfold cFz cList
    split at h
    · exact fun p hp => fzK_new hp h
    · rename_i d _
      obtain ⟨xs, e, q⟩ := opt_ex h
      clear h
      cases d with
      | rol ys => cases e; exact fun p hp => fzK_new hp q
      | ref a =>
        simp only [seqD_ref] at e
        split at e
        · rename_i ys ea
          cases e
          simp only [ea]
          exact fun p hp => fzK_new hp q
        · cases e
      | _ => simp at e
    · exact h.elim
@[simp] def cTuple : RCD := fun ds S Q => match ds with
  | [.tup xs] => Q (.tup xs) S
  | [.rol xs] => Q (.tup xs) S
  | [.ref a] => (match S a with | some (.lst xs) => Q (.tup xs) S | _ => False)
  | _ => False
theorem cd_tuple : CallD X (.type "tuple") cTuple := by
  refine ⟨fun ds S Q Q' k h => ?_, fun pins s σ H vs us Q I rv ⟨ds, S, rep, rd, h⟩ => ?_⟩
  · match ds, h with
    | [.tup xs], h => exact k _ _ h
    | [.rol xs], h => exact k _ _ h
    | [.ref a], h =>
      revert h
      show (match S a with | some (.lst xs) => _ | _ => False) → (match S a with | some (.lst xs) => _ | _ => False)
      split
      · exact k _ _
      · exact fun h => h
  · match ds, h with
    | [.tup xs], h =>
      obtain ⟨v, rfl, r⟩ := rds1 rd
      obtain ⟨p, ys, rfl, sq, rs⟩ : ∃ p ys, v = V.ref p ∧ SqTn X.K H p ys ∧ RDs X.K H xs ys := r
      exact call_tupleT pins s σ H _ us Q I rv ⟨p, ys, rfl, sq, h _ H (LeH.refl H) rep ⟨p, ys, rfl, sq, rs⟩⟩
    | [.rol xs], h =>
      obtain ⟨v, rfl, r⟩ := rds1 rd
      obtain ⟨p, ys, rfl, sq, rs⟩ : ∃ p ys, v = V.ref p ∧ SqR X.K H p ys ∧ RDs X.K H xs ys := r
      exact call_tupleN pins s σ H _ us Q I rv ⟨p, ys, rfl, sq.l, fun l _ _ hl => rep_tup rep hl rs h⟩
    | [.ref a], h =>
      obtain ⟨v, rfl, r⟩ := rds1 rd
      cases r
      revert h
      show (match S a with | some (.lst xs) => _ | _ => False) → _
      split
      · rename_i xs ea
        intro h
        obtain ⟨ys, e0, rs⟩ : ∃ ys, H a = some (.lst ys) ∧ RDs X.K H xs ys := rep a _ ea
        exact call_tupleN pins s σ H _ us Q I rv ⟨a, ys, rfl, .of e0, fun l _ _ hl => rep_tup rep hl rs h⟩
      · exact fun h => h.elim
@[simp] def cInt : RCD := fun ds S Q => match ds with | [.int i] => Q (.int i) S | [.bl b] => Q (.int (if b then 1 else 0)) S | _ => False
theorem cd_int : CallD X (.type "int") cInt := by
  refine ⟨fun ds S Q Q' k h => ?_, fun pins s σ H vs us Q I rv ⟨ds, S, rep, rd, h⟩ => ?_⟩
  · match ds, h with
    | [.int i], h => exact k _ _ h
    | [.bl i], h => exact k _ _ h
  · match ds, h with
    | [.int i], h =>
      obtain ⟨v, rfl, r⟩ := rds1 rd
      cases r
      exact call_int1 pins s σ H _ us Q I rv (.inl ⟨i, rfl, h _ H (LeH.refl H) rep rfl⟩)
    | [.bl i], h =>
      obtain ⟨v, rfl, r⟩ := rds1 rd
      cases r
      exact call_int1 pins s σ H _ us Q I rv (.inr ⟨i, rfl, h _ H (LeH.refl H) rep rfl⟩)

/-! ### methods -/
abbrev RMD := D → List D → DH → DK → Prop
def MonoM (r : RMD) : Prop := ∀ d ds S (Q Q' : DK), (∀ d S', Q d S' → Q' d S') → r d ds S Q → r d ds S Q'
def upM (w : World) (K : PySem.W.Frag) (r : RMD) : V → List V → Hp → VK → Prop := fun x vs H Q => ∃ d ds S, Rep w K S H ∧ RD K H d x ∧ RDs K H ds vs ∧ r d ds S (lQ w K H Q)
structure MtD (X : Cx) (id : String) (r : RMD) : Prop where
  mono : MonoM r
  run : MtR X id (upM X.w X.K r)
@[simp] def tyD (T : String) (d : D) (S : DH) : Prop := match d with
  | .str _ => T = "str"
  | .rol _ => T = "list"
  | .tup _ => T = "tuple"
  | .ref a => (match S a with | some (.lst _) => T = "list" | some (.dK _) => T = "dict" | some (.dN _) => T = "dict" | _ => False)
  | _ => False
theorem tyD_is {pins : List (Addr × Obj)} {σ : L2.St} {s : Shared} {T : String} {d : D} {S : DH} {x : V} {v : Value} {H : Hp} (I : Inv X pins σ H s) (rep : Rep X.w X.K S H) (r : RD X.K H d x) (rv : RelV x v) (h : tyD T d S) :
    s.TypeIs v T ∧ ∀ a, v = .ref a → ∃ ob, s.heap.get? a = some ob ∧ ob.dict = none := by
  have via : tyV X.K T x H → s.TypeIs v T ∧ ∀ a, v = .ref a → ∃ ob, s.heap.get? a = some ob ∧ ob.dict = none := tyV_is I rv
  cases d with
  | str z => cases r; exact via h
  | rol ds =>
    obtain ⟨p, ys, rfl, sq, rs⟩ : ∃ p ys, x = V.ref p ∧ SqR X.K H p ys ∧ RDs X.K H ds ys := r
    exact via (.inl ⟨h, ys, sq.l⟩)
  | tup ds =>
    obtain ⟨p, ys, rfl, sq, rs⟩ : ∃ p ys, x = V.ref p ∧ SqTn X.K H p ys ∧ RDs X.K H ds ys := r
    have hT : T = "tuple" := h
    subst hT
    obtain rfl : v = Value.ref p := rv
    rcases sq with ⟨its, n, e⟩ | ⟨its, n, e, hz, rv⟩
    · obtain ⟨e1, _⟩ := (show ObjOk X.prog X.w H s.heap p (tupO its n ys) from I.hok p _ e)
      exact ⟨⟨_, e1, rfl⟩, fun b eb => by cases eb; exact ⟨_, e1, rfl⟩⟩
    · exact ⟨⟨_, I.kIn p _ e, rfl⟩, fun b eb => by cases eb; exact ⟨_, I.kIn p _ e, rfl⟩⟩
  | ref a =>
    cases r
    revert h
    show (match S a with | some (.lst _) => T = "list" | some (.dK _) => T = "dict" | some (.dN _) => T = "dict" | _ => False) → _
    split
    · rename_i xs ea
      obtain ⟨ys, e0, _⟩ : ∃ ys, H a = some (.lst ys) ∧ RDs X.K H xs ys := rep a _ ea
      exact fun h => via (.inl ⟨h, ys, .of e0⟩)
    · rename_i xs ea
      obtain ⟨ys, e0, _⟩ : ∃ ys, H a = some (.dK ys) ∧ RKs X.K H xs ys := rep a _ ea
      exact fun h => via (.inr (.inr (.inl ⟨h, .inl ⟨ys, e0⟩⟩)))
    · rename_i xs ea
      rintro rfl
      obtain ⟨xs, dd, _⟩ := dn_open I (rep a _ ea)
      cases (show v = .ref a from rv)
      refine ⟨dd.typeIs, fun b e => ?_⟩
      cases e
      obtain ⟨o, es, ep, ho, hx, _⟩ := dd
      exact ⟨o, ho, hx.2.1⟩
    · exact fun h => h.elim
  | _ => exact h.elim
@[simp] def dBM (T : String) (r : RMD) (to : DTE) (t : DTA) : DTE := fun E τ S Q => to E τ S fun d S1 => tyD T d S1 ∧ t E τ S1 fun ds S2 => r d ds S2 Q
variable {o e : Expr} {es : List Expr} {to te : DTE} {t : DTA} {name : Str} {apos cpos pos p : Pos} {T id : String} {r : RMD}
theorem de_bm0 (pa : PlainAttrs T) (slot : Slot T name id) (hty : typeOf (.builtin id) = pure (.type "method_descriptor")) (hm : MtD X id r) (ho : DE X o to)
    (hbase : attributeBase o name X.env (eval o X.env) = eval o X.env := by rfl) (hline : (apos.endLine == cpos.line) = true := by rfl) : DE X (.Call (.Attribute o name apos) [] [] cpos) (dBM T r to dNil) := by
  refine ⟨fun E E' τ S Q Q' he k q => ho.mono _ _ _ _ _ _ he (fun d S1 z => ⟨z.1, hm.mono _ _ _ _ _ k z.2⟩) q, ⟨fun pins s σ H Q I ⟨E, τ, S, w, rl, q⟩ => ?_⟩⟩
  refine wpAny_Call_method_late hbase (by rfl) hline rfl (thn (ho.run.run pins s σ H _ I (ho.to w rl q fun d S1 x H1 le1 w1 r1 rd z => (⟨d, S1, le1, r1, rd, z⟩ : ∃ d S1, LeH H H1 ∧ Rel X.w X.K τ S1 σ H1 ∧ RD X.K H1 d x ∧ tyD T d S1 ∧
    r d [] S1 fun d S' => ∀ v H', LeH H H' → Rep X.w X.K S' H' → RD X.K H' d v → Q v H'))) fun v s1 ⟨x, H1, I1, rx, d, S1, le1, r1, rd, ht, z⟩ => ?_)
  obtain ⟨h1, h2⟩ := tyD_is I1 r1.rep rd rx ht
  exact ⟨T, id, pa, slot, hty, h1, h2, Calls.callWith_builtin rfl (PySem.evalArgs_none (hm.run pins s1 σ H1 x [] v [] Q I1 rx .nil ⟨d, [], S1, r1.rep, rd, .nil, hm.mono _ _ _ _ _ (fun z S' y v H' le rp rz => y v H' (le1.trans le) rp rz) z⟩))⟩
theorem de_bm (pa : PlainAttrs T) (slot : Slot T name id) (hty : typeOf (.builtin id) = pure (.type "method_descriptor")) (hm : MtD X id r) (ho : DE X o to) (ha : DA X (e :: es) t)
    (hbase : attributeBase o name X.env (eval o X.env) = eval o X.env := by rfl)
    (hfew : ((backTo cpos (starEach (e :: es) X.env)).all (fun x => !x.1) && (backToKw cpos (keywordEach [] X.env)).all (fun x => x.1.isSome) && decide ((e :: es).length + ([] : List Keyword).length + (if ([] : List Keyword).isEmpty then 0 else 1) < 30)) = true := by rfl)
    (hline : (apos.endLine == cpos.line) = true := by rfl) (hs : starEach (e :: es) X.env = (false, eval e X.env) :: starEach es X.env := by rfl) (hplain : (backTo cpos (starEach es X.env)).any (·.1) = false := by rfl) :
    DE X (.Call (.Attribute o name apos) (e :: es) [] cpos) (dBM T r to t) := by
  refine ⟨fun E E' τ S Q Q' he k q => ho.mono _ _ _ _ _ _ he (fun d S1 z => ⟨z.1, ha.mono _ _ _ _ _ _ he (fun ds S2 z => hm.mono _ _ _ _ _ k z) z.2⟩) q, ⟨fun pins s σ H Q I ⟨E, τ, S, w, rl, q⟩ => ?_⟩⟩
  refine wpAny_Call_method_late hbase hfew hline rfl (thn (ho.run.run pins s σ H _ I (ho.to w rl q fun d S1 x H1 le1 w1 r1 rd z => (⟨d, S1, le1, w1, r1, rd, z⟩ : ∃ d S1, LeH H H1 ∧ Wish X E H1 ∧ Rel X.w X.K τ S1 σ H1 ∧ RD X.K H1 d x ∧ tyD T d S1 ∧
    t E τ S1 fun ds S2 => r d ds S2 fun d S' => ∀ v H', LeH H H' → Rep X.w X.K S' H' → RD X.K H' d v → Q v H'))) fun v s1 ⟨x, H1, I1, rx, d, S1, le1, w1, r1, rd, ht, z⟩ => ?_)
  obtain ⟨h1, h2⟩ := tyD_is I1 r1.rep rd rx ht
  refine ⟨T, id, pa, slot, hty, h1, h2, ?_⟩
  have hA := ha.run.run cpos pins s1 σ H1 _ I1 (ha.to w1 r1 z fun ds S2 vs H2 le2 w2 r2 rds z => (⟨ds, S2, le2, r2, rds, z⟩ : ∃ ds S2, LeH H1 H2 ∧ Rel X.w X.K τ S2 σ H2 ∧ RDs X.K H2 ds vs ∧
    r d ds S2 fun d S' => ∀ v H', LeH H H' → Rep X.w X.K S' H' → RD X.K H' d v → Q v H'))
  rw [hs] at hA ⊢
  refine Calls.callWith_builtin (by show (false || (backTo cpos (starEach es X.env)).any (·.1)) = false; rw [hplain] <;> rfl) (Calls.evalArgs_plain ?_)
  exact thn hA fun us s2 ⟨vs, H2, I2, rv2, ds, S2, le2, r2, rds, z⟩ => hm.run pins s2 σ H2 x vs v us Q I2 rx rv2 ⟨d, ds, S2, r2.rep, rd.le le2, rds, hm.mono _ _ _ _ _ (fun z S' y v H' le rp rz => y v H' (le1.trans (le2.trans le)) rp rz) z⟩
/-- a method that changes the list at a -/
@[simp] def mLst (ds : List D) (d : D) (S : DH) (Q : List D → (List D → DH) → Prop) : Prop := match d with | .ref a => (match S a with | some (.lst xs) => Q xs fun ys => upo S a (.lst ys) | _ => False) | _ => False
@[simp] def mAppend : RMD := fun d ds S Q => mLst ds d S fun xs up => match ds with | [y] => xs.length < sizeLine ∧ Q .non (up (xs ++ [y])) | _ => False
theorem mLst_mono {ds : List D} {d : D} {S : DH} {Q Q' : List D → (List D → DH) → Prop} (k : ∀ a xs, d = .ref a → S a = some (.lst xs) → Q xs (fun ys => upo S a (.lst ys)) → Q' xs (fun ys => upo S a (.lst ys))) (h : mLst ds d S Q) : mLst ds d S Q' := by
  cases d with
  | ref a =>
    revert h
    show (match S a with | some (.lst xs) => _ | _ => False) → (match S a with | some (.lst xs) => _ | _ => False)
    split
    · rename_i xs ea
      exact k a xs rfl ea
    · exact fun h => h
  | _ => exact h
theorem mLst_ex {ds : List D} {d : D} {S : DH} {Q : List D → (List D → DH) → Prop} (h : mLst ds d S Q) : ∃ a xs, d = .ref a ∧ S a = some (.lst xs) ∧ Q xs fun ys => upo S a (.lst ys) := by
  cases d with
  | ref a =>
    revert h
    show (match S a with | some (.lst xs) => _ | _ => False) → _
    split
    · rename_i xs ea
      exact fun h => ⟨a, xs, rfl, ea, h⟩
    · exact fun h => h.elim
  | _ => exact h.elim
theorem md_append : MtD X "list.append" mAppend := by
  refine ⟨fun d ds S Q Q' k h => mLst_mono (fun a xs e1 e2 z => ?_) h, fun pins s σ H x vs v us Q I rx rv ⟨d, ds, S, rep, rd, rds, h⟩ => ?_⟩
  · match ds, z with | [y], z => exact ⟨z.1, k _ _ z.2⟩
  · obtain ⟨a, xs, rfl, ea, z⟩ := mLst_ex h
    match ds, z with
    | [y], z =>
      cases rd
      obtain ⟨u, rfl, ru⟩ := rds1 rds
      obtain ⟨ys, e0, rs⟩ : ∃ ys, H a = some (.lst ys) ∧ RDs X.K H xs ys := rep a _ ea
      have le : LeH H (upd H a (.lst (ys ++ [u]))) := LeH.put e0 trivial
      exact mt_append pins s σ H _ _ v us Q I rx rv ⟨a, ys, u, rfl, rfl, e0, by rw [← rs.length]; exact z.1, z.2 _ _ le (rep.put e0 trivial (o := .lst (xs ++ [y])) ⟨_, upd_same, (rs.snoc ru).le le⟩) rfl⟩
@[simp] def mExtend : RMD := fun d ds S Q => mLst ds d S fun xs up => match ds with | [e] => opt (seqD S e) fun zs => xs.length + zs.length ≤ sizeLine ∧ Q .non (up (xs ++ zs)) | _ => False
def rExtendX (K : PySem.W.Frag) : V → List V → Hp → VK → Prop := fun x vs H Q => ∃ l b xs zs, x = .ref l ∧ vs = [.ref b] ∧ H l = some (.lst xs) ∧ SqX K H b zs ∧ xs.length + zs.length ≤ sizeLine ∧ Q .non (upd H l (.lst (xs ++ zs)))
theorem mt_extendX : MtM X "list.extend" (rExtendX X.K) := by
  intro pins s σ H x vs v us Q I rx rv h
  obtain ⟨l, b, xs, zs, rfl, rfl, hH, hB, hz, q⟩ := h
  cases rx
  obtain ⟨u, rfl, ru⟩ := rv.one
  cases ru
  obtain ⟨z, its, n, r, hl, e⟩ := I.lstM hH
  obtain ⟨its2, n2, r2, z2, hl2, e2⟩ := sqX_get I hB
  have hsz : its.toArray.size + its2.toArray.size ≤ sizeLine := by rw [List.size_toArray, List.size_toArray]; omega
  have hlong : ¬ (!its.toArray.isEmpty && Builtin.List.listTooLong (its.toArray.size + its2.toArray.size)) = true := by
    rw [notLongL hsz, Bool.and_false]
    exact Bool.false_ne_true
  refine call_meets F.slot_list_extend ⟨_, e, rfl⟩ F.entry_list_extend (F.args_list_extend_2 _ _)
    (AutoSeq1.list_extend_list_list_0 l its.toArray n b its2.toArray n2 hlong (by rw [List.size_toArray]; omega) (by omega)) ⟨e, e2, ?_⟩
  refine ⟨.non, _, I.lset (its' := its ++ its2) hH e (by simp) (r.append r2) ?_, rfl, q⟩
  rw [List.length_append]
  omega
theorem md_extend : MtD X "list.extend" mExtend := by
  refine ⟨fun d ds S Q Q' k h => mLst_mono (fun a xs e1 e2 z => ?_) h, fun pins s σ H x vs v us Q I rx rv ⟨d, ds, S, rep, rd, rds, h⟩ => ?_⟩
  · match ds, z with
    | [e], z => exact opt_mono (fun _ z => ⟨z.1, k _ _ z.2⟩) z
  · obtain ⟨a, xs, rfl, ea, z⟩ := mLst_ex h
    match ds, z with
    | [e], z =>
      cases rd
      obtain ⟨u, rfl, ru⟩ := rds1 rds
      obtain ⟨zs, eb, z⟩ := opt_ex z
      obtain ⟨b, ws, rfl, sb, rs1⟩ := seqD_rd rep ru eb
      obtain ⟨ys, e0, rs⟩ : ∃ ys, H a = some (.lst ys) ∧ RDs X.K H xs ys := rep a _ ea
      have le : LeH H (upd H a (.lst (ys ++ ws))) := LeH.put e0 trivial
      exact mt_extendX pins s σ H _ _ v us Q I rx rv ⟨a, b, ys, ws, rfl, rfl, e0, sb, by rw [← rs.length, ← rs1.length]; exact z.1, z.2 _ _ le (rep.put e0 trivial (o := .lst (xs ++ zs)) ⟨_, upd_same, (rs.append rs1).le le⟩) rfl⟩
@[simp] def mPop : RMD := fun d ds S Q => mLst ds d S fun xs up => match ds with | [] => opt xs[xs.length - 1]? fun y => Q y (up xs.dropLast) | _ => False
theorem md_pop : MtD X "list.pop" mPop := by
  refine ⟨fun d ds S Q Q' k h => mLst_mono (fun a xs e1 e2 z => ?_) h, fun pins s σ H x vs v us Q I rx rv ⟨d, ds, S, rep, rd, rds, h⟩ => ?_⟩
  · match ds, z with | [], z => exact opt_mono (fun _ z => k _ _ z) z
  · obtain ⟨a, xs, rfl, ea, z⟩ := mLst_ex h
    match ds, z with
    | [], z =>
      cases rd
      cases rds
      obtain ⟨y, ey, z⟩ := opt_ex z
      obtain ⟨ys, e0, rs⟩ : ∃ ys, H a = some (.lst ys) ∧ RDs X.K H xs ys := rep a _ ea
      obtain ⟨u, eu, ru⟩ := rs.get ey
      have le : LeH H (upd H a (.lst ys.dropLast)) := LeH.put e0 trivial
      exact mt_pop pins s σ H _ _ v us Q I rx rv ⟨a, ys, u, rfl, rfl, e0, by rw [← rs.length]; exact eu, z _ _ le (rep.put e0 trivial (o := .lst xs.dropLast) ⟨_, upd_same, rs.dropLast.le le⟩) (ru.le le)⟩
@[simp] def mReverse : RMD := fun d ds S Q => mLst ds d S fun xs up => match ds with | [] => Q .non (up xs.reverse) | _ => False
def mJoin : RMD := fun d ds S Q => ∃ (a : Str) (e : D) (ys : List Str), d = .str a ∧ ds = [e] ∧ (seqD S e = some (ys.map D.str) ∨ e = .tup (ys.map D.str)) ∧ (ys.map (·.length)).sum + ys.length * a.length ≤ 16777216 ∧ Q (.str (Txt.join a ys)) S
theorem md_join : MtD X "str.join" mJoin := by
  refine ⟨fun d ds S Q Q' k ⟨a, p, ys, e1, e2, h1, h2, h⟩ => ⟨a, p, ys, e1, e2, h1, h2, k _ _ h⟩, fun pins s σ H x vs v us Q I rx rv ⟨d, ds, S, rep, rd, rds, a, e, ys, e1, e2, h1, h2, h⟩ => ?_⟩
  subst e1 e2
  cases rd
  obtain ⟨u, rfl, ru⟩ := rds1 rds
  rcases h1 with h1 | rfl
  · obtain ⟨p, ws, rfl, sq, rs⟩ := seqD_rd rep ru h1
    rw [RDs.strs.mp rs] at sq
    exact mt_join pins s σ H _ _ v us Q I rx rv ⟨a, p, ys, rfl, rfl, .inl sq.l, h2, h _ H (LeH.refl H) rep rfl⟩
  · obtain ⟨p, ws, rfl, sq, rs⟩ : ∃ p ws, u = V.ref p ∧ SqTn X.K H p ws ∧ RDs X.K H (ys.map D.str) ws := ru
    rw [RDs.strs.mp rs] at sq
    exact mt_join pins s σ H _ _ v us Q I rx rv ⟨a, p, ys, rfl, rfl, .inr sq, h2, h _ H (LeH.refl H) rep rfl⟩
@[simp] def mFind : RMD := fun d ds S Q => match d, ds with | .str a, [.str b] => Q (.int (Txt.find a b)) S | _, _ => False
theorem md_find : MtD X "str.find" mFind := by
  refine ⟨fun d ds S Q Q' k h => ?_, fun pins s σ H x vs v us Q I rx rv ⟨d, ds, S, rep, rd, rds, h⟩ => ?_⟩
  · match d, ds, h with | .str a, [.str b], h => exact k _ _ h
  · match d, ds, h with
    | .str a, [.str b], h =>
      cases rd
      obtain ⟨u, rfl, ru⟩ := rds1 rds
      cases ru
      exact mt_find pins s σ H _ _ v us Q I rx rv ⟨a, b, rfl, rfl, h _ H (LeH.refl H) rep rfl⟩
end

/-! ### what is walked -/
section
variable {X : Cx} {tg l : Expr} {tl : DTE} {ta : DTA} {p pos : Pos}
def iAny (K : PySem.W.Frag) (tl : TE) : TI := fun σ H R => tl σ H fun x H1 => (∃ a, x = .ref a ∧ (∃ xs, SqL K H1 a xs) ∧ R (Itl K a) H1) ∨ (∃ a, x = .ref a ∧ (∃ xs, SqT K H1 a xs) ∧ R (Itt K a) H1) ∨ ∃ z, x = .str z ∧ R (Its z) H1
theorem pi_any {tl : TE} (hl : PE X l tl) : PI X tg l (iAny X.K tl) := by
  refine ⟨fun pins s σ H R I h => thn (hl.run pins s σ H _ I h) fun v s1 ⟨x, H1, I1, r1, q1⟩ => ?_⟩
  rcases q1 with ⟨a, rfl, ⟨xs, hq⟩, q⟩ | ⟨a, rfl, ⟨xs, hq⟩, q⟩ | ⟨z, rfl, q⟩
  · cases r1
    obtain ⟨its, rv, pl, hz⟩ := I1.list hq
    exact PySem.wpAny_pyIter_list pl.isList (pi_one (tk := s1.toks) I1 _ (turn_list a _) ⟨_, Heap.get?_push_size _ rfl, rfl, rfl⟩ q)
  · cases r1
    obtain ⟨its, rv, pl, hz⟩ := I1.tuple hq
    exact PySem.wpAny_pyIter_tuple (show s1.heap.IsTuple a its.toArray from pl) (pi_one (tk := s1.toks) I1 _ (turn_tuple a _) ⟨_, Heap.get?_push_size _ rfl, rfl, rfl⟩ q)
  · obtain ⟨t, rfl⟩ := r1
    cases ha : z.cps.all (· < 128)
    · exact PySem.wpAny_pyIter_wide ha (pi_one (tk := s1.toks) I1 _ (turn_str _ z t "str_iterator" (.inr rfl)) ⟨_, Heap.get?_push_size _ rfl, rfl, rfl⟩ q)
    · exact PySem.wpAny_pyIter_ascii ha (pi_one (tk := s1.toks) I1 _ (turn_str _ z t "str_ascii_iterator" (.inl rfl)) ⟨_, Heap.get?_push_size _ rfl, rfl, rfl⟩ q)
def signD (c : Nat) : D := .str ⟨#[c]⟩
@[simp] def dSeqI (tl : DTE) : DTI := fun E τ S R => tl E τ S fun d S1 => match d with
  | .tup ds => R (fun _ => True) ds S1
  | .rol ds => R (fun _ => True) ds S1
  | .str z => R (fun _ => True) (z.cps.toList.map signD) S1
  | .ref a => (match S1 a with | some (.lst ds) => R (fun S => S a = some (.lst ds)) ds S1 | _ => False)
  | _ => False
theorem feeds_seqL {w : World} {K : PySem.W.Frag} {H0 : Hp} {a : Addr} {ds : List D} {G : DH → Prop} (h : ∀ S H, LeH H0 H → Rep w K S H → G S → ∃ xs, SqL K H a xs ∧ RDs K H ds xs) : Feeds w K H0 (Itl K a) G ds where
  go := fun i S H le rp g hi => by
    obtain ⟨xs, sq, rs⟩ := h S H le rp g
    exact ⟨xs, xs[i]'(by rw [← rs.length]; exact hi), sq, by simp⟩
  yld := fun i S H x H' le rp g hi ⟨e, y⟩ => by
    subst e
    obtain ⟨xs, sq, rs⟩ := h S _ le rp g
    obtain ⟨d, e, r⟩ := rs.got (y xs sq)
    exact ⟨LeH.refl _, rp, d, e, r⟩
  stop := fun S H le rp g => by
    obtain ⟨xs, sq, rs⟩ := h S H le rp g
    exact ⟨xs, sq, by rw [rs.length]; exact Nat.le_refl _⟩
theorem feeds_seqT {w : World} {K : PySem.W.Frag} {H0 : Hp} {a : Addr} {ds : List D} {G : DH → Prop} (h : ∀ S H, LeH H0 H → Rep w K S H → G S → ∃ xs, SqTn K H a xs ∧ RDs K H ds xs) : Feeds w K H0 (Itt K a) G ds where
  go := fun i S H le rp g hi => by
    obtain ⟨xs, sq, rs⟩ := h S H le rp g
    exact ⟨xs, xs[i]'(by rw [← rs.length]; exact hi), sq, by simp⟩
  yld := fun i S H x H' le rp g hi ⟨e, y⟩ => by
    subst e
    obtain ⟨xs, sq, rs⟩ := h S _ le rp g
    obtain ⟨d, e, r⟩ := rs.got (y xs sq)
    exact ⟨LeH.refl _, rp, d, e, r⟩
  stop := fun S H le rp g => by
    obtain ⟨xs, sq, rs⟩ := h S H le rp g
    exact ⟨xs, sq, by rw [rs.length]; exact Nat.le_refl _⟩
theorem feeds_str {w : World} {K : PySem.W.Frag} {H0 : Hp} {z : Str} {G : DH → Prop} : Feeds w K H0 (Its z) G (z.cps.toList.map signD) where
  go := fun i S H le rp g hi => by
    show i < z.cps.size
    simpa using hi
  yld := fun i S H x H' le rp g hi ⟨e, c, ec, ex⟩ => by
    subst e ex
    refine ⟨LeH.refl _, rp, signD c, ?_, rfl⟩
    rw [List.getElem?_map, Array.getElem?_toList, ec]
    rfl
  stop := fun S H le rp g => by
    show z.cps.size ≤ (z.cps.toList.map signD).length
    simp
theorem di_seq (hl : DE X l tl) : DI X tg l (dSeqI tl) := by
  refine ⟨fun E E' τ S Q Q' he k q => hl.mono _ _ _ _ _ _ he (fun d S1 z => ?_) q, pI_imp (pi_any hl.run) fun σ H R ⟨E, τ, S, w, r, q⟩ => ?_⟩
  · cases d with
    | tup ds => exact k _ _ _ z
    | rol ds => exact k _ _ _ z
    | str ds => exact k _ _ _ z
    | ref a =>
      revert z
      show (match S1 a with | some (.lst ds) => _ | _ => False) → (match S1 a with | some (.lst ds) => _ | _ => False)
      split
      · exact k _ _ _
      · exact fun z => z
    | _ => exact z
  · refine hl.to w r q fun d S1 x H1 le w1 r1 rd z => ?_
    cases d with
    | tup ds =>
      obtain ⟨p, ys, rfl, sq, rs⟩ : ∃ p ys, x = V.ref p ∧ SqTn X.K H1 p ys ∧ RDs X.K H1 ds ys := rd
      exact .inr (.inl ⟨p, rfl, ⟨ys, sq⟩, z _ H1 le r1.rep (feeds_seqT fun S H le rp g => ⟨ys, sq.le le, rs.le le⟩)⟩)
    | rol ds =>
      obtain ⟨p, ys, rfl, sq, rs⟩ : ∃ p ys, x = V.ref p ∧ SqR X.K H1 p ys ∧ RDs X.K H1 ds ys := rd
      exact .inl ⟨p, rfl, ⟨ys, sq.l⟩, z _ H1 le r1.rep (feeds_seqL fun S H le rp g => ⟨ys, (sq.le le).l, rs.le le⟩)⟩
    | str y =>
      cases rd
      exact .inr (.inr ⟨y, rfl, z _ H1 le r1.rep feeds_str⟩)
    | ref a =>
      cases rd
      revert z
      show (match S1 a with | some (.lst ds) => _ | _ => False) → _
      split
      · rename_i ds ea
        intro z
        obtain ⟨ys, e0, rs⟩ : ∃ ys, H1 a = some (.lst ys) ∧ RDs X.K H1 ds ys := r1.rep a _ ea
        exact .inl ⟨a, rfl, ⟨ys, .of e0⟩, z _ H1 le r1.rep (feeds_seqL fun S H le rp g => by
          obtain ⟨zs, e1, rz⟩ : ∃ ys, H a = some (.lst ys) ∧ RDs X.K H ds ys := rp a _ g
          exact ⟨zs, .of e1, rz⟩)⟩
      · exact fun z => z.elim
    | _ => exact z.elim
theorem feeds_rng {w : World} {K : PySem.W.Frag} {H0 : Hp} {lo : Int} {n : Nat} {G : DH → Prop} : Feeds w K H0 (Itr lo n) G ((List.range n).map fun i : Nat => D.int (lo + (i : Nat))) where
  go := fun i S H le rp g hi => by
    show i < n
    simpa using hi
  yld := fun i S H x H' le rp g hi ⟨e, ex⟩ => by
    subst e ex
    refine ⟨LeH.refl _, rp, .int (lo + (i : Nat)), ?_, rfl⟩
    have hi' : i < n := by simpa using hi
    rw [List.getElem?_map, List.getElem?_range hi']
    rfl
  stop := fun S H le rp g => by
    show n ≤ ((List.range n).map fun i : Nat => D.int (lo + (i : Nat))).length
    simp
def rngD (lo : Int) (n : Nat) : List D := (List.range n).map fun i : Nat => D.int (lo + (i : Nat))
@[simp] def dRng1 (ta : DTA) : DTI := fun E τ S R => ta E τ S fun ds S1 => match ds with | [.int j] => (-(2 ^ 62) ≤ j ∧ j < 2 ^ 62) ∧ R (fun _ => True) (rngD 0 j.toNat) S1 | _ => False
@[simp] def dRng2 (ta : DTA) : DTI := fun E τ S R => ta E τ S fun ds S1 => match ds with | [.int i, .int j] => (-(2 ^ 62) ≤ i ∧ i < 2 ^ 62 ∧ -(2 ^ 62) ≤ j ∧ j < 2 ^ 62) ∧ R (fun _ => True) (rngD i (j - i).toNat) S1 | _ => False
theorem di_rng1 {a : Expr} (hg : Gl X "range") (hm : X.mg "range" = none) (ha : DA X [a] ta) (hs : starEach [a] X.env = [(false, eval a X.env)] := by rfl) : DI X tg (.Call (.Name "range" p) [a] [] pos) (dRng1 ta) := by
  refine ⟨fun E E' τ S Q Q' he k q => ha.mono _ _ _ _ _ _ he (fun ds S1 z => ?_) q, pI_imp (pi_range1 hg hm ha.run hs) fun σ H R ⟨E, τ, S, w, r, q⟩ => ?_⟩
  · match ds, z with | [.int j], z => exact ⟨z.1, k _ _ _ z.2⟩
  · refine ha.to w r q fun ds S1 vs H1 le w1 r1 rd z => ?_
    match ds, z with
    | [.int j], z =>
      obtain ⟨v, rfl, rv⟩ := rds1 rd
      cases rv
      exact ⟨j, rfl, z.1.1, z.1.2, z.2 _ H1 le r1.rep feeds_rng⟩
end

/-! ### isinstance by a built-in class; names of the module; chains; * -/
section
variable {X : Cx} {e : Expr} {te : DTE} {p p2 pos : Pos} {T : String}
def tyName (d : D) (S : DH) : Option String := match d with
  | .non => some "NoneType" | .bl _ => some "bool" | .int _ => some "int" | .str _ => some "str" | .tup _ => some "tuple" | .rol _ => some "list"
  | .ref a => (match S a with | some (.lst _) => some "list" | some (.dK _) => some "dict" | _ => none)
section
variable (S : DH)
@[simp] theorem tyName_non : tyName .non S = some "NoneType" := rfl
@[simp] theorem tyName_bl (b : Bool) : tyName (.bl b) S = some "bool" := rfl
@[simp] theorem tyName_int (b : Int) : tyName (.int b) S = some "int" := rfl
@[simp] theorem tyName_str (b : Str) : tyName (.str b) S = some "str" := rfl
@[simp] theorem tyName_tup (b : List D) : tyName (.tup b) S = some "tuple" := rfl
@[simp] theorem tyName_rol (b : List D) : tyName (.rol b) S = some "list" := rfl
theorem tyName_ref (a : Addr) : tyName (.ref a) S = (match S a with | some (.lst _) => some "list" | some (.dK _) => some "dict" | _ => none) := rfl
theorem tyName_lst {a : Addr} {xs : List D} (h : S a = some (.lst xs)) : tyName (.ref a) S = some "list" := by rw [tyName_ref, h]
end
@[simp] def isiB (a b : String) : Bool := a == b || (a == "bool" && b == "int")
theorem tyName_x {w : World} {K : PySem.W.Frag} {d : D} {S : DH} {x : V} {H : Hp} {n : String} (rep : Rep w K S H) (r : RD K H d x) (h : tyName d S = some n) : TyX K H x (.type n) := by
  cases d with
  | non => cases r; cases h; exact .base .non
  | bl b => cases r; cases h; exact .base (.bl b)
  | int b => cases r; cases h; exact .base (.int b)
  | str b => cases r; cases h; exact .base (.str b)
  | tup ds =>
    cases h
    obtain ⟨p, ys, rfl, sq, rs⟩ : ∃ p ys, x = V.ref p ∧ SqTn K H p ys ∧ RDs K H ds ys := r
    rcases sqT_split sq.t with e | ⟨o, e⟩ | ⟨o, its, m, e, c, _⟩
    · exact .base (.tup e)
    · exact .fTuple e
    · exact .kTuple e c
  | rol ds =>
    cases h
    obtain ⟨p, ys, rfl, sq, rs⟩ : ∃ p ys, x = V.ref p ∧ SqR K H p ys ∧ RDs K H ds ys := r
    rcases sq with ⟨o, e⟩ | ⟨its, m, e, _⟩
    · exact .base (.frz e)
    · exact .kList e rfl
  | ref a =>
    cases r
    revert h
    show (match S a with | some (.lst _) => some "list" | some (.dK _) => some "dict" | _ => none) = some n → _
    split
    · rename_i xs ea
      obtain ⟨ys, e0, _⟩ : ∃ ys, H a = some (.lst ys) ∧ RDs K H xs ys := rep a _ ea
      intro h
      cases h
      exact .base (.lst e0)
    · rename_i xs ea
      obtain ⟨ys, e0, _⟩ : ∃ ys, H a = some (.dK ys) ∧ RKs K H xs ys := rep a _ ea
      intro h
      cases h
      exact .base (.dK e0)
    · intro h
      cases h
theorem kit_tab : (["NoneType", "bool", "int", "str", "tuple", "list", "dict"].all fun a => ["bool", "int", "str", "tuple", "list", "dict"].all fun b => decide (kitB a b = some (isiB a b))) = true := by decide +kernel
theorem tyName_mem {d : D} {S : DH} {n : String} (h : tyName d S = some n) : n ∈ ["NoneType", "bool", "int", "str", "tuple", "list", "dict"] := by
  cases d with
  | ref a =>
    revert h
    show (match S a with | some (.lst _) => some "list" | some (.dK _) => some "dict" | _ => none) = some n → _
    split <;> intro h <;> cases h <;> decide
  | _ => cases h; decide
@[simp] def dIsi (T : String) (te : DTE) : DTE := fun E τ S Q => te E τ S fun d S1 => opt (tyName d S1) fun n => Q (.bl (isiB n T)) S1
theorem de_isi {x : Str} (hT : T ∈ ["bool", "int", "str", "tuple", "list", "dict"]) (h : DE X e te) (hg : Gl X "isinstance") (hm : X.mg "isinstance" = none) (hgT : Gl X x) (hmT : X.mg x = none) (hvT : bootBuiltins x = some (.type T))
    (hn : x ≠ "__name__" := by decide) (hdb : (x == ("__debug__" : Str)) = false := by decide)
    (he : starEach (e :: [.Name x p2]) X.env = (false, eval e X.env) :: starEach [.Name x p2] X.env := by rfl) (he2 : starEach (.Name x p2 :: []) X.env = (false, eval (.Name x p2) X.env) :: starEach [] X.env := by rfl) (hpl : (backTo pos (starEach [.Name x p2] X.env)).any (·.1) = false := by rfl) :
    DE X (.Call (.Name "isinstance" p) [e, .Name x p2] [] pos) (dIsi T te) := by
  refine ⟨fun E E' τ S Q Q' hE k q => h.mono _ _ _ _ _ _ hE (fun d S1 z => opt_mono (fun _ z => k _ _ z) z) q,
    pE_imp (pe_callB call_isi hg hm PyProof.Rows.boot_isinstance (pa_cons h.run (pa_cons (pe_bltn (v := .ty T) hgT hmT hvT rfl hn hdb) pa_nil he2) he) (by decide) (by decide) he hpl) fun σ H Q ⟨E, τ, S, w, r, q⟩ => ?_⟩
  refine h.to w r q fun d S1 x H1 le w1 r1 rd z => ?_
  obtain ⟨n, en, z⟩ := opt_ex z
  have hk : kitB n T = some (isiB n T) := of_decide_eq_true (List.all_eq_true.mp (List.all_eq_true.mp kit_tab n (tyName_mem en)) T hT)
  exact ⟨x, .ty T, .type n, .type T, isiB n T, rfl, .ty T, tyName_x r1.rep rd en, kit_ty hk, z _ H1 le r1.rep rfl⟩
theorem de_gstr {x z : Str} {t : Tok} (hg : Gl X x) (hm : X.mg x = some (.str z t)) (hdb : (x == ("__debug__" : Str)) = false := by decide) : DE X (.Name x pos) (dC (.str z)) := de_c (pe_glob (v := .str z) hg hm ⟨t, rfl⟩ hdb) fun _ => rfl
theorem de_gint {x : Str} {z : Int} {t : Tok} (hg : Gl X x) (hm : X.mg x = some (.int z t)) (hdb : (x == ("__debug__" : Str)) = false := by decide) : DE X (.Name x pos) (dC (.int z)) := de_c (pe_glob (v := .int z) hg hm ⟨t, rfl⟩ hdb) fun _ => rfl
/-- a < b < c -/
@[simp] def dChain (r r' : R2D) (ta tb tc : DTE) : DTE := fun E τ S Q => ta E τ S fun x S1 => tb E τ S1 fun y S2 => r x y S2 fun z S3 => match z with
  | .bl k => if k = true then tc E τ S3 fun u S4 => r' y u S4 Q else Q (.bl false) S3
  | _ => False
end
end Dt
set_option maxRecDepth 100000
set_option maxHeartbeats 4000000
/-! Dat7: *, chains. -/
namespace Dt
open PySem PySem.Spec L2

@[simp] def dMul : R2D := fun d e S Q => match d, e with
  | .int i, .int j => CMulW i j ∧ Q (.int (i * j)) S
  | .str x, .int n => MulOk x n ∧ Q (.str (Txt.mul x n)) S
  | .ref a, .int n => (match S a with | some (.lst xs) => (-(2 ^ 63) ≤ n ∧ n < 2 ^ 63 ∧ xs.length * n.toNat ≤ sizeLine) ∧ newO S (.lst (List.replicate n.toNat xs).flatten) fun p S' => Q (.ref p) S' | _ => False)
  | _, _ => False
theorem RDs.rep {K : PySem.W.Frag} {H : Hp} {ds : List D} {vs : List V} (r : RDs K H ds vs) : ∀ n : Nat, RDs K H (List.replicate n ds).flatten (List.replicate n vs).flatten
  | 0 => by simp [RDs]
  | n + 1 => by
    rw [List.replicate_succ, List.replicate_succ, List.flatten_cons, List.flatten_cons]
    exact r.append (RDs.rep r n)
section
variable {X : Cx}
theorem od_mul : OpD X (binaryOp .Mult) dMul := by
  refine ⟨fun x y S Q Q' k h => ?_, fun pins s σ H x y v u Q I rx ry ⟨d, e, S, rep, rd, re, h⟩ => ?_⟩
  · cases x <;> cases y <;> first | exact h.elim | exact ⟨h.1, k _ _ h.2⟩ | skip
    rename_i a n
    revert h
    show (match S a with | some (.lst xs) => _ | _ => False) → (match S a with | some (.lst xs) => _ | _ => False)
    split
    · exact fun h => ⟨h.1, fun p hp => k _ _ (h.2 p hp)⟩
    · exact fun h => h
  · cases d <;> cases e <;> first | exact h.elim | skip
    · cases rd; cases re
      exact op_mulW pins s σ H _ _ v u Q I rx ry ⟨_, _, rfl, rfl, h.1, h.2 _ H (LeH.refl H) rep rfl⟩
    · cases rd; cases re
      obtain ⟨t, rfl⟩ := rx
      obtain ⟨t2, rfl⟩ := ry
      exact PySem.SB.mul h.1 fun t' k => ⟨.str _, H, I.tok _, ⟨_, rfl⟩, h.2 _ H (LeH.refl H) rep rfl⟩
    · rename_i a n
      cases rd; cases re
      revert h
      show (match S a with | some (.lst xs) => _ | _ => False) → _
      split
      · rename_i xs ea
        intro h
        obtain ⟨ys, e0, rs⟩ : ∃ ys, H a = some (.lst ys) ∧ RDs X.K H xs ys := rep a _ ea
        exact op_rep pins s σ H _ _ v u Q I rx ry ⟨a, n, ys, rfl, rfl, e0, h.1.1, h.1.2.1, by rw [← rs.length]; exact h.1.2.2, fun p hp => rep_new (Q0 := fun _ _ => True) rep hp (rs.rep _) (h.2 p (rep.free hp))⟩
      · exact fun h => h.elim
variable {a b c : Expr} {ta tb tc : DTE} {r r' : R2D} {pos : Pos}
theorem dChain_mono (ha : DE X a ta) (hb : DE X b tb) (hc : DE X c tc) (m : Mono2 r) (m' : Mono2 r') (E E' : DW) (τ : DSt) (S : DH) (Q Q' : DK) (he : ∀ C fs τ S, E C fs τ S → E' C fs τ S) (k : ∀ d S', Q d S' → Q' d S') (q : dChain r r' ta tb tc E τ S Q) : dChain r r' ta tb tc E' τ S Q' :=
  ha.mono _ _ _ _ _ _ he (fun x S1 z => hb.mono _ _ _ _ _ _ he (fun y S2 z => m _ _ _ _ _ (fun d S3 z => by
    cases d with
    | bl kk =>
      cases kk with
      | true => exact hc.mono _ _ _ _ _ _ he (fun u S4 z => m' _ _ _ _ _ k z) z
      | false => exact k _ _ z
    | _ => exact z) z) z) q
theorem dChain_up (ha : DE X a ta) (hb : DE X b tb) (hc : DE X c tc) (m : Mono2 r) (m' : Mono2 r') {σ : L2.St} {H : Hp} {Q : VK} (h : upE X (dChain r r' ta tb tc) σ H Q) : tChain (upO X.w X.K r) (upO X.w X.K r') (upE X ta) (upE X tb) (upE X tc) σ H Q := by
  obtain ⟨E, τ, S, w, rl, q⟩ := h
  refine ha.to w rl q fun x S1 v H1 le1 w1 r1 rx q1 => hb.to w1 r1 q1 fun y S2 u H2 le2 w2 r2 ry q2 => ?_
  refine ⟨x, y, S2, r2.rep, rx.le le2, ry, m _ _ _ _ _ (fun d S3 z => fun v3 H3 le3 rp3 rd3 => ?_) q2⟩
  cases d with
  | bl kk =>
    refine ⟨kk, rd3, ?_⟩
    have r3 : Rel X.w X.K τ S3 σ H3 := r2.le le3 rp3
    cases kk with
    | false => exact z (.bl false) H3 (le1.trans (le2.trans le3)) rp3 rfl
    | true => exact hc.to (w2.le le3) r3 z fun e S4 v4 H4 le4 w4 r4 re q4 => ⟨y, e, S4, r4.rep, ry.le (le3.trans le4), re, m' _ _ _ _ _ (fun d S' y v H' le rp rd => y v H' (le1.trans (le2.trans (le3.trans (le4.trans le)))) rp rd) q4⟩
  | _ => exact z.elim
theorem de_chain {op op' : CmpOp} (ho : OpD X (compareOp op) r) (ho' : OpD X (compareOp op') r') (ha : DE X a ta) (hb : DE X b tb) (hc : DE X c tc) (hm : lastMarks [op, op'] [b, c] = false := by with_unfolding_all rfl) :
    DE X (.Compare a [op, op'] [b, c] pos) (dChain r r' ta tb tc) :=
  ⟨dChain_mono ha hb hc ho.mono ho'.mono, pE_imp (pe_chain ho.run ho'.run ha.run hb.run hc.run hm) fun _ _ _ h => dChain_up ha hb hc ho.mono ho'.mono h⟩
theorem dt_chain {op op' : CmpOp} (ho : OpD X (compareOp op) r) (ho' : OpD X (compareOp op') r') (ha : DE X a ta) (hb : DE X b tb) (hc : DE X c tc) (hm : lastMarks [op, op'] [b, c] = false := by with_unfolding_all rfl) :
    DT X (.Compare a [op, op'] [b, c] pos) (dTest (dChain r r' ta tb tc)) := by
  refine ⟨dTest_mono (de_chain ho ho' ha hb hc hm (pos := pos)), pT_imp (pt_chain ho.run ho'.run ha.run hb.run hc.run hm) fun σ H Q ⟨E, τ, S, w, rl, q⟩ => ?_⟩
  refine dChain_up ha hb hc ho.mono ho'.mono ⟨E, τ, S, w, rl, dChain_mono ha hb hc ho.mono ho'.mono _ _ _ _ _ _ (fun _ _ _ _ z => z) (fun d S' h v H' le rp rd => ?_) q⟩
  cases d with
  | bl b => exact ⟨b, rd, h H' le rp⟩
  | _ => exact h.elim
end
abbrev rSub : R2D := dII (fun _ _ => True) fun i j => .int (i - j)
abbrev rMod : R2D := dII (fun _ j => 0 < j) fun i j => .int (i % j)
abbrev rFdiv : R2D := dII CDivW fun i j => .int (i / j)
abbrev rPow : R2D := dII CPow fun i j => .int (i ^ j.toNat)
abbrev rLt : R2D := dII (fun _ _ => True) fun i j => .bl (decide (i < j))
abbrev rLe : R2D := dII (fun _ _ => True) fun i j => .bl (decide (i ≤ j))
abbrev rGt : R2D := dII (fun _ _ => True) fun i j => .bl (decide (j < i))
abbrev rGe : R2D := dII (fun _ _ => True) fun i j => .bl (decide (j ≤ i))
theorem hu_big {A : Around} {k : Nat} (hr : Room k A) : A.units + 120 < cLine := by
  have := hr.un
  omega
def SpMono (sp : DSp) : Prop := ∀ ds S (Q Q' : DK) (E E' : DXK), (∀ d S', Q d S' → Q' d S') → (∀ C fs S', E C fs S' → E' C fs S') → sp ds S Q E → sp ds S Q' E'
@[simp] def dNeg (te : DTE) : DTE := fun E τ S Q => te E τ S fun d S' => match d with | .int i => Q (.int (-i)) S' | _ => False
theorem de_neg {X : Cx} {e : Expr} {te : DTE} {pos : Pos} (h : DE X e te) : DE X (.UnaryOp .USub e pos) (dNeg te) := by
  refine ⟨fun E E' τ S Q Q' he k q => h.mono _ _ _ _ _ _ he (fun d S1 z => ?_) q, pE_imp (pe_un un_neg h.run) fun σ H Q ⟨E, τ, S, w, r, q⟩ => ?_⟩
  · cases d <;> first | exact z.elim | exact k _ _ z
  · refine h.to w r q fun d S' v H' le w' r' rd z => ?_
    cases d <;> first | exact z.elim | skip
    exact ⟨_, rd, z _ H' le r'.rep rfl⟩
end Dt
set_option maxRecDepth 100000
set_option maxHeartbeats 4000000
/-! Feed: the draws that each law has. -/
namespace Dt
open PySem PySem.Spec L2
theorem char_inj : ∀ (a b : List Char), a.map Char.toNat = b.map Char.toNat → a = b
  | [], [], _ => rfl
  | [], _ :: _, h => by simp at h
  | _ :: _, [], h => by simp at h
  | x :: a, y :: b, h => by
    simp only [List.map_cons, List.cons.injEq] at h
    rw [char_inj a b h.2]
    have : x = y := Char.ext (UInt32.toNat_inj.mp h.1)
    rw [this]
@[simp] theorem ofs_inj (a b : String) : (PySem.Str.ofString a = PySem.Str.ofString b) = (a = b) := by
  refine propext ⟨fun h => ?_, fun h => by rw [h]⟩
  rw [PySem.Str.ofString_eq_toList, PySem.Str.ofString_eq_toList] at h
  have h1 := congrArg (fun z : Str => z.cps.toList) h
  simp only at h1
  exact String.toList_inj.mp (char_inj _ _ (by simpa using h1))
@[simp] theorem line_le (n : Nat) : (n ≤ sizeLine) = (n ≤ 16777216) := by rw [sizeLine_eq]
@[simp] theorem line_lt (n : Nat) : (n < sizeLine) = (n < 16777216) := by rw [sizeLine_eq]
def Bd (a : Nat) (i : Int) : Prop := i.natAbs < 2 ^ a
theorem Bd.mono {a b : Nat} {i : Int} (h : Bd a i) (l : a ≤ b) : Bd b i := Nat.lt_of_lt_of_le h (Nat.pow_le_pow_right (by decide) l)
theorem Bd.add {a : Nat} {i j : Int} (h : Bd a i) (k : Bd a j) : Bd (a + 1) (i + j) := by
  unfold Bd at *
  have := Int.natAbs_add_le i j
  rw [Nat.pow_succ]
  omega
theorem Bd.mul {a b : Nat} {i j : Int} (h : Bd a i) (k : Bd b j) : Bd (a + b) (i * j) := wide_lt h k
theorem Bd.mod {a : Nat} {i j : Int} (hj : 0 < j) (k : Bd a j) : Bd a (i % j) := by
  unfold Bd at *
  have h1 := Int.emod_nonneg i (show j ≠ 0 by omega)
  have h2 := Int.emod_lt_of_pos i hj
  omega
theorem Bd.cm {a b : Nat} {i j : Int} (h : Bd a i) (k : Bd b j) (ha : 0 < a := by decide) (hb : 0 < b := by decide) (l : a + b ≤ 1000000 := by decide) : CMulW i j := wide_mul h k ha hb l
theorem Bd.nat {a n : Nat} {i : Int} (h0 : 0 ≤ i) (h : i ≤ n) (hn : n < 2 ^ a) : Bd a i := by
  unfold Bd
  omega
def Ext (S S' : DH) : Prop := ∀ b o, S b = some o → S' b = some o
theorem Ext.refl (S : DH) : Ext S S := fun _ _ h => h
theorem Ext.trans {S S1 S2 : DH} (a : Ext S S1) (b : Ext S1 S2) : Ext S S2 := fun x o h => b x o (a x o h)
theorem Ext.new {S : DH} {p : Addr} {o : Ob} (h : S p = none) : Ext S (upo S p o) := fun b u e => by
  rw [upo_ne (fun z => by subst z; rw [h] at e; cases e)]
  exact e
theorem Ext.put {S S1 : DH} {p : Addr} {o : Ob} (e : Ext S S1) (h : S p = none) : Ext S (upo S1 p o) := fun b u z => by
  rw [upo_ne (fun y => by subst y; rw [h] at z; cases z)]
  exact e b u z
theorem Ext.free {S S' : DH} (e : Ext S S') {p : Addr} (h : S' p = none) : S p = none := by
  cases q : S p with
  | none => rfl
  | some o => rw [e p o q] at h; cases h
/-- a feed after at most n draws -/
def FeedOb (n : Nat) (o : Ob) : Prop := ∃ l s d : Int, o = .dK [(.inr "left", .int l), (.inr "seed", .int s), (.inr "drawn", .int d)] ∧ 0 ≤ l ∧ 0 ≤ s ∧ s < 1000003 ∧ 0 ≤ d ∧ d ≤ n
theorem FeedOb.more {n m : Nat} {o : Ob} (h : FeedOb n o) (l : n ≤ m) : FeedOb m o := by
  obtain ⟨a, s, d, e, h1, h2, h3, h4, h5⟩ := h
  exact ⟨a, s, d, e, h1, h2, h3, h4, by omega⟩
def sp_l_next : DSp := fun ds S Q _ => ∃ (p : Addr) (m : Int) (n : Nat) (o : Ob), ds = [.ref p, .int m] ∧ 0 < m ∧ m < 2 ^ 100 ∧ S p = some o ∧ FeedOb n o ∧ n < 2 ^ 100 ∧
  ∀ v o', 0 ≤ v → v < m → FeedOb (n + 1) o' → Q (.int v) (upo S p o')
theorem sp_l_next_mono : SpMono sp_l_next := fun ds S Q Q' E E' k _ ⟨p, m, n, o, h1, h2, h3, h4, h5, h6, h⟩ => ⟨p, m, n, o, h1, h2, h3, h4, h5, h6, fun v o' a b c => k _ _ (h v o' a b c)⟩
def cellZ (ns : List Int) (k : Nat) : Int := if k < ns.length then ns.getD k 0 else (if 0 < ns.length then ns.getD (k % ns.length) 0 else 0) % 1000003 * 48271 + 7919 * k + 1
def sp_l_cell_at : DSp := fun ds S Q _ => ∃ (ns : List Int) (k : Nat), ds = [.rol (ns.map D.int), .int k] ∧ k < 2 ^ 100 ∧ Q (.int (cellZ ns k)) S
theorem sp_l_cell_at_mono : SpMono sp_l_cell_at := fun ds S Q Q' E E' k _ ⟨ns, j, h1, h2, h⟩ => ⟨ns, j, h1, h2, k _ _ h⟩
def sp_l_feed : DSp := fun ds S Q _ => ∃ c : Int, ds = [.int c] ∧ ∀ p o, S p = none → FeedOb 0 o → Q (.ref p) (upo S p o)
theorem sp_l_feed_mono : SpMono sp_l_feed := fun ds S Q Q' E E' k _ ⟨c, h1, h⟩ => ⟨c, h1, fun p o a b => k _ _ (h p o a b)⟩
end Dt
set_option maxRecDepth 100000
set_option maxHeartbeats 4000000
/-! Dat8: loops by invariants. -/
namespace Dt
open PySem PySem.Spec L2
theorem loop_go {g : DTG} {tb : DTS} {A : DEnds} {G : DH → Prop} (ds : List D) (I : Nat → DSt → DH → Prop) (hG : ∀ i τ S, i ≤ ds.length → I i τ S → G S)
    (hs : ∀ i d τ S (N : DSt → DH → Prop), ds[i]? = some d → I i τ S → (∀ τ' S', I (i + 1) τ' S' → N τ' S') → g d τ S fun τ1 S1 => tb { A with nx := N, ct := N, bk := A.nx } τ1 S1)
    (hd : ∀ τ S, I ds.length τ S → A.nx τ S) : ∀ (m i : Nat) (τ : DSt) (S : DH), i + m = ds.length → I i τ S → dLoop g tb A G (ds.drop i) τ S
  | 0, i, τ, S, e, h => by
    have e' : i = ds.length := by omega
    subst e'
    rw [List.drop_length]
    exact ⟨hG _ _ _ (Nat.le_refl _) h, hd _ _ h⟩
  | m + 1, i, τ, S, e, h => by
    have hi : i < ds.length := by omega
    have ed : ds[i]? = some ds[i] := List.getElem?_eq_getElem hi
    rw [drop_at ed]
    exact ⟨hG _ _ _ (by omega) h, hs i _ τ S _ ed h fun τ' S' h' => loop_go ds I hG hs hd m (i + 1) τ' S' (by omega) h'⟩
theorem loop_inv {g : DTG} {tb : DTS} {A : DEnds} {G : DH → Prop} {ds : List D} {τ : DSt} {S : DH} (I : Nat → DSt → DH → Prop) (h0 : I 0 τ S) (hG : ∀ i τ S, i ≤ ds.length → I i τ S → G S)
    (hs : ∀ i d τ S (N : DSt → DH → Prop), ds[i]? = some d → I i τ S → (∀ τ' S', I (i + 1) τ' S' → N τ' S') → g d τ S fun τ1 S1 => tb { A with nx := N, ct := N, bk := A.nx } τ1 S1)
    (hd : ∀ τ S, I ds.length τ S → A.nx τ S) : dLoop g tb A G ds τ S := by
  have := loop_go ds I hG hs hd ds.length 0 τ S (by omega) h0
  rwa [List.drop_zero] at this
/-- the elements' making changes nothing: [f d for d in ds if c d] -/
theorem lc_pure {g : DTG} {tt : DTT} {te : DTE} {E : DW} {τ : DSt} {G : DH → Prop} {p : Addr} {Q : DH → Prop} {S : DH} (c : D → Bool) (f : D → D) : ∀ (ds acc : List D), (∀ acc, G (upo S p (.lst acc))) →
    (∀ d ∈ ds, ∀ acc (N M : DH → Prop), (c d = true → N (upo S p (.lst (acc ++ [f d])))) → (c d = false → M (upo S p (.lst acc))) → acc.length < sizeLine →
      g d τ (upo S p (.lst acc)) fun τ1 S1 => tt E τ1 S1 fun b S2 => if b = true then te E τ1 S2 fun y S3 => (match S3 p with | some (.lst acc) => acc.length < sizeLine ∧ N (upo S3 p (.lst (acc ++ [y]))) | _ => False) else M S2) →
    acc.length + ds.length < sizeLine → Q (upo S p (.lst (acc ++ (ds.filter c).map f))) → dLcL g tt te E τ G p Q ds (upo S p (.lst acc))
  | [], acc, hG, hs, hl, hq => ⟨hG acc, by simpa using hq⟩
  | d :: ds, acc, hG, hs, hl, hq => by
    refine ⟨hG acc, hs d (List.mem_cons_self ..) acc _ _ (fun hc => ?_) (fun hc => ?_) (by rw [List.length_cons] at hl; omega)⟩
    · refine lc_pure c f ds (acc ++ [f d]) hG (fun d' hd' => hs d' (List.mem_cons_of_mem _ hd')) (by simp at hl ⊢; omega) ?_
      rw [List.filter_cons, if_pos hc, List.map_cons] at hq
      rw [List.append_assoc]
      exact hq
    · refine lc_pure c f ds acc hG (fun d' hd' => hs d' (List.mem_cons_of_mem _ hd')) (by simp at hl ⊢; omega) ?_
      rw [List.filter_cons, if_neg (by rw [hc]; decide)] at hq
      exact hq
theorem upo_id {S : DH} {p : Addr} {o : Ob} (h : S p = some o) : upo S p o = S := by
  funext b
  unfold upo
  split
  · rename_i e
    rw [e, h]
  · rfl
theorem opt_at {α : Type} {xs : List α} {i : Int} {k : α → Prop} (h0 : 0 ≤ i) (h1 : i < xs.length) (h : ∀ d ∈ xs, k d) : opt (atI xs i) k := by
  obtain ⟨j, rfl⟩ := Int.eq_ofNat_of_zero_le h0
  have hj : j < xs.length := by omega
  rw [atI_nat (List.getElem?_eq_getElem hj)]
  exact h _ (List.getElem_mem hj)
/-- a new object, by what is known of it -/
theorem newO_of {S : DH} {o : Ob} {Q : Addr → DH → Prop} (h : ∀ p S1, S p = none → S1 p = some o → Ext S S1 → (∀ b, b ≠ p → S1 b = S b) → Q p S1) : newO S o Q := fun p hp => h p _ hp upo_same (Ext.new hp) fun b hb => upo_ne hb
theorem lc_map {g : DTG} {te : DTE} {E : DW} {τ : DSt} {G : DH → Prop} {p : Addr} {Q : DH → Prop} {S : DH} (f : D → D) (ds : List D) (h0 : S p = some (.lst [])) (hG : ∀ acc, G (upo S p (.lst acc)))
    (hs : ∀ d ∈ ds, ∀ acc (N : DH → Prop), N (upo S p (.lst (acc ++ [f d]))) → acc.length < 16777216 →
      g d τ (upo S p (.lst acc)) fun τ1 S1 => te E τ1 S1 fun y S3 => (match S3 p with | some (.lst acc) => acc.length < 16777216 ∧ N (upo S3 p (.lst (acc ++ [y]))) | _ => False))
    (hl : ds.length < sizeLine) (hq : Q (upo S p (.lst (ds.map f)))) : dLcL g dYes te E τ G p Q ds S := by
  have hf : ds.filter (fun _ => true) = ds := List.filter_eq_self.mpr fun _ _ => rfl
  rw [← upo_id h0]
  refine lc_pure (fun _ => true) f ds [] hG (fun d hd acc N M hN hM hl => ?_) (by simpa using hl) (by rw [hf]; exact hq)
  have := hs d hd acc N (hN rfl) (by rw [line_lt] at hl; exact hl)
  simpa only [dYes, if_true, line_lt] using this
theorem wh_go {c : DTT} {tb : DTS} {A : DEnds} (I : DSt → DH → Prop) (μ : DSt → DH → Nat)
    (hs : ∀ τ S (N : DSt → DH → Prop), I τ S → (∀ τ' S', I τ' S' → μ τ' S' < μ τ S → N τ' S') → c A.xe τ S fun b S' => if b = true then tb { A with nx := N, ct := N, bk := A.nx } τ S' else A.nx τ S') :
    ∀ (n : Nat) (τ : DSt) (S : DH), μ τ S < n → I τ S → dWh c tb A n τ S
  | 0, τ, S, h, _ => absurd h (Nat.not_lt_zero _)
  | n + 1, τ, S, h, hi => hs τ S _ hi fun τ' S' h' hl => wh_go I μ hs n τ' S' (by omega) h'
theorem while_inv {c : DTT} {tb : DTS} {A : DEnds} {τ : DSt} {S : DH} (I : DSt → DH → Prop) (μ : DSt → DH → Nat) (h0 : I τ S)
    (hs : ∀ τ S (N : DSt → DH → Prop), I τ S → (∀ τ' S', I τ' S' → μ τ' S' < μ τ S → N τ' S') → c A.xe τ S fun b S' => if b = true then tb { A with nx := N, ct := N, bk := A.nx } τ S' else A.nx τ S') : dWhile c tb A τ S :=
  ⟨_, wh_go I μ hs (μ τ S + 1) τ S (Nat.lt_succ_self _) h0⟩
/-! == of scalars -/
section
variable {S : DH} {Q : DK}
@[simp] theorem dEq_bl (n a b : Bool) : dEq n (.bl a) (.bl b) S Q = Q (.bl (if n then !(a == b) else a == b)) S := rfl
@[simp] theorem dEq_int (n : Bool) (a b : Int) : dEq n (.int a) (.int b) S Q = Q (.bl (if n then !(a == b) else a == b)) S := rfl
@[simp] theorem dEq_str (n : Bool) (a b : Str) : dEq n (.str a) (.str b) S Q = Q (.bl (if n then !(a == b) else a == b)) S := rfl
end
mutual
theorem Pd.ext {S S' : DH} (e : Ext S S') : ∀ (p : PyData) (d : D), Pd S d p → Pd S' d p
  | .none, _, h => by cases h; exact .non
  | .bool b, _, h => by cases h; exact .bl b
  | .int i, _, h => by cases h; exact .int i
  | .str x, _, h => by cases h; exact .str x
  | .tuple ps, _, h => by cases h with | tup hs => exact .tup (PdA.ext e ps _ hs)
  | .list ps, _, h => by
    cases h with
    | rol hs => exact .rol (PdA.ext e ps _ hs)
    | lst ea hs => exact .lst (e _ _ ea) (PdA.ext e ps _ hs)
  | .dict _, _, h => by cases h
theorem PdA.ext {S S' : DH} (e : Ext S S') : ∀ (ps : List PyData) (ds : List D), PdA S ds ps → PdA S' ds ps
  | [], _, h => by cases h; exact .nil
  | p :: ps, _, h => by cases h with | cons h1 h2 => exact .cons (Pd.ext e p _ h1) (PdA.ext e ps _ h2)
end
/-- what repr takes -/
def Shows (S : DH) (d : D) (p : PyData) : Prop := Pd S d p ∧ p.showable = true ∧ p.depth ≤ 100 ∧ p.shown.length ≤ sizeLine
theorem Shows.ext {S S' : DH} {d : D} {p : PyData} (e : Ext S S') (h : Shows S d p) : Shows S' d p := ⟨h.1.ext e p d, h.2⟩
end Dt
set_option maxRecDepth 100000
set_option maxHeartbeats 4000000
/-! Dat9: the law's own head, from a def's promise over data. -/
namespace Dt
open PySem PySem.Spec L2 PySem.W PyProof.Rows
theorem rds_ints {K : PySem.W.Frag} {H : Hp} : ∀ ns : List Int, RDs K H (ns.map D.int) (ns.map V.int)
  | [] => .nil
  | i :: r => .cons rfl (rds_ints r)
section
variable {P : Program} {w : World} {K : PySem.W.Frag} {mg mb : Str → Option Value} {k : Nat} {fa a : Addr} {fd : FuncData} {x : Str} {sp : DSp} {s : Shared} {ns : List Int}
/-- what the ground of the law's call holds -/
structure Grd (K : PySem.W.Frag) (mg mb : Str → Option Value) (s : Shared) : Prop where
  kin : K.In s.heap
  glob : s.heap.Ns mainGlobals mg
  blt : s.heap.Ns builtinsNs mb
  bbs : ∀ x : Str, x ≠ "__name__" → mb x = bootBuiltins x
  lim : s.heap.NoLimit
  gens : s.gens = #[]
theorem head_run (G : Grd K mg mb s) (hr : Room k callerA) (F : ∀ base : Heap, K.In base → base.Ns mainGlobals mg → DFn P w K mg base k fa fd [x] sp) (hb : ∀ (s : Shared) (u : Value), BindsTo s fd ⟨[u], []⟩ [(x, u)])
    (hsp : ∀ S, sp [.rol (ns.map D.int)] S (fun d _ => d = .bl true) fun _ _ _ => False) {H : Hp} (hH : ∀ b u, H b = some u → K.lookup b = none ∧ (∃ o, u = .frz o (.lst (ns.map V.int))) ∧ ∃ o its n, s.heap.get? b = some o ∧ o.data = .seq its n) (hok : HOk P w H s.heap) (hS : SqR K H a (ns.map V.int)) :
    codeAny (model P w) callerA (.call (.ref fa) ⟨[.ref a], []⟩) (fun r s' => r = .ok (.ret (.bool true)) ∧ OldK s.heap s'.heap ∧ s'.os = s.os ∧ AllBare s'.gens) s := by
  have up : ∀ {b : Addr} {o : Obj}, s.heap.get? b = some o → (∀ its n, o.data ≠ .seq its n) → (hidT s.heap H).get? b = some o := fun {b o} e nd => hidT_get e (by
    cases q : H b with
    | none => rfl
    | some u =>
      obtain ⟨_, _, o', its, n, e', d'⟩ := hH b u q
      cases e.symm.trans e'
      exact absurd d' (nd its n))
  have upNs : ∀ {b : Addr} {m : Str → Option Value}, s.heap.Ns b m → (hidT s.heap H).Ns b m := fun {b m} ⟨o, es, ep, e, d, r⟩ => ⟨o, es, ep, up e (fun its n z => by cases d.symm.trans z), d, r⟩
  have kin : K.In (hidT s.heap H) := fun b o e => hidT_get (G.kin b o e) (by
    cases q : H b with
    | none => rfl
    | some u => cases (hH b u q).1.symm.trans e)
  obtain ⟨mc, c1, c2⟩ := G.lim
  have env : Env0 P w K mg (hidT s.heap H) callerA [] s H :=
    ⟨rfl, ⟨kin, upNs G.glob, ⟨mb, upNs G.blt, G.bbs⟩, ⟨mc, upNs c1, c2⟩⟩, fun _ _ e => of_hidT e, by rw [hidT_size]; exact Nat.le_refl _, trivial, fun _ z => (nomatch z), hok, .of_eq G.gens⟩
  refine codeAny_mono ((F _ kin (upNs G.glob)).run callerA [] s H ⟨[.ref a], []⟩ [.ref a] [.ref a] (fun v _ => v = .bl true) (fun _ _ _ => False) hr rfl env (hb s (.ref a)) (.cons rfl .nil)
    ⟨[.rol (ns.map D.int)], fun _ => none, (fun _ _ z => nomatch z), RDs.cons ⟨a, _, rfl, hS, rds_ints ns⟩ .nil, (F _ kin (upNs G.glob)).mono _ _ _ _ _ _ (fun d S' e v H' _ _ r => ?_) (fun _ _ _ z => z.elim) (hsp _)⟩) fun r s' h => ?_
  · subst e
    exact r
  · match r, h with
    | .error e, ⟨_, _, _, _, _, _, _, _, _, _, _, _, z⟩ => exact z.elim
    | .ok (.ret u), ⟨v, H', os, bare, un, hok', rv, e⟩ =>
      cases e
      cases (show u = Value.bool true from rv)
      refine ⟨rfl, OldK.of_keep fun b o e => ?_, os, bare⟩
      cases q : H b with
      | none => exact un.keep b o e q (fun z => nomatch z) (fun z => nomatch z)
      | some u =>
        obtain ⟨_, ⟨ob, rfl⟩, _⟩ := hH b u q
        have e1 := (hok b _ q).1
        have e2 := (hok' b _ (un.frzs b ob _ q)).1
        cases e.symm.trans e1
        exact e2
/-- the same for the script as it is handed in -/
theorem head_call {vs : List Value} (G : Grd K mg mb s) (hr : Room k callerA) (F : ∀ base : Heap, K.In base → base.Ns mainGlobals mg → DFn P w K mg base k fa fd [x] sp) (hb : ∀ (s : Shared) (u : Value), BindsTo s fd ⟨[u], []⟩ [(x, u)])
    (hsp : ∀ S, sp [.rol (ns.map D.int)] S (fun d _ => d = .bl true) fun _ _ _ => False) (ha : s.heap.get? a = some { cls := .type "list", data := .seq vs.toArray }) (hi : IntsAre vs ns) (hl : ns.length ≤ sizeLine) :
    codeAny (model P w) callerA (.call (.ref fa) ⟨[.ref a], []⟩) (fun r s' => r = .ok (.ret (.bool true)) ∧ OldK s.heap s'.heap ∧ s'.os = s.os ∧ AllBare s'.gens) s := by
  have rv := vals_ints hi
  cases hk : K.lookup a with
  | some o =>
    have e := G.kin a o hk
    cases ha.symm.trans e
    refine head_run (H := fun _ => none) G hr F hb hsp (fun _ _ z => nomatch z) (fun _ _ z => nomatch z) (.inr ⟨vs.toArray, _, hk, ?_, rv⟩)
    rw [List.size_toArray, hi.length]
    exact hl
  | none =>
    refine head_run (H := upd (fun _ => none) a (.frz { cls := .type "list", data := .seq vs.toArray } (.lst (ns.map V.int)))) G hr F hb hsp (fun b u z => ?_) (fun b u z => ?_) (.inl ⟨_, upd_same⟩)
    all_goals
      by_cases hba : b = a
      · subst hba
        rw [upd_same] at z
        cases z
        first
          | exact ⟨hk, ⟨_, rfl⟩, _, vs.toArray, _, ha, rfl⟩
          | exact ⟨ha, by rw [List.length_map]; exact hl, vs, _, rv, ha⟩
      · rw [upd_ne hba] at z
        cases z
end
/-- the goal that k_head leaves, from the promise of the law's def -/
theorem dwalk {l : OpenLaw} {n k : Nat} {q : Program} {loose : List Str} {XP : (Str → Option Value) → Heap → Prop} {YP : World → Heap → Prop} {d : DefRec} {K : Params → PySem.W.Frag} {sp : DSp} {x : Str} (hn : l.most = some n) (hn2 : n ≤ sizeLine) (hdf : d.params.defaults = []) (hr : Room k callerA) (hY : ∀ (w : World) (h : Heap), YP w h → (K w.params).In h)
    (F : ∀ (w : World) (mg : Str → Option Value) (fa : Addr) (h : Heap), (K w.params).In h → h.Ns mainGlobals mg → mg d.name = some (.ref fa) →
      ∃ fd : FuncData, (∀ (s : Shared) (u : Value), BindsTo s fd ⟨[u], []⟩ [(x, u)]) ∧ ∀ base : Heap, (K w.params).In base → base.Ns mainGlobals mg → DFn l.prog w (K w.params) mg base k fa fd [x] sp)
    (hsp : ∀ (ns : List Int) S, ns.length ≤ n → sp [.rol (ns.map D.int)] S (fun d _ => d = .bl true) fun _ _ _ => False) : WalkO q loose XP YP l.row.toRowW d [] (fun f vs => PySem.call f vs) := by
  refine Att.attach_call hn hdf fun w _ s₁ mg mb fa _ _ _ _ a vs ns G Y _ _ _ hmg hobj hints hlen hg => ?_
  have KX := hY w _ Y
  obtain ⟨fd, hb, hF⟩ := F w mg fa _ KX G.T.g hmg
  exact head_call (ns := ns) ⟨KX, G.T.g, G.T.b, G.T.builtins, G.T.nolimit, hg⟩ hr hF hb (fun S => hsp ns S hlen) hobj hints (Nat.le_trans hlen hn2)
end Dt
set_option maxRecDepth 100000
set_option maxHeartbeats 4000000
/-! DatS: set(list) of ints and texts. -/
namespace Dt
open PySem PySem.Spec PySem.W L2 PyProof.Rows
/-- a set's row stands for a key -/
def RowK (w : World) (e : Int × Value) (k : Key) : Prop := keyIs k e.2 = true ∧ e.1 = keyH w k
/-- the set at a: its keys, each once, in some order of the table's rows; the table may be walked -/
def SetKs (w : World) (h : Heap) (a : Addr) (ks : List Key) : Prop :=
  ∃ (o : Obj) (es : Array (Int × Value)) (ep : Nat) (t : SetTable) (l : List (Int × Value)), h.get? a = some o ∧ o.ExactSet ∧ o.data = .set es ep t ∧ es.toList.Perm l ∧ EachIs (RowK w) l ks ∧ ks.Nodup ∧
    es.size < scanBound ∧ t.fits es.size = true ∧ Ris t.place.toList ∧ (w.params.followText "set-order" = true ∨ t.led = true)
section
variable {P : Program} {w : World} {A : Around} {E : Value → Shared → Prop} {s : Shared} {a : Addr} {ks : List Key}
theorem SetKs.len {h : Heap} (R : SetKs w h a ks) : ks.length < scanBound := by
  obtain ⟨o, es, ep, t, l, _, _, _, p, r, _, hb, _⟩ := R
  rw [← r.length, ← p.length_eq, Array.length_toList]
  exact hb
theorem SetKs.at {h h' : Heap} (R : SetKs w h a ks) (k : ∀ o, h.get? a = some o → h'.get? a = some o) : SetKs w h' a ks := by
  obtain ⟨o, es, ep, t, l, ho, r⟩ := R
  exact ⟨o, es, ep, t, l, k o ho, r⟩
/-- a key more, where it is not there -/
def addK (ks : List Key) (k : Key) : List Key := if (ks.any fun j => decide (j = k)) = true then ks else ks ++ [k]
/-- the keys, each at its first place -/
def firstK (ks : List Key) : List Key := ks.foldl addK []
abbrev newSet (w : World) : Obj := { cls := .type "set", dict := none, data := .set #[] 0 (.fresh 0 0 (!w.params.followText "set-order")) }
end
end Dt
set_option maxRecDepth 100000
set_option maxHeartbeats 4000000
/-! DatA: in, tuple * int, a tuple of the module. -/
namespace Dt
open PySem PySem.Spec L2
@[simp] def flD : D → Bool
  | .non => true
  | .bl _ => true
  | .int _ => true
  | .str _ => true
  | _ => false
@[simp] def eqF : D → D → Bool
  | .non, .non => true
  | .bl a, .bl b => a == b
  | .bl a, .int b => (if a then 1 else 0) == b
  | .int a, .bl b => a == (if b then 1 else 0)
  | .int a, .int b => a == b
  | .str a, .str b => a == b
  | _, _ => false
def inF (x : D) (ds : List D) : Bool := ds.any fun y => eqF y x
section
variable {w : World} {K : PySem.W.Frag} {H : Hp}
theorem flD_V {d : D} {v : V} (r : RD K H d v) (f : flD d = true) : flatV v = true := by
  cases d <;> first | (cases r; rfl) | cases f
theorem eqF_V {d e : D} {v u : V} (r : RD K H d v) (s : RD K H e u) (f : flD d = true) (g : flD e = true) : eqV v u = eqF d e := by
  cases d <;> first | (simp at f; done) | skip
  all_goals (cases e <;> first | (simp at g; done) | skip)
  all_goals (cases r; cases s; rfl)
theorem flDs_V : ∀ {ds : List D} {vs : List V}, RDs K H ds vs → ds.all flD = true → vs.all flatV = true
  | [], _, r, _ => by cases r; rfl
  | d :: ds, _, r, h => by
    obtain ⟨v, vs, rfl, r1, r2⟩ := r
    rw [List.all_cons, Bool.and_eq_true] at h
    rw [List.all_cons, flD_V r1 h.1, flDs_V r2 h.2]
    rfl
theorem inF_V {x : D} {v : V} (rx : RD K H x v) (fx : flD x = true) : ∀ {ds : List D} {vs : List V}, RDs K H ds vs → ds.all flD = true → inV v vs = inF x ds
  | [], _, r, _ => by cases r; rfl
  | d :: ds, _, r, h => by
    obtain ⟨w, vs, rfl, r1, r2⟩ := r
    rw [List.all_cons, Bool.and_eq_true] at h
    have e := inF_V rx fx r2 h.2
    unfold inV inF at e ⊢
    rw [List.any_cons, List.any_cons, eqF_V r1 rx h.1 fx, e]
end
@[simp] def dInF (neg : Bool) (d : D) (ds : List D) (S : DH) (Q : DK) : Prop := flD d = true ∧ ds.all flD = true ∧ Q (.bl (if neg then !inF d ds else inF d ds)) S
section
variable {X : Cx}
/-- a tuple of the module's own -/
theorem de_gtup {x : Str} {a : Addr} {pos : Pos} {ds : List D} {its : Array Value} {n : Nat} (hg : Gl X x) (hm : X.mg x = some (.ref a)) (hk : X.K.lookup a = some ⟨.type "tuple", none, .seq its n, #[]⟩) (hz : its.size ≤ sizeLine) (hd : ∃ vs : List V, Vals vs its.toList ∧ ∀ H, RDs X.K H ds vs)
    (hdb : (x == ("__debug__" : Str)) = false := by decide) : DE X (.Name x pos) (dC (.tup ds)) := by
  obtain ⟨vs, h1, h2⟩ := hd
  exact de_c (pe_glob (v := .ref a) hg hm rfl hdb) fun H => ⟨a, vs, rfl, .inr ⟨its, n, hk, hz, h1⟩, h2 H⟩
end
/-- a promise that nobody asks -/
abbrev spNo : DSp := fun _ _ _ _ => False
theorem DFn.never {P : Program} {w : World} {K : PySem.W.Frag} {mg : Str → Option Value} {base : Heap} {k : Nat} {f : Addr} {fd : FuncData} {ps : List Str} (_ : Nat) : DFn P w K mg base k f fd ps spNo :=
  ⟨fun _ _ _ _ _ _ _ _ h => h.elim, fun _ _ _ _ h => h.elim, fun _ _ _ _ _ _ _ _ _ _ _ _ _ _ ⟨_, _, _, _, h⟩ => h.elim⟩
@[simp] def prevSp (sp : Nat → DSp) : Nat → DSp
  | 0 => spNo
  | n + 1 => sp n
end Dt
set_option maxRecDepth 100000
set_option maxHeartbeats 4000000
/-! DatB: names, plain texts. -/
namespace Dt
open PySem PySem.Spec L2
abbrev LET : Str := "abcdefghijklmnopqrstuvwxyz"
def hit (d : D) : Bool := match d with | .str s => !(Builtin.Str.occurrences LET s 0 LET.length 1).isEmpty | _ => false
def isNm (d : D) : Bool := match d with | .str x => decide (1 ≤ x.length) && decide (x.length ≤ 8) && (x.cps.toList.map signD).all hit | _ => false
theorem find_ge (s : Str) : decide ((0 : Int) ≤ Txt.find LET s) = hit (.str s) := by
  unfold Txt.find hit
  simp only
  cases Builtin.Str.occurrences LET s 0 LET.length 1 with
  | nil => rfl
  | cons i r => simp
theorem min_ge {ns : List Int} {m : Int} (hm : m ∈ ns) (hle : ∀ y, y ∈ ns → m ≤ y) : decide (0 ≤ m) = ns.all fun y => decide (0 ≤ y) := by
  rw [Bool.eq_iff_iff]
  simp only [decide_eq_true_eq, List.all_eq_true]
  exact ⟨fun h y hy => Int.le_trans h (hle y hy), fun h => h m hm⟩
def fnd (d : D) : Int := match d with | .str s => Txt.find LET s | _ => 0
/-- a text of few plain signs -/
def Pl (n : Nat) (x : Str) : Prop := x.length ≤ n ∧ ∀ c ∈ x.cps.toList, c < 128
theorem Pl.mono {n m : Nat} {x : Str} (h : Pl n x) (l : n ≤ m) : Pl m x := ⟨Nat.le_trans h.1 l, h.2⟩
theorem Pl.app {n m : Nat} {x y : Str} (h : Pl n x) (k : Pl m y) : Pl (n + m) (x ++ y) := by
  have e : (x ++ y).cps = x.cps ++ y.cps := rfl
  refine ⟨?_, fun c hc => ?_⟩
  · have h1 : x.cps.size ≤ n := h.1
    have h2 : y.cps.size ≤ m := k.1
    show (x ++ y).cps.size ≤ n + m
    rw [e, Array.size_append]
    omega
  · rw [e, Array.toList_append] at hc
    rcases List.mem_append.mp hc with z | z
    · exact h.2 c z
    · exact k.2 c z
theorem Pl.cut {n : Nat} {x : Str} (h : Pl n x) (lo hi : Option Int) : Pl n (cutS x lo hi) := by
  refine ⟨Nat.le_trans (cutS_length x lo hi) h.1, fun c hc => h.2 c ?_⟩
  have e : (cutS x lo hi).cps.toList = (x.cps.toList.drop (HT.sIx x.length 0 lo)).take (HT.sIx x.length x.length hi - HT.sIx x.length 0 lo) := rfl
  rw [e] at hc
  exact List.mem_of_mem_drop (List.mem_of_mem_take hc)
theorem fold_mem {c : Nat} {a : Array Nat} : ∀ (n : Nat) (b : Array Nat), c ∈ ((List.replicate n a).foldl (· ++ ·) b).toList → c ∈ b.toList ∨ c ∈ a.toList
  | 0, b, h => .inl h
  | n + 1, b, h => by
    rw [List.replicate_succ, List.foldl_cons] at h
    rcases fold_mem n _ h with z | z
    · rw [Array.toList_append] at z
      exact List.mem_append.mp z
    · exact .inr z
theorem fold_size {a : Array Nat} : ∀ (n : Nat) (b : Array Nat), ((List.replicate n a).foldl (· ++ ·) b).size = b.size + n * a.size
  | 0, b => by simp
  | n + 1, b => by
    rw [List.replicate_succ, List.foldl_cons, fold_size n, Array.size_append, Nat.succ_mul]
    omega
theorem Pl.mul {x : Str} (h : Pl 1 x) {n : Nat} (hn : n ≤ 9) : Pl 9 (Txt.mul x (n : Int)) := by
  unfold Txt.mul
  split
  · exact ⟨by decide, fun c hc => by cases hc⟩
  · split
    · exact h.mono (by decide)
    · refine ⟨?_, fun c hc => ?_⟩
      · show ((List.replicate ((n : Int)).toNat x.cps).foldl (· ++ ·) #[]).size ≤ 9
        rw [fold_size]
        have h1 : x.cps.size ≤ 1 := h.1
        have e : (n : Int).toNat = n := by omega
        rw [e]
        have := Nat.mul_le_mul hn h1
        simpa using this
      · rcases fold_mem _ _ hc with z | z
        · cases z
        · exact h.2 c z
theorem Pl.lit (s : String) (n : Nat) (h : (decide ((Str.ofString s).length ≤ n) && (Str.ofString s).cps.toList.all fun c => decide (c < 128)) = true) : Pl n (Str.ofString s) := by
  rw [Bool.and_eq_true] at h
  exact ⟨of_decide_eq_true h.1, fun c hc => of_decide_eq_true (List.all_eq_true.mp h.2 c hc)⟩
/-- all but p stands -/
def ExtB (p : Addr) (S S' : DH) : Prop := ∀ b o, b ≠ p → S b = some o → S' b = some o
theorem Pl.join : ∀ ys : List Str, (∀ y ∈ ys, Pl 1 y) → Pl ys.length (Txt.join (.ofString "") ys) := fun ys h => by
  exact (show Txt.join (.ofString "") ys = Str.join (.ofString "") ys from PySem.StrLaws.glued_eq_join ..) ▸ go ys h
where
  go : ∀ ys : List Str, (∀ y ∈ ys, Pl 1 y) → Pl ys.length (Str.join (.ofString "") ys)
  | [], _ => ⟨by decide, fun c hc => by cases hc⟩
  | [x], h => h x (List.mem_cons_self ..)
  | x :: z :: r, h => by
    have e : Pl 0 (Str.ofString "") := Pl.lit "" 0 (by decide +kernel)
    have k := ((h x (List.mem_cons_self ..)).app e).app (go (z :: r) fun y hy => h y (List.mem_cons_of_mem _ hy))
    exact k.mono (by simp; omega)
theorem sum_le1 : ∀ ys : List Str, (∀ y ∈ ys, y.length ≤ 1) → (ys.map (·.length)).sum ≤ ys.length
  | [], _ => Nat.le_refl _
  | x :: r, h => by
    have := sum_le1 r fun y hy => h y (List.mem_cons_of_mem _ hy)
    have := h x (List.mem_cons_self ..)
    simp
    omega
theorem rng_at {i n : Nat} {d : D} (h : (rngD 0 n)[i]? = some d) (hn : n < 2 ^ 100) : ∃ k : Nat, k < 2 ^ 100 ∧ d = .int k := by
  obtain ⟨h1, h2⟩ := List.getElem?_eq_some_iff.mp h
  simp [rngD] at h1 h2
  exact ⟨i, by omega, h2.symm⟩
end Dt
set_option maxRecDepth 100000
set_option maxHeartbeats 4000000
/-! DatC: data within bounds. -/
namespace Dt
open PySem PySem.Spec L2
structure Wt (w dp : Nat) (p : PyData) : Prop where
  sh : p.showable = true
  dp : p.depth ≤ dp
  lf : p.leavesShort 13 = true
  cl : p.canLay0 = true
  wt : p.weight ≤ w
theorem Wt.mono {w dp w' dp' : Nat} {p : PyData} (h : Wt w dp p) (a : w ≤ w') (b : dp ≤ dp') : Wt w' dp' p := ⟨h.sh, Nat.le_trans h.dp b, h.lf, h.cl, Nat.le_trans h.wt a⟩
def Nz (w dp : Nat) (S : DH) (d : D) : Prop := ∃ p, Pd S d p ∧ Wt w dp p
section
variable {S S' : DH} {d : D} {w dp w' dp' n : Nat}
theorem Nz.mono (h : Nz w dp S d) (a : w ≤ w') (b : dp ≤ dp') : Nz w' dp' S d := let ⟨p, h1, h2⟩ := h; ⟨p, h1, h2.mono a b⟩
theorem Nz.ext (h : Nz w dp S d) (e : Ext S S') : Nz w dp S' d := let ⟨p, h1, h2⟩ := h; ⟨p, h1.ext e p d, h2⟩
mutual
theorem Pd.extB {S S' : DH} {q : Addr} (hq : ∀ ds, S q ≠ some (.lst ds)) (e : ExtB q S S') : ∀ (p : PyData) (d : D), Pd S d p → Pd S' d p
  | .none, _, h => by cases h; exact .non
  | .bool b, _, h => by cases h; exact .bl b
  | .int i, _, h => by cases h; exact .int i
  | .str x, _, h => by cases h; exact .str x
  | .tuple ps, _, h => by cases h with | tup hs => exact .tup (PdA.extB hq e ps _ hs)
  | .list ps, _, h => by
    cases h with
    | rol hs => exact .rol (PdA.extB hq e ps _ hs)
    | lst ea hs => exact .lst (e _ _ (fun z => hq _ (by rw [← z]; exact ea)) ea) (PdA.extB hq e ps _ hs)
  | .dict _, _, h => by cases h
theorem PdA.extB {S S' : DH} {q : Addr} (hq : ∀ ds, S q ≠ some (.lst ds)) (e : ExtB q S S') : ∀ (ps : List PyData) (ds : List D), PdA S ds ps → PdA S' ds ps
  | [], _, h => by cases h; exact .nil
  | p :: ps, _, h => by cases h with | cons h1 h2 => exact .cons (Pd.extB hq e p _ h1) (PdA.extB hq e ps _ h2)
end
theorem FeedOb.nl {n : Nat} {o : Ob} (h : FeedOb n o) {q : Addr} {S : DH} (e : S q = some o) : ∀ ds, S q ≠ some (.lst ds) := fun ds z => by
  obtain ⟨_, _, _, rfl, _⟩ := h
  rw [e] at z
  cases z
theorem Nz.extB {q : Addr} (h : Nz w dp S d) (hq : ∀ ds, S q ≠ some (.lst ds)) (e : ExtB q S S') : Nz w dp S' d := let ⟨p, h1, h2⟩ := h; ⟨p, h1.extB hq e p d, h2⟩
theorem Nz.non : Nz w dp S .non := ⟨.none, .non, rfl, Nat.zero_le _, rfl, rfl, Nat.zero_le _⟩
theorem Nz.bl (b : Bool) : Nz w dp S (.bl b) := ⟨.bool b, .bl b, rfl, Nat.zero_le _, rfl, rfl, Nat.zero_le _⟩
theorem Nz.int (i : Int) (h1 : PyData.showable (.int i) = true) (h2 : PyData.leavesShort 13 (.int i) = true) (h3 : PyData.weight (.int i) ≤ w) : Nz w dp S (.int i) := ⟨.int i, .int i, h1, Nat.zero_le _, h2, rfl, h3⟩
theorem Nz.str {x : Str} (h : Pl n x) (hn : n ≤ w) : Nz w dp S (.str x) := by
  refine ⟨.str x, .str x, rfl, Nat.zero_le _, ?_, ?_, Nat.le_trans h.1 hn⟩
  · simp only [PyData.leavesShort, List.all_eq_true, decide_eq_true_eq]
    exact fun c hc => Nat.lt_trans (h.2 c hc) (by decide)
  · show PyData.strOk x = true
    unfold PyData.strOk
    rw [← Array.all_toList, List.all_eq_true]
    exact fun c hc => decide_eq_true (Nat.lt_trans (h.2 c hc) (by decide))
theorem Nz.lit (s : String) (h : (decide ((Str.ofString s).length ≤ w) && (Str.ofString s).cps.toList.all fun c => decide (c < 128)) = true) : Nz w dp S (.str s) := .str (Pl.lit s w h) (Nat.le_refl _)
/-- all of a list -/
structure WtA (w dp : Nat) (ps : List PyData) : Prop where
  sh : PyData.showableAll ps = true
  dp : PyData.depthAll ps ≤ dp
  lf : PyData.leavesShortAll 13 ps = true
  cl : PyData.canLayAll0 ps = true
  wt : PyData.weightAll ps ≤ ps.length * (w + 1)
theorem NzA : ∀ {ds : List D}, (∀ d ∈ ds, Nz w dp S d) → ∃ ps, PdA S ds ps ∧ WtA w dp ps ∧ ps.length = ds.length
  | [], _ => ⟨[], .nil, ⟨rfl, Nat.zero_le _, rfl, rfl, Nat.zero_le _⟩, rfl⟩
  | d :: ds, h => by
    obtain ⟨ps, h1, h2, h3⟩ := NzA (ds := ds) fun e he => h e (List.mem_cons_of_mem _ he)
    obtain ⟨p, h4, h5⟩ := h d (List.mem_cons_self ..)
    refine ⟨p :: ps, .cons h4 h1, ⟨?_, ?_, ?_, ?_, ?_⟩, by simp [h3]⟩
    · simp only [PyData.showableAll, h5.sh, h2.sh, Bool.and_self]
    · simp only [PyData.depthAll]
      have := h5.dp; have := h2.dp
      omega
    · simp only [PyData.leavesShortAll, h5.lf, h2.lf, Bool.and_self]
    · simp only [PyData.canLayAll0, h5.cl, h2.cl, Bool.and_self]
    · simp only [PyData.weightAll, List.length_cons, Nat.succ_mul]
      have := h5.wt; have := h2.wt
      omega
theorem WtA.tup {ps : List PyData} (h : WtA w dp ps) (hw : ps.length * (w + 1) ≤ w') : Wt w' (dp + 1) (.tuple ps) := ⟨h.sh, Nat.succ_le_succ h.dp, h.lf, h.cl, Nat.le_trans h.wt hw⟩
theorem WtA.lst {ps : List PyData} (h : WtA w dp ps) (hw : ps.length * (w + 1) ≤ w') : Wt w' (dp + 1) (.list ps) := ⟨h.sh, Nat.succ_le_succ h.dp, h.lf, h.cl, Nat.le_trans h.wt hw⟩
theorem Nz.tup {ds : List D} (h : ∀ d ∈ ds, Nz w dp S d) (hn : ds.length ≤ n) (hw : n * (w + 1) ≤ w') : Nz w' (dp + 1) S (.tup ds) := by
  obtain ⟨ps, h1, h2, h3⟩ := NzA h
  exact ⟨.tuple ps, .tup h1, h2.tup (by rw [h3]; exact Nat.le_trans (Nat.mul_le_mul_right _ hn) hw)⟩
theorem Nz.lst {ds : List D} {a : Addr} (e : S a = some (.lst ds)) (h : ∀ d ∈ ds, Nz w dp S d) (hn : ds.length ≤ n) (hw : n * (w + 1) ≤ w') : Nz w' (dp + 1) S (.ref a) := by
  obtain ⟨ps, h1, h2, h3⟩ := NzA h
  exact ⟨.list ps, .lst e h1, h2.lst (by rw [h3]; exact Nat.le_trans (Nat.mul_le_mul_right _ hn) hw)⟩
theorem wts_kids : ∀ {ps : List PyData} {ds : List D}, PdA S ds ps → PyData.showableAll ps = true → PyData.depthAll ps ≤ dp → PyData.leavesShortAll 13 ps = true → PyData.canLayAll0 ps = true → PyData.weightAll ps ≤ w → ∀ d ∈ ds, Nz w dp S d
  | [], _, h, _, _, _, _, _ => by cases h; exact fun _ z => nomatch z
  | p :: ps, _, h, h1, h2, h3, h4, h5 => by
    cases h with
    | cons ha hb =>
      simp only [PyData.showableAll, PyData.depthAll, PyData.leavesShortAll, PyData.canLayAll0, PyData.weightAll, Bool.and_eq_true] at h1 h2 h3 h4 h5
      intro d hd
      rcases List.mem_cons.mp hd with rfl | z
      · exact ⟨p, ha, h1.1, by omega, h3.1, h4.1, by omega⟩
      · exact wts_kids hb h1.2 (by omega) h3.2 h4.2 (by omega) d z
theorem Nz.kids {ds : List D} (h : Nz w dp S (.tup ds)) : ∀ d ∈ ds, Nz w dp S d := by
  obtain ⟨p, h1, h2⟩ := h
  cases h1 with
  | tup hs => exact wts_kids hs h2.sh (Nat.le_trans (Nat.le_succ _) h2.dp) h2.lf h2.cl h2.wt
theorem Nz.ty (h : Nz w dp S d) : ∃ n, tyName d S = some n := by
  obtain ⟨p, h1, _⟩ := h
  cases h1 with
  | lst e _ => exact ⟨"list", tyName_lst S e⟩
  | _ => exact ⟨_, rfl⟩
theorem Nz.len {x : Str} (h : Nz w dp S (.str x)) : x.length ≤ w := by
  obtain ⟨p, h1, h2⟩ := h
  cases h1
  exact h2.wt
theorem Nz.shaped (h : Nz w dp S d) (hd : dp ≤ 64) : ∃ p, Pd S d p ∧ SeqAt.shaped p = true := by
  obtain ⟨p, h1, h2⟩ := h
  exact ⟨p, h1, by unfold SeqAt.shaped; rw [h2.cl, decide_eq_true (Nat.le_trans h2.dp hd)]; rfl⟩
end
end Dt
set_option maxRecDepth 100000
set_option maxHeartbeats 4000000
/-! DatV: plain data (==, in, <, sorted by sorts of data); comprehensions whose list is a value. -/
namespace Dt
open PySem PySem.Spec L2 PySem.W PyProof.Rows

/-! ### plain data -/
mutual
def pl : D → Bool
  | .non => true
  | .int _ => true
  | .str x => PyData.strOk x
  | .tup ds => pls ds
  | .rol ds => pls ds
  | .bl _ => false
  | .ref _ => false
def pls : List D → Bool
  | [] => true
  | d :: ds => pl d && pls ds
end
mutual
def dep : D → Nat
  | .tup ds => deps ds + 1
  | .rol ds => deps ds + 1
  | _ => 0
def deps : List D → Nat
  | [] => 0
  | d :: ds => max (dep d) (deps ds)
end
mutual
theorem dep_P : ∀ d : D, (toP d).depth = dep d
  | .non | .bl _ | .int _ | .str _ | .ref _ => rfl
  | .tup ds => congrArg (· + 1) (deps_P ds)
  | .rol ds => congrArg (· + 1) (deps_P ds)
theorem deps_P : ∀ ds : List D, PyData.depthAll (toPs ds) = deps ds
  | [] => rfl
  | d :: ds => by
    show max (toP d).depth (PyData.depthAll (toPs ds)) = max (dep d) (deps ds)
    rw [dep_P d, deps_P ds]
end
mutual
theorem pl_imm : ∀ d : D, pl d = true → imm d = true
  | .non, _ | .int _, _ | .str _, _ => rfl
  | .tup ds, h => pls_imm ds h
  | .rol ds, h => pls_imm ds h
theorem pls_imm : ∀ ds : List D, pls ds = true → imms ds = true
  | [], _ => rfl
  | d :: ds, h => by
    have h' : (pl d && pls ds) = true := h
    rw [Bool.and_eq_true] at h'
    show (imm d && imms ds) = true
    rw [pl_imm d h'.1, pls_imm ds h'.2]
    rfl
end
mutual
theorem pl_lay : ∀ d : D, pl d = true → (toP d).canLay0 = true
  | .non, _ | .int _, _ => rfl
  | .str x, h => h
  | .tup ds, h => pls_lay ds h
  | .rol ds, h => pls_lay ds h
theorem pls_lay : ∀ ds : List D, pls ds = true → PyData.canLayAll0 (toPs ds) = true
  | [], _ => rfl
  | d :: ds, h => by
    have h' : (pl d && pls ds) = true := h
    rw [Bool.and_eq_true] at h'
    show ((toP d).canLay0 && PyData.canLayAll0 (toPs ds)) = true
    rw [pl_lay d h'.1, pls_lay ds h'.2]
    rfl
end
theorem beq_dec {α : Type} [BEq α] [LawfulBEq α] [DecidableEq α] (a b : α) : (a == b) = decide (a = b) := by
  by_cases h : a = b
  · rw [h]; simp
  · rw [decide_eq_false h]
    simp [h]
mutual
theorem eqv_P : ∀ d e : D, pl d = true → pl e = true → PyData.eqv (toP d) (toP e) = deq d e
  | .non, e, _, h => by cases e <;> first | rfl | (simp [pl] at h; done)
  | .int i, e, _, h => by cases e <;> first | rfl | (simp [pl] at h; done) | (simp [toP, PyData.eqv, deq]; done)
  | .str i, e, _, h => by cases e <;> first | rfl | (simp [pl] at h; done)
  | .tup ds, e, h0, h => by
    cases e <;> first | rfl | (simp [pl] at h; done) | skip
    exact eqvs_P ds _ h0 h
  | .rol ds, e, h0, h => by
    cases e <;> first | rfl | (simp [pl] at h; done) | skip
    exact eqvs_P ds _ h0 h
theorem eqvs_P : ∀ ds es : List D, pls ds = true → pls es = true → PyData.eqvAll (toPs ds) (toPs es) = deqs ds es
  | [], es, _, _ => by cases es <;> rfl
  | d :: ds, [], _, _ => rfl
  | d :: ds, e :: es, h, h' => by
    have k : (pl d && pls ds) = true := h
    have k' : (pl e && pls es) = true := h'
    rw [Bool.and_eq_true] at k k'
    show (PyData.eqv (toP d) (toP e) && PyData.eqvAll (toPs ds) (toPs es)) = (deq d e && deqs ds es)
    rw [eqv_P d e k.1 k'.1, eqvs_P ds es k.2 k'.2]
end
theorem deq_dec (d e : D) : deq d e = decide (d = e) := by
  by_cases h : d = e
  · rw [h, deq_self]; simp
  · cases q : deq d e with
    | false => simp [h]
    | true => exact absurd (of_deq _ _ q) h
/-- plain and not deep -/
def Sm (n : Nat) (d : D) : Prop := pl d = true ∧ dep d ≤ n
theorem Sm.mono {n m : Nat} {d : D} (h : Sm n d) (l : n ≤ m) : Sm m d := ⟨h.1, Nat.le_trans h.2 l⟩
theorem pls_iff : ∀ {ds : List D}, pls ds = true ↔ ∀ d ∈ ds, pl d = true
  | [] => by simp [pls]
  | d :: ds => by
    show (pl d && pls ds) = true ↔ _
    rw [Bool.and_eq_true, pls_iff (ds := ds)]
    simp
theorem deps_iff {n : Nat} : ∀ {ds : List D}, deps ds ≤ n ↔ ∀ d ∈ ds, dep d ≤ n
  | [] => by simp [deps]
  | d :: ds => by
    show max (dep d) (deps ds) ≤ n ↔ _
    rw [Nat.max_le, deps_iff (ds := ds)]
    simp
theorem sms_iff {n : Nat} {ds : List D} : (pls ds = true ∧ deps ds ≤ n) ↔ ∀ d ∈ ds, Sm n d := by
  rw [pls_iff, deps_iff]
  exact ⟨fun h d hd => ⟨h.1 d hd, h.2 d hd⟩, fun h => ⟨fun d hd => (h d hd).1, fun d hd => (h d hd).2⟩⟩
@[simp] theorem Sm_non {n : Nat} : Sm n .non := ⟨rfl, Nat.zero_le _⟩
@[simp] theorem Sm_int {n : Nat} {i : Int} : Sm n (.int i) := ⟨rfl, Nat.zero_le _⟩
@[simp] theorem Sm_str {n : Nat} {x : Str} : Sm n (.str x) ↔ PyData.strOk x = true := ⟨fun h => h.1, fun h => ⟨h, Nat.zero_le _⟩⟩
theorem Sm_tup {n : Nat} {ds : List D} : Sm (n + 1) (.tup ds) ↔ ∀ d ∈ ds, Sm n d := by
  rw [← sms_iff]
  exact ⟨fun h => ⟨h.1, Nat.le_of_succ_le_succ h.2⟩, fun h => ⟨h.1, Nat.succ_le_succ h.2⟩⟩
theorem Sm_rol {n : Nat} {ds : List D} : Sm (n + 1) (.rol ds) ↔ ∀ d ∈ ds, Sm n d := by
  rw [← sms_iff]
  exact ⟨fun h => ⟨h.1, Nat.le_of_succ_le_succ h.2⟩, fun h => ⟨h.1, Nat.succ_le_succ h.2⟩⟩
theorem Sm.kids {n : Nat} {ds : List D} (h : Sm n (.tup ds)) : ∀ d ∈ ds, Sm n d := fun d hd => ⟨pls_iff.mp h.1 d hd, deps_iff.mp (Nat.le_trans (Nat.le_succ _) h.2) d hd⟩
theorem Sm.pd {n : Nat} {d : D} (h : Sm n d) (S : DH) : Pd S d (toP d) := imm_pd S d (pl_imm d h.1)
theorem Sm.shaped {n : Nat} {d : D} (h : Sm n d) (hn : n ≤ 64) : SeqAt.shaped (toP d) = true := by
  unfold SeqAt.shaped
  rw [pl_lay d h.1, dep_P d, decide_eq_true (Nat.le_trans h.2 hn)]
  rfl
/-- the items of a list, or all of it -/
theorem seqD_pd {S : DH} {d : D} {ds : List D} (e : seqD S d = some ds) (h : ∀ x ∈ ds, Sm 60 x) : Pd S d (toP (.rol ds)) ∧ SeqAt.shaped (toP (.rol ds)) = true := by
  have hs : Sm 61 (.rol ds) := Sm_rol.mpr h
  refine ⟨?_, hs.shaped (by decide)⟩
  cases d with
  | rol xs => cases e; exact hs.pd S
  | ref a =>
    simp only [seqD_ref] at e
    split at e
    · rename_i xs ea
      cases e
      exact .lst ea (imms_pd S ds (pls_imm ds hs.1))
    · cases e
  | _ => simp at e
section
variable {S : DH} {Q : DK} {neg : Bool} {d e : D}
/-- == of lists of plain data -/
theorem dEq_seq {xs ys : List D} (hd : seqD S d = some xs) (he : seqD S e = some ys) (h1 : ∀ x ∈ xs, Sm 60 x) (h2 : ∀ x ∈ ys, Sm 60 x) (h : Q (.bl (if neg then !decide (xs = ys) else decide (xs = ys))) S) : dEq neg d e S Q := by
  have go : dEqG neg d e S Q := by
    obtain ⟨p1, s1⟩ := seqD_pd hd h1
    obtain ⟨p2, s2⟩ := seqD_pd he h2
    have hx : pl (.rol xs) = true := (Sm_rol (n := 60) (ds := xs)).mpr h1 |>.1
    have hy : pl (.rol ys) = true := (Sm_rol (n := 60) (ds := ys)).mpr h2 |>.1
    refine ⟨_, _, p1, p2, s1, s2, ?_⟩
    rw [eqv_P _ _ hx hy, deq_dec]
    simp only [D.rol.injEq]
    exact h
  cases d with
  | rol _ => cases e <;> first | exact go | (simp at he)
  | ref _ => cases e <;> first | exact go | (simp at he)
  | _ => simp at hd
end

/-! ### sorts of data -/
inductive Ty where
  | int | str | tup (ts : List Ty) | hom (t : Ty) | hom1 (t : Ty) | lst (t : Ty)
mutual
def hasTy : Ty → D → Bool
  | .int, .int _ => true
  | .str, .str x => PyData.strOk x
  | .tup ts, .tup ds => hasTys ts ds
  | .hom t, .tup ds => ds.all (hasTy t)
  | .hom1 t, .tup ds => !ds.isEmpty && ds.all (hasTy t)
  | .lst t, .rol ds => ds.all (hasTy t)
  | _, _ => false
def hasTys : List Ty → List D → Bool
  | [], [] => true
  | t :: ts, d :: ds => hasTy t d && hasTys ts ds
  | _, _ => false
end
mutual
def tyDep : Ty → Nat
  | .tup ts => tysDep ts + 1
  | .hom t => tyDep t + 1
  | .hom1 t => tyDep t + 1
  | .lst t => tyDep t + 1
  | _ => 0
def tysDep : List Ty → Nat
  | [] => 0
  | t :: ts => max (tyDep t) (tysDep ts)
end
mutual
theorem hasTy_sm : ∀ (t : Ty) (d : D), hasTy t d = true → Sm (tyDep t) d
  | .int, d, h => by cases d <;> first | exact Sm_int | (simp [hasTy] at h; done)
  | .str, d, h => by cases d <;> first | exact Sm_str.mpr h | (simp [hasTy] at h; done)
  | .tup ts, d, h => by cases d <;> first | exact Sm_tup.mpr (hasTys_sm ts _ h) | (simp [hasTy] at h; done)
  | .hom t, d, h => by cases d <;> first | (simp [hasTy] at h; exact Sm_tup.mpr fun x hx => hasTy_sm t x (h x hx)) | (simp [hasTy] at h; done)
  | .hom1 t, d, h => by cases d <;> first | (simp [hasTy] at h; exact Sm_tup.mpr fun x hx => hasTy_sm t x (h.2 x hx)) | (simp [hasTy] at h; done)
  | .lst t, d, h => by cases d <;> first | (simp [hasTy] at h; exact Sm_rol.mpr fun x hx => hasTy_sm t x (h x hx)) | (simp [hasTy] at h; done)
theorem hasTys_sm : ∀ (ts : List Ty) (ds : List D), hasTys ts ds = true → ∀ d ∈ ds, Sm (tysDep ts) d
  | [], ds, h => by
    cases ds with
    | nil => exact fun _ z => nomatch z
    | cons _ _ => simp [hasTys] at h
  | t :: ts, ds, h => by
    cases ds with
    | nil => simp [hasTys] at h
    | cons d ds =>
      simp [hasTys] at h
      intro x hx
      rcases List.mem_cons.mp hx with rfl | hx
      · exact (hasTy_sm t x h.1).mono (Nat.le_max_left ..)
      · exact (hasTys_sm ts ds h.2 x hx).mono (Nat.le_max_right ..)
end
theorem alikeAll_hom {ds es : List D} (h : ∀ d ∈ ds, ∀ e ∈ es, alike (toP d) (toP e) = true) : alikeAll (toPs ds) (toPs es) = true := by
  induction ds generalizing es with
  | nil => rfl
  | cons d ds ih =>
    cases es with
    | nil => rfl
    | cons e es =>
      show (alike (toP d) (toP e) && alikeAll (toPs ds) (toPs es)) = true
      rw [h d (List.mem_cons_self ..) e (List.mem_cons_self ..), ih fun x hx y hy => h x (List.mem_cons_of_mem _ hx) y (List.mem_cons_of_mem _ hy)]
      rfl
mutual
theorem hasTy_alike : ∀ (t : Ty) (d e : D), hasTy t d = true → hasTy t e = true → alike (toP d) (toP e) = true
  | .int, d, e, h, h' => by cases d <;> first | (simp [hasTy] at h; done) | (cases e <;> first | rfl | (simp [hasTy] at h'; done))
  | .str, d, e, h, h' => by cases d <;> first | (simp [hasTy] at h; done) | (cases e <;> first | rfl | (simp [hasTy] at h'; done))
  | .tup ts, d, e, h, h' => by cases d <;> first | (simp [hasTy] at h; done) | (cases e <;> first | exact hasTys_alike ts _ _ h h' | (simp [hasTy] at h'; done))
  | .hom t, d, e, h, h' => by
    cases d <;> first | (simp [hasTy] at h; done) | (cases e <;> first | (simp [hasTy] at h h'; exact alikeAll_hom fun x hx y hy => hasTy_alike t x y (h x hx) (h' y hy)) | (simp [hasTy] at h'; done))
  | .hom1 t, d, e, h, h' => by
    cases d <;> first | (simp [hasTy] at h; done) | (cases e <;> first | (simp [hasTy] at h h'; exact alikeAll_hom fun x hx y hy => hasTy_alike t x y (h.2 x hx) (h'.2 y hy)) | (simp [hasTy] at h'; done))
  | .lst t, d, e, h, h' => by
    cases d <;> first | (simp [hasTy] at h; done) | (cases e <;> first | (simp [hasTy] at h h'; exact alikeAll_hom fun x hx y hy => hasTy_alike t x y (h x hx) (h' y hy)) | (simp [hasTy] at h'; done))
theorem hasTys_alike : ∀ (ts : List Ty) (ds es : List D), hasTys ts ds = true → hasTys ts es = true → alikeAll (toPs ds) (toPs es) = true
  | [], ds, es, h, h' => by cases ds <;> first | rfl | (simp [hasTys] at h; done)
  | t :: ts, ds, es, h, h' => by
    cases ds with
    | nil => rfl
    | cons d ds =>
      cases es with
      | nil => rfl
      | cons e es =>
        simp [hasTys] at h h'
        show (alike (toP d) (toP e) && alikeAll (toPs ds) (toPs es)) = true
        rw [hasTy_alike t d e h.1 h'.1, hasTys_alike ts ds es h.2 h'.2]
        rfl
end
/-- x < y -/
def ltD (x y : D) : Bool := dataLt (toP x) (toP y)
/-- what may be sorted -/
def sortTy : Ty → Bool
  | .int => true
  | .str => true
  | .tup (t :: ts) => decide (tyDep (.tup (t :: ts)) ≤ 50)
  | .hom1 t => decide (tyDep (.hom1 t) ≤ 50)
  | _ => false
theorem toPs_map (ds : List D) : toPs ds = ds.map toP := by
  induction ds with
  | nil => rfl
  | cons d ds ih => show toP d :: toPs ds = _; rw [ih]; rfl
/-- sorted as the language sorts -/
def srtD (ds : List D) : List D := ds.mergeSort fun a b => !ltD b a
theorem srtD_eq (ds : List D) : ds.mergeSort (dataLe false toP) = srtD ds := rfl
@[simp] theorem srt_len (ds : List D) : (srtD ds).length = ds.length := List.length_mergeSort _
/-! ### sorted -/
def cSrt (ds : List D) (k : List D → Prop) : Prop := (∃ t, sortTy t = true ∧ ∀ d ∈ ds, hasTy t d = true) ∧ k (srtD ds)
def cSorted : RCD := fun ds S Q => match ds with
  | [d] => opt (seqD S d) fun xs => cSrt xs fun ys => newO S (.lst ys) fun p S' => Q (.ref p) S'
  | _ => False
@[simp] def cSortedF : RCD := fun ds S Q => match ds with
  | [d] => opt (seqD S d) fun xs => cSrt xs fun ys => Q (.rol ys) S
  | _ => False
section
variable {X : Cx}
end
/-! ### < of data -/
def rOrd (b : Bool) : R2D := fun d e S Q => match d, e with
  | .int i, .int j => Q (.bl (if b then decide (j < i) else decide (i < j))) S
  | d, e => (∃ t, tyDep t ≤ 50 ∧ hasTy t d = true ∧ hasTy t e = true) ∧ Q (.bl (if b then ltD e d else ltD d e)) S
@[simp] theorem rOrd_int {b : Bool} {i j : Int} {S : DH} {Q : DK} : rOrd b (.int i) (.int j) S Q = Q (.bl (if b then decide (j < i) else decide (i < j))) S := rfl
section
variable {X : Cx}
end
/-! ### in: plain data in lists -/
/-- b: d is among ds -/
def InR (d : D) (ds : List D) (b : Bool) : Prop := (flD d = true ∧ ds.all flD = true ∧ b = inF d ds) ∨ (Sm 60 d ∧ (∀ e ∈ ds, Sm 60 e) ∧ b = decide (d ∈ ds))
def dInQ (neg : Bool) (d : D) (ds : List D) (S : DH) (Q : DK) : Prop := ∃ b, InR d ds b ∧ Q (.bl (if neg then !b else b)) S
theorem eqF_pl : ∀ {d e : D}, flD d = true → flD e = true → pl d = true → pl e = true → eqF e d = decide (d = e) := fun {d e} f g h k => by
  cases d <;> first | (simp at f; done) | (simp [pl] at h; done) | skip
  all_goals (cases e <;> first | (simp at g; done) | (simp [pl] at k; done) | rfl | skip)
  all_goals
    rw [eqF, beq_dec]
    simp [eq_comm]
theorem inF_pl {d : D} {ds : List D} (f : flD d = true) (g : ds.all flD = true) (h : pl d = true) (k : ∀ e ∈ ds, pl e = true) : inF d ds = decide (d ∈ ds) := by
  rw [Bool.eq_iff_iff]
  unfold inF
  rw [List.any_eq_true, decide_eq_true_eq]
  constructor
  · rintro ⟨e, he, q⟩
    rw [eqF_pl f (List.all_eq_true.mp g e he) h (k e he), decide_eq_true_eq] at q
    rw [q]
    exact he
  · intro hd
    exact ⟨d, hd, by rw [eqF_pl f f h h]; simp⟩
@[simp] theorem dInQ_fl {neg : Bool} {d : D} {ds : List D} {S : DH} {Q : DK} (f : flD d = true) (g : ds.all flD = true) : dInQ neg d ds S Q = Q (.bl (if neg then !inF d ds else inF d ds)) S := by
  refine propext ⟨fun ⟨b, r, q⟩ => ?_, fun q => ⟨_, .inl ⟨f, g, rfl⟩, q⟩⟩
  rcases r with ⟨_, _, rfl⟩ | ⟨h, k, rfl⟩
  · exact q
  · rw [inF_pl f g h.1 fun e he => (k e he).1]
    exact q
theorem dInQ_mono {neg : Bool} {d : D} {ds : List D} {S : DH} {Q Q' : DK} (k : ∀ d S', Q d S' → Q' d S') (h : dInQ neg d ds S Q) : dInQ neg d ds S Q' := let ⟨b, r, q⟩ := h; ⟨b, r, k _ _ q⟩
theorem inP_dec {d : D} {ds : List D} (hd : pl d = true) (hs : ∀ e ∈ ds, pl e = true) : inP (toP d) (toPs ds) = decide (d ∈ ds) := by
  induction ds with
  | nil => rfl
  | cons e ds ih =>
    show (PyData.eqv (toP e) (toP d) || inP (toP d) (toPs ds)) = _
    rw [eqv_P e d (hs e (List.mem_cons_self ..)) hd, ih fun x hx => hs x (List.mem_cons_of_mem _ hx), deq_dec]
    simp [eq_comm]
end Dt
set_option maxRecDepth 100000
set_option maxHeartbeats 4000000
/-! DatT: sorted(set(e)). -/
namespace Dt
open PySem PySem.Spec PySem.W L2 PyProof.Rows
def setHO (w : World) (p : Addr) (ks : List Key) : HO := .ext fun h => SetKs w h p ks
theorem SetKs.there {w : World} {h : Heap} {a : Addr} {ks : List Key} (R : SetKs w h a ks) : ∃ o, h.get? a = some o := by
  obtain ⟨o, _, _, _, _, ho, _⟩ := R
  exact ⟨o, ho⟩
section
variable {X : Cx}
def rSetKs (K : PySem.W.Frag) (w : World) : List V → Hp → VK → Prop := fun vs H Q => ∃ (a : Addr) (all : List Key), vs = [.ref a] ∧ SqL K H a (all.map kV) ∧ all.length + 1 < scanBound ∧ ∀ p, H p = none → Q (.ref p) (upd H p (setHO w p (firstK all)))
/-- a key as data -/
def keyP : Key → PyData
  | .inl i => .int i
  | .inr x => .str x
def rSortKs (w : World) : List V → Hp → VK → Prop := fun vs H Q => ∃ (p : Addr) (ks : List Key), vs = [.ref p] ∧ H p = some (setHO w p ks) ∧ AllAlike (ks.map keyP) ∧ ∀ bs : List Key, bs.Perm ks → ∀ q, H q = none → Q (.ref q) (upd H q (.lst ((bs.mergeSort (dataLe false keyP)).map kV)))
def keyD : Key → D
  | .inl i => .int i
  | .inr x => .str x
theorem keyD_rd {K : PySem.W.Frag} {H : Hp} {k : Key} {v : V} : RD K H (keyD k) v ↔ v = kV k := by
  cases k <;> exact Iff.rfl
theorem keys_rds {K : PySem.W.Frag} {H : Hp} : ∀ all : List Key, RDs K H (all.map keyD) (all.map kV)
  | [] => .nil
  | k :: all => RDs.cons (keyD_rd.mpr rfl) (keys_rds all)
/-- sorted(set(e)) -/
def dSortSet (t : DTE) : DTE := fun E τ S Q => t E τ S fun d S1 => ∃ all : List Key, (d = .rol (all.map keyD) ∨ ∃ a, d = .ref a ∧ S1 a = some (.lst (all.map keyD))) ∧ all.length + 1 < scanBound ∧ AllAlike (all.map keyP) ∧
  ∀ bs : List Key, bs.Perm (firstK all) → newO S1 (.lst ((bs.mergeSort (dataLe false keyP)).map keyD)) fun p S' => Q (.ref p) S'
variable {x y : Str} {e : Expr} {p p' pos pos' : Pos} {t : DTE}
end
end Dt
set_option maxRecDepth 100000
set_option maxHeartbeats 4000000
/-! DatW: in; comprehensions whose list is a value; dicts' methods. -/
namespace Dt
open PySem PySem.Spec L2 PySem.W PyProof.Rows

/-! ### in -/
@[simp] def dIn (neg : Bool) : R2D := fun d e S Q => match e with
  | .tup ds => dInF neg d ds S Q
  | .rol ds => dInQ neg d ds S Q
  | .ref a => (match S a with
    | some (.lst ds) => dInQ neg d ds S Q
    | some (.dK kvs) => opt (dkey d) fun k => Q (.bl (if neg then !(lk kvs k).isSome else (lk kvs k).isSome)) S
    | some (.dN kvs) => okT d = true ∧ Q (.bl (if neg then !(lk kvs d).isSome else (lk kvs d).isSome)) S
    | _ => False)
  | _ => False
theorem dIn_mono (neg : Bool) : Mono2 (dIn neg) := fun x y S Q Q' k h => by
  cases y with
  | tup ds => exact ⟨h.1, h.2.1, k _ _ h.2.2⟩
  | rol ds => exact dInQ_mono k h
  | ref a =>
    revert h
    show (match S a with | some (.lst ds) => _ | some (.dK kvs) => _ | some (.dN kvs) => _ | _ => False) → (match S a with | some (.lst ds) => _ | some (.dK kvs) => _ | some (.dN kvs) => _ | _ => False)
    split
    · exact fun h => dInQ_mono k h
    · exact fun h => opt_mono (fun _ z => k _ _ z) h
    · exact fun h => ⟨h.1, k _ _ h.2⟩
    · exact fun h => h
  | _ => exact h.elim
section
variable {X : Cx}
theorem od_in_neg (neg : Bool) (op : CmpOp) (he : op = if neg then .NotIn else .In) (hu : X.A.units + 120 < cLine) : OpR X (compareOp op) (upO X.w X.K (dIn neg)) := by
  rintro pins s σ H x y v u Q I rx ry ⟨d, e, S, rep, rd, re, h⟩
  have go : rIn X.K neg x y H Q → wpAny (model X.prog X.w) X.A (compareOp op v u) (EP X pins σ Q) X.xe s := fun z => by
    subst he
    cases neg
    · exact op_in_seq pins s σ H x y v u Q I rx ry z
    · exact op_notIn_seq pins s σ H x y v u Q I rx ry z
  have lst : ∀ {ds : List D}, seqD S e = some ds → dInQ neg d ds S (fun z S' => ∀ v H', LeH H H' → Rep X.w X.K S' H' → RD X.K H' z v → Q v H') → wpAny (model X.prog X.w) X.A (compareOp op v u) (EP X pins σ Q) X.xe s := fun {ds} es ⟨b, r, q⟩ => by
    rcases r with ⟨f, g, rfl⟩ | ⟨hd, hs, rfl⟩
    · obtain ⟨p, xs, rfl, sq, rs⟩ := seqD_rd rep re es
      exact go ⟨p, xs, rfl, .inl sq.l, flD_V rd f, flDs_V rs g, by rw [inF_V rd f rs g]; exact q _ H (LeH.refl H) rep rfl⟩
    · obtain ⟨p2, s2⟩ := seqD_pd es hs
      rw [← inP_dec hd.1 fun e he => (hs e he).1] at q
      subst he
      cases neg
      · exact (od_inL (X := X) (by omega)).run pins s σ H x y v u Q I rx ry ⟨d, e, S, rep, rd, re, _, _, hd.pd S, p2, hd.shaped (by decide), s2, q⟩
      · exact (od_ninL (X := X) (by omega)).run pins s σ H x y v u Q I rx ry ⟨d, e, S, rep, rd, re, _, _, hd.pd S, p2, hd.shaped (by decide), s2, q⟩
  cases e with
  | tup ds =>
    obtain ⟨p, xs, rfl, sq, rs⟩ : ∃ p xs, y = V.ref p ∧ SqTn X.K H p xs ∧ RDs X.K H ds xs := re
    exact go ⟨p, xs, rfl, .inr sq, flD_V rd h.1, flDs_V rs h.2.1, by rw [inF_V rd h.1 rs h.2.1]; exact h.2.2 _ H (LeH.refl H) rep rfl⟩
  | rol ds => exact lst rfl h
  | ref a =>
    revert h
    show (match S a with | some (.lst ds) => _ | some (.dK kvs) => _ | some (.dN kvs) => _ | _ => False) → _
    split
    · rename_i ds ea
      exact lst (by simp [ea])
    · rename_i kvs ea
      intro h
      cases re
      obtain ⟨ws, e0, rk⟩ : ∃ ws, H a = some (.dK ws) ∧ RKs X.K H kvs ws := rep a _ ea
      obtain ⟨k, ek, h⟩ := opt_ex h
      have ey := dkey_rd ek rd
      subst ey
      cases ry
      have g : DGet H a (kV k) (valV ws k) := DGet.k e0
      subst he
      cases neg
      · exact d_in (by omega) I g rx fun s3 I3 => ⟨.bl _, H, I3, rfl, by rw [rk.isSome k]; exact h _ H (LeH.refl H) rep rfl⟩
      · exact d_notIn (by omega) I g rx fun s3 I3 => ⟨.bl _, H, I3, rfl, by rw [rk.isSome k]; exact h _ H (LeH.refl H) rep rfl⟩
    · rename_i kvs ea
      rintro ⟨hk, h⟩
      cases re
      cases ry
      obtain ⟨xs, dd, rx', hsys, hl, nd, mu⟩ := dn_open I (rep a _ ea)
      obtain ⟨nk, b, ek, _, rfl, rfl, his⟩ := okT_key I hk rd rx
      rw [← rx'.isSome ek] at h
      subst he
      cases neg
      · exact in_keyed (knd := nestedKind X.prog X.w) (show X.A.units + 1 + 8 < cLine by omega) his hsys ⟨xs, dd, rfl⟩ ⟨.bl _, H, I.tok _, rfl, by rw [valueAt_pairsH, Option.isSome_map]; exact h _ H (LeH.refl H) rep rfl⟩
      · exact notIn_keyed (knd := nestedKind X.prog X.w) (show X.A.units + 1 + 8 < cLine by omega) his hsys ⟨xs, dd, rfl⟩ ⟨.bl _, H, I.tok _, rfl, by rw [valueAt_pairsH, Option.isSome_map]; exact h _ H (LeH.refl H) rep rfl⟩
    · exact fun h => h.elim
  | _ => exact h.elim
theorem od_in (hu : X.A.units + 120 < cLine) : OpD X (compareOp .In) (dIn false) := ⟨dIn_mono false, od_in_neg false .In rfl hu⟩
end
/-! ### comprehensions whose list is a value -/
theorem upo_comm {S : DH} {p q : Addr} {o u : Ob} (h : p ≠ q) : upo (upo S p o) q u = upo (upo S q u) p o := by
  funext b
  unfold upo
  split
  · rename_i e
    split
    · rename_i e'
      exact absurd (e'.symm.trans e) h
    · rfl
  · rfl
theorem lcF_inv {g : DTG} {tt : DTT} {te : DTE} {E : DW} {τ : DSt} {G : DH → Prop} {ds : List D} {S : DH} {Q : DK} (I : Nat → List D → DH → Prop) (h0 : I 0 [] S)
    (hG : ∀ i acc S1 p, i ≤ ds.length → I i acc S1 → S1 p = none → G (upo S1 p (.lst acc)))
    (hs : ∀ i d acc S1 p (N : DH → Prop), ds[i]? = some d → I i acc S1 → S1 p = none → acc.length < 16777216 → (∀ acc' S2, S2 p = none → I (i + 1) acc' S2 → acc'.length ≤ acc.length + 1 → N (upo S2 p (.lst acc'))) →
      g d τ (upo S1 p (.lst acc)) fun τ1 S2 => tt E τ1 S2 fun b S3 => if b = true then te E τ1 S3 fun y S4 => (match S4 p with | some (.lst acc) => acc.length < 16777216 ∧ N (upo S4 p (.lst (acc ++ [y]))) | _ => False) else N S3)
    (hl : ds.length < sizeLine) (hd : ∀ acc S1, I ds.length acc S1 → Q (.rol acc) S1) : newO S (.lst []) fun p S1 => dLcL g tt te E τ G p (fzK Q (.ref p)) ds S1 := by
  intro p hp
  have go : ∀ (m i : Nat) (acc : List D) (S1 : DH), i + m = ds.length → acc.length ≤ i → S1 p = none → I i acc S1 → dLcL g tt te E τ G p (fzK Q (.ref p)) (ds.drop i) (upo S1 p (.lst acc)) := by
    intro m
    induction m with
    | zero =>
      intro i acc S1 e _ hp1 hi
      have e' : i = ds.length := by omega
      subst e'
      rw [List.drop_length]
      exact ⟨hG _ _ _ _ (Nat.le_refl _) hi hp1, fzK_new hp1 (hd _ _ hi)⟩
    | succ m ih =>
      intro i acc S1 e ha hp1 hi
      have hlt : i < ds.length := by omega
      have ed : ds[i]? = some ds[i] := List.getElem?_eq_getElem hlt
      rw [drop_at ed]
      refine ⟨hG _ _ _ _ (by omega) hi hp1, ?_⟩
      have := hs i _ acc S1 p (dLcL g tt te E τ G p (fzK Q (.ref p)) (ds.drop (i + 1))) ed hi hp1 (by rw [line_lt] at hl; omega) fun acc' S2 h2 hi2 hle => ih (i + 1) acc' S2 (by omega) (by omega) h2 hi2
      simp only [line_lt] at this ⊢
      exact this
  have := go ds.length 0 [] S (by omega) (Nat.le_refl _) hp h0
  rwa [List.drop_zero] at this
/-- [f d for d in ds if c d], where nothing changes -/
theorem lcF_of {g : DTG} {tt : DTT} {te : DTE} {E : DW} {τ : DSt} {G : DH → Prop} {ds : List D} {S : DH} {Q : DK} (c : D → Bool) (f : D → D)
    (hG : ∀ p acc, S p = none → G (upo S p (.lst acc)))
    (hs : ∀ d ∈ ds, ∀ acc p (N : DH → Prop), S p = none → acc.length < 16777216 → (c d = true → N (upo S p (.lst (acc ++ [f d])))) → (c d = false → N (upo S p (.lst acc))) →
      g d τ (upo S p (.lst acc)) fun τ1 S2 => tt E τ1 S2 fun b S3 => if b = true then te E τ1 S3 fun y S4 => (match S4 p with | some (.lst acc) => acc.length < 16777216 ∧ N (upo S4 p (.lst (acc ++ [y]))) | _ => False) else N S3)
    (hl : ds.length < sizeLine) (hq : Q (.rol ((ds.filter c).map f)) S) : newO S (.lst []) fun p S1 => dLcL g tt te E τ G p (fzK Q (.ref p)) ds S1 := by
  refine lcF_inv (fun i acc S1 => S1 = S ∧ acc = ((ds.take i).filter c).map f) ⟨rfl, rfl⟩ (fun i acc S1 p _ ⟨e, _⟩ hp => by subst e; exact hG p acc hp) (fun i d acc S1 p N ed ⟨e1, e2⟩ hp ha hN => ?_) hl fun acc S1 ⟨e1, e2⟩ => ?_
  · subst e1
    refine hs d (List.mem_of_getElem? ed) acc p N hp ha (fun hc => hN _ _ hp ⟨rfl, ?_⟩ (by simp)) fun hc => hN _ _ hp ⟨rfl, ?_⟩ (by simp)
    · rw [List.take_succ, ed, e2]
      simp [hc]
    · rw [List.take_succ, ed, e2]
      simp [hc]
  · subst e1 e2
    rw [List.take_length]
    exact hq
/-- [f d for d in ds], where nothing changes -/
theorem lcF_map {g : DTG} {te : DTE} {E : DW} {τ : DSt} {G : DH → Prop} {ds : List D} {S : DH} {Q : DK} (f : D → D)
    (hG : ∀ p acc, S p = none → G (upo S p (.lst acc)))
    (hs : ∀ d ∈ ds, ∀ acc p (N : DH → Prop), S p = none → acc.length < 16777216 → N (upo S p (.lst (acc ++ [f d]))) →
      g d τ (upo S p (.lst acc)) fun τ1 S2 => te E τ1 S2 fun y S4 => (match S4 p with | some (.lst acc) => acc.length < 16777216 ∧ N (upo S4 p (.lst (acc ++ [y]))) | _ => False))
    (hl : ds.length < sizeLine) (hq : Q (.rol (ds.map f)) S) : newO S (.lst []) fun p S1 => dLcL g dYes te E τ G p (fzK Q (.ref p)) ds S1 := by
  have hf : ds.filter (fun _ => true) = ds := List.filter_eq_self.mpr fun _ _ => rfl
  refine lcF_of (fun _ => true) f hG (fun d hd acc p N hp ha h1 _ => ?_) hl (by rw [hf]; exact hq)
  simpa only [dYes, if_true] using hs d hd acc p N hp ha (h1 rfl)
/-! ### sorted(set(e)) -/
/-- sorted, each once -/
def ssD (ds : List D) : List D := srtD ds.eraseDups
def scTy (b : Bool) : Ty := if b then .int else .str
@[simp] def dSortSetM (t : DTE) : DTE := fun E τ S Q => t E τ S fun d S1 => opt (seqD S1 d) fun xs => (∃ b, ∀ d ∈ xs, hasTy (scTy b) d = true) ∧ xs.length + 1 < scanBound ∧ newO S1 (.lst (ssD xs)) fun p S' => Q (.ref p) S'
@[simp] def dSortSetF (t : DTE) : DTE := fun E τ S Q => t E τ S fun d S1 => opt (seqD S1 d) fun xs => (∃ b, ∀ d ∈ xs, hasTy (scTy b) d = true) ∧ xs.length + 1 < scanBound ∧ Q (.rol (ssD xs)) S1
section
variable {X : Cx} {x y : Str} {e : Expr} {p p' pos pos' : Pos} {t : DTE}
end
end Dt
set_option maxRecDepth 100000
set_option maxHeartbeats 4000000
/-! DatX: y = [..] whose list is a value; ends of defs. -/
namespace Dt
open PySem PySem.Spec L2 PySem.W PyProof.Rows
/-- what a def's body ends in -/
abbrev dEnd (Q : DK) (E : DXK) : DEnds := { nx := fun _ S' => Rt Q .non S', rt := Rt Q, xe := fun C fs _ S' => ∃ S'', Sub S'' S' ∧ E C fs S'' }
theorem fzK_at {X : Cx} {pins : List (Addr × Obj)} {σ : L2.St} {s : Shared} {S : DH} {H : Hp} {d : D} {v : V} {Q : DK} (I : Inv X pins σ H s) (r : Rep X.w X.K S H) (rd : RD X.K H d v) (h : fzK Q d S) :
    ∃ d' S' H', Inv X pins σ H' s ∧ LeH H H' ∧ Rep X.w X.K S' H' ∧ RD X.K H' d' v ∧ Q d' S' := by
  cases d with
  | ref a =>
    obtain rfl : v = .ref a := rd
    revert h
    show (match S a with | some (.lst ds) => _ | _ => False) → _
    split
    · rename_i ds ea
      intro h
      obtain ⟨xs, eh, rs⟩ : ∃ xs, H a = some (.lst xs) ∧ RDs X.K H ds xs := r a _ ea
      obtain ⟨o, I1⟩ := inv_frz I eh
      exact ⟨.rol ds, delo S a, _, I1, LeH.frz eh, rep_frz r eh, ⟨a, xs, rfl, .inl ⟨o, upd_same⟩, rs.le (LeH.frz eh)⟩, h⟩
    · exact fun h => h.elim
  | _ => exact ⟨_, S, H, I, LeH.refl H, r, rd, h⟩
section
variable {X : Cx} {tg iter elt : Expr} {ifs : List Expr} {scope : Scope} {own : List (Str × Nat)} {pos spos py : Pos} {ti : DTI} {g : DTG} {tt : DTT} {te : DTE}
theorem ds_setLcF {i : Nat} {y : Str} (hc : X.calm = true) (hN : X.N.Nodup) (hy : X.N[i]? = some y) (hyl : X.env.scope.names.lookup y = some .local)
    (hsw : swapsWith (.ListComp elt [⟨tg, iter, ifs, 0⟩] scope pos) (some (.Name y py)) spos.line X.env = pure true) (hi : DI X tg iter ti) (ok : BlkOk X.N X.env.scope scope own) (B : Blk X scope (own.map (·.2)) elt tg ifs g tt te)
    (hs : ∀ x, foldedSetIterable iter X.env x = pure x := by intro _; rfl) : DS X (.Assign [.Name y py] (.ListComp elt [⟨tg, iter, ifs, 0⟩] scope pos) spos) (dAsg (dFz (dLc ti g tt te (own.map (·.2)))) (dGN i)) := by
  have h0 := ds_setLc (g := g) (tt := tt) (te := te) hc hN hy hyl hsw hi ok B hs
  have m0 := dLc_mono hi B
  refine ⟨fun A B' τ S le q => m0 _ _ _ _ _ _ le.xe (fzK_mono fun _ _ z => le.nx _ _ z) q, ⟨fun pins s σ H D I ⟨E, τ, S, w, r, q⟩ => ?_⟩⟩
  have hlen : i < τ.length := by
    rw [r.st.len, I.len]
    exact (List.getElem?_eq_some_iff.mp hy).1
  refine PySem.wpAny_mono (h0.run.run pins s σ H { D with nx := fun σ' H' => ∃ τ' S' d, LeH H H' ∧ Rel X.w X.K τ' S' σ' H' ∧ τ' = τ.set i (some d) ∧ fzK (fun d S' => ∀ σ' H', LeH H H' → Rel X.w X.K (τ.set i (some d)) S' σ' H' → D.nx σ' H') d S' } I ⟨E, τ, S, w, r, ?_⟩) (fun fl s' hs => ?_) fun e s' hs => hs
  · exact m0 _ _ _ _ _ _ (fun _ _ _ _ z => z) (fun d S' z => show (dnE X.w X.K H _ E).nx _ _ from fun σ' H' le r' => ⟨_, S', d, le, r', rfl, z⟩) q
  · cases fl with
    | next =>
      obtain ⟨σ', H', J, τ', S', d, le, r', rfl, z⟩ := hs
      obtain ⟨v, ev, rv⟩ := r'.st.get i d (by rw [List.getElem?_set]; simp [hlen])
      obtain ⟨d', S2, H2, J2, le2, rp2, rd2, q2⟩ := fzK_at J r'.rep rv z
      refine ⟨σ', H2, J2, q2 σ' H2 (le.trans le2) ⟨⟨by simpa using r'.st.len, fun j e he => ?_⟩, rp2⟩⟩
      by_cases hj : i = j
      · subst hj
        rw [List.getElem?_set, if_pos rfl, if_pos hlen] at he
        cases he
        exact ⟨v, ev, rd2⟩
      · rw [List.getElem?_set, if_neg hj] at he
        obtain ⟨u, eu, ru⟩ := r'.st.get j e (by rw [List.getElem?_set, if_neg hj]; exact he)
        exact ⟨u, eu, ru.le le2⟩
    | ret u => exact hs
    | brk => exact hs
    | cont => exact hs
end
end Dt
set_option maxRecDepth 100000
set_option maxHeartbeats 4000000
/-! DatY: texts, cuts, names. -/
namespace Dt
open PySem PySem.Spec L2
section
variable {α : Type} {x y z : α} {xs : List α}
@[simp] theorem atI_0 : atI (x :: xs) 0 = some x := atI_nat (j := 0) rfl
@[simp] theorem atI_1 : atI (x :: y :: xs) 1 = some y := atI_nat (j := 1) rfl
@[simp] theorem atI_2 : atI (x :: y :: z :: xs) 2 = some z := atI_nat (j := 2) rfl
end
/-- a name -/
def Nm (y : Str) : Prop := 1 ≤ y.length ∧ y.length ≤ 8 ∧ ∀ c ∈ y.cps.toList, 97 ≤ c ∧ c ≤ 122
theorem Nm.pl {y : Str} (h : Nm y) : Pl 8 y := ⟨h.2.1, fun c hc => Nat.lt_of_le_of_lt (h.2.2 c hc).2 (by decide)⟩
@[simp] theorem cutD_drop (ds : List D) (k : Nat) : cutD ds (some (k : Int)) none = ds.drop k := by
  unfold cutD
  rw [HT.sIx_nat, HT.sIx_none]
  rcases Nat.le_total k ds.length with h | h
  · rw [Nat.min_eq_left h]
    exact List.take_of_length_le (by simp)
  · rw [Nat.min_eq_right h, List.drop_eq_nil_of_le (Nat.le_refl _), List.drop_eq_nil_of_le h]
    simp
@[simp] theorem cutD_take (ds : List D) (k : Nat) : cutD ds none (some (k : Int)) = ds.take k := by
  unfold cutD
  rw [HT.sIx_nat, HT.sIx_none, List.drop_zero, Nat.sub_zero]
  rcases Nat.le_total k ds.length with h | h
  · rw [Nat.min_eq_left h]
  · rw [Nat.min_eq_right h, List.take_of_length_le (Nat.le_refl _), List.take_of_length_le h]
theorem cutS_take (x : Str) (k : Nat) : (cutS x none (some (k : Int))).cps.toList = x.cps.toList.take k := by
  have e : x.length = x.cps.toList.length := by simp [Str.length]
  show (x.cps.toList.drop (HT.sIx x.length 0 none)).take (HT.sIx x.length x.length (some (k : Int)) - HT.sIx x.length 0 none) = _
  rw [HT.sIx_nat, HT.sIx_none, List.drop_zero, Nat.sub_zero, e]
  rcases Nat.le_total k x.cps.toList.length with h | h
  · rw [Nat.min_eq_left h]
  · rw [Nat.min_eq_right h, List.take_of_length_le (Nat.le_refl _), List.take_of_length_le h]
theorem cutS_mid (x : Str) (a b : Nat) (ha : a ≤ b) (hb : b ≤ x.cps.toList.length) : (cutS x (some (a : Int)) (some (b : Int))).cps.toList = (x.cps.toList.drop a).take (b - a) := by
  have e : x.length = x.cps.toList.length := by simp [Str.length]
  show (x.cps.toList.drop (HT.sIx x.length 0 (some (a : Int)))).take (HT.sIx x.length x.length (some (b : Int)) - HT.sIx x.length 0 (some (a : Int))) = _
  rw [HT.sIx_nat, HT.sIx_nat, e, Nat.min_eq_left (Nat.le_trans ha hb), Nat.min_eq_left hb]
theorem str_len (x : Str) : x.length = x.cps.toList.length := by simp [Str.length]
theorem app_tl (x y : Str) : (x ++ y).cps.toList = x.cps.toList ++ y.cps.toList := by
  show (x.cps ++ y.cps).toList = _
  rw [Array.toList_append]
/-- one sign each, joined -/
theorem join_one : ∀ ys : List Str, (∀ y ∈ ys, ∃ c, y = ⟨#[c]⟩ ∧ 97 ≤ c ∧ c ≤ 122) → (Txt.join (.ofString "") ys).cps.toList.length = ys.length ∧ ∀ c ∈ (Txt.join (.ofString "") ys).cps.toList, 97 ≤ c ∧ c ≤ 122 := fun ys h => by
  rw [show Txt.join (.ofString "") ys = Str.join (.ofString "") ys from PySem.StrLaws.glued_eq_join ..]
  exact go ys h
where
  go : ∀ ys : List Str, (∀ y ∈ ys, ∃ c, y = ⟨#[c]⟩ ∧ 97 ≤ c ∧ c ≤ 122) → (Str.join (.ofString "") ys).cps.toList.length = ys.length ∧ ∀ c ∈ (Str.join (.ofString "") ys).cps.toList, 97 ≤ c ∧ c ≤ 122
  | [], _ => ⟨rfl, fun c hc => by cases hc⟩
  | [x], h => by
    obtain ⟨c, rfl, h1, h2⟩ := h x (List.mem_cons_self ..)
    exact ⟨rfl, fun d hd => by rw [List.mem_singleton.mp hd]; exact ⟨h1, h2⟩⟩
  | x :: z :: r, h => by
    obtain ⟨k1, k2⟩ := go (z :: r) fun y hy => h y (List.mem_cons_of_mem _ hy)
    obtain ⟨c, rfl, h1, h2⟩ := h x (List.mem_cons_self ..)
    have e : (Str.join (.ofString "") (⟨#[c]⟩ :: z :: r)).cps.toList = c :: (Str.join (.ofString "") (z :: r)).cps.toList := by
      show ((⟨#[c]⟩ : Str) ++ (Str.ofString "") ++ Str.join (.ofString "") (z :: r)).cps.toList = _
      rw [app_tl, app_tl]
      rfl
    rw [e]
    exact ⟨by simpa using k1, fun d hd => by
      rcases List.mem_cons.mp hd with rfl | hd
      · exact ⟨h1, h2⟩
      · exact k2 d hd⟩
theorem letter_at (j : Nat) (h : j < 26) : (Str.ofString "abcdefghijklmnopqrstuvwxyz").cps.toList[j]? = some (97 + j) := by
  have : ∀ j : Fin 26, (Str.ofString "abcdefghijklmnopqrstuvwxyz").cps.toList[j.val]? = some (97 + j.val) := by decide +kernel
  exact this ⟨j, h⟩
theorem signs_apart (st : Nat) (h : st < 26) : ((List.range 8).map fun k => 97 + (st + 5 * k) % 26).Nodup := by
  have : ∀ st : Fin 26, ((List.range 8).map fun k => 97 + (st.val + 5 * k) % 26).Nodup := by decide +kernel
  exact this ⟨st, h⟩
theorem nodup_of_map {α β : Type} (f : α → β) {l : List α} (h : (l.map f).Nodup) : l.Nodup := List.Pairwise.of_map f (fun _ _ h e => h (congrArg f e)) h
@[simp] theorem cutD_drop1 (ds : List D) (k : Nat) : cutD ds (some ((k : Int) + 1)) none = ds.drop (k + 1) := cutD_drop ds (k + 1)
@[simp] theorem cutD_take1 (ds : List D) (k : Nat) : cutD ds none (some ((k : Int) + 1)) = ds.take (k + 1) := cutD_take ds (k + 1)
theorem dSeq_gen {a b : DTS} {A : DEnds} {τ : DSt} {S : DH} (h : ∀ R, R = b → dSeq a R A τ S) : dSeq a b A τ S := h b rfl
theorem dIf_gen {c : DTT} {a b : DTS} {A : DEnds} {τ : DSt} {S : DH} (h : ∀ R1 R2, R1 = a → R2 = b → dIf c R1 R2 A τ S) : dIf c a b A τ S := h a b rfl rfl
theorem dSeqIf_gen {c : DTT} {a b r : DTS} {A : DEnds} {τ : DSt} {S : DH} (h : ∀ R1 R2 R, R1 = a → R2 = b → R = r → dSeq (dIf c R1 R2) R A τ S) : dSeq (dIf c a b) r A τ S := h a b r rfl rfl rfl
theorem dFor_gen {ti : DTI} {g : DTG} {tb : DTS} {A : DEnds} {τ : DSt} {S : DH} (h : ∀ B, B = tb → dFor ti g B A τ S) : dFor ti g tb A τ S := h tb rfl
theorem dSeqFor_gen {ti : DTI} {g : DTG} {tb r : DTS} {A : DEnds} {τ : DSt} {S : DH} (h : ∀ B R, B = tb → R = r → dSeq (dFor ti g B) R A τ S) : dSeq (dFor ti g tb) r A τ S := h tb r rfl rfl
end Dt
set_option maxRecDepth 100000
set_option maxHeartbeats 4000000
/-! DatI: instances: o.f, o.f = e, C(..). -/
namespace Dt
open PySem PySem.Spec L2
/-- o.f -/
def dFldK (C : Addr) (f : Str) (Q : DK) : DK := fun d S1 => match d with
  | .ref a => (match S1 a with | some (.ins C' fs) => C' = C ∧ opt (fs.lookup f) fun v => Q v S1 | _ => False)
  | _ => False
@[simp] theorem dFldK_ref {C a : Addr} {f : Str} {Q : DK} {S : DH} : dFldK C f Q (.ref a) S = (match S a with | some (.ins C' fs) => C' = C ∧ opt (fs.lookup f) fun v => Q v S | _ => False) := rfl
@[simp] def dFld (C : Addr) (f : Str) (ta : DTE) : DTE := fun E τ S Q => ta E τ S (dFldK C f Q)
theorem dFldK_mono {C : Addr} {f : Str} {Q Q' : DK} (k : ∀ d S', Q d S' → Q' d S') (d : D) (S : DH) (h : dFldK C f Q d S) : dFldK C f Q' d S := by
  cases d with
  | ref a =>
    revert h
    show (match S a with | some (.ins C' fs) => _ | _ => False) → (match S a with | some (.ins C' fs) => _ | _ => False)
    split
    · exact fun h => ⟨h.1, opt_mono (fun v => k v S) h.2⟩
    · exact id
  | _ => exact h
section
variable {X : Cx} {k : Nat} {f C : Addr} {fd : FuncData} {ps : List Str} {sp : DSp} {x m : Str} {p pos apos pos' : Pos} {e o value : Expr} {es : List Expr} {ta tv : DTE} {t : DTA}
theorem de_fld (he : DE X e ta) (c : Cls X.K C) (n : NoAttr X.K C m) (hb : attributeBase e m X.env (eval e X.env) = eval e X.env := by rfl) : DE X (.Attribute e m pos) (dFld C m ta) := by
  refine ⟨fun E E' τ S Q Q' hE k q => he.mono _ _ _ _ _ _ hE (dFldK_mono k) q, pE_imp (pe_fld he.run hb) fun σ H Q ⟨E, τ, S, w, r, q⟩ => ?_⟩
  refine he.to w r q fun d S1 v H1 le1 w1 r1 rd z => ?_
  cases d with
  | ref a =>
    obtain rfl : v = V.ref a := rd
    revert z
    show (match S1 a with | some (.ins C' fs) => _ | _ => False) → _
    split
    · rename_i C' fs ea
      rintro ⟨rfl, hl⟩
      obtain ⟨d, hd, q⟩ := opt_ex hl
      obtain ⟨dx, ws, eh, rk⟩ : ∃ dx ws, H1 a = some (.ins C' dx ws) ∧ RKs X.K H1 fs ws := r1.rep a _ ea
      obtain ⟨v, hv, rv⟩ := rk.lookup_some hd
      exact ⟨a, C', dx, ws, v, rfl, eh, c, n, hv, q v H1 le1 r1.rep rv⟩
    · exact fun z => z.elim
  | _ => exact z.elim
/-- o.f = e -/
def putFD (f : Str) (v : D) : List (Str × D) → List (Str × D)
  | [] => [(f, v)]
  | (g, x) :: r => if g = f then (g, v) :: r else (g, x) :: putFD f v r
theorem RKs.putF {K : PySem.W.Frag} {H : Hp} {f : Str} {d : D} {v : V} (rd : RD K H d v) : ∀ {fs : List (Str × D)} {ws : List (Str × V)}, RKs K H fs ws → RKs K H (putFD f d fs) (L2.putF f v ws)
  | [], _, h => by
    cases h
    exact ⟨v, [], rfl, rd, rfl⟩
  | (g, x) :: r, _, h => by
    obtain ⟨y, s, rfl, h1, h2⟩ := h
    show RKs K H (if g = f then (g, d) :: r else (g, x) :: putFD f d r) (if g = f then (g, v) :: s else (g, y) :: L2.putF f v s)
    split
    · exact ⟨v, s, rfl, rd, h2⟩
    · exact ⟨y, _, rfl, h1, RKs.putF rd h2⟩
theorem RKs.len {κ : Type} {K : PySem.W.Frag} {H : Hp} : ∀ {fs : List (κ × D)} {ws : List (κ × V)}, RKs K H fs ws → fs.length = ws.length
  | [], _, h => by cases h; rfl
  | _ :: _, _, h => by
    obtain ⟨y, s, rfl, h1, h2⟩ := h
    rw [List.length_cons, List.length_cons, RKs.len h2]
def dPutFK (C : Addr) (f : Str) (y : D) (N : DH → Prop) : D → DH → Prop := fun d S2 => match d with
  | .ref a => (match S2 a with | some (.ins C' fs) => C' = C ∧ fs.length < 1000 ∧ N (upo S2 a (.ins C (putFD f y fs))) | _ => False)
  | _ => False
@[simp] theorem dPutFK_ref {C a : Addr} {f : Str} {y : D} {N : DH → Prop} {S : DH} : dPutFK C f y N (.ref a) S = (match S a with | some (.ins C' fs) => C' = C ∧ fs.length < 1000 ∧ N (upo S a (.ins C (putFD f y fs))) | _ => False) := rfl
theorem dPutFK_mono {C : Addr} {f : Str} {y : D} {N N' : DH → Prop} (k : ∀ S', N S' → N' S') (d : D) (S : DH) (h : dPutFK C f y N d S) : dPutFK C f y N' d S := by
  cases d with
  | ref a =>
    revert h
    show (match S a with | some (.ins C' fs) => _ | _ => False) → (match S a with | some (.ins C' fs) => _ | _ => False)
    split
    · exact fun h => ⟨h.1, h.2.1, k _ h.2.2⟩
    · exact id
  | _ => exact h
@[simp] def dPutF (C : Addr) (f : Str) (ta tv : DTE) : DTS := fun A τ S => tv A.xe τ S fun y S1 => ta A.xe τ S1 (dPutFK C f y (A.nx τ))
theorem ds_fput (ha : DE X o ta) (hv : DE X value tv) (c : Cls X.K C) (n : NoAttr X.K C m) (hs : swapsWith value (some (.Attribute o m pos')) pos.line X.env = pure false := by rfl) : DS X (.Assign [.Attribute o m pos'] value pos) (dPutF C m ta tv) := by
  refine ⟨fun A B τ S le q => hv.mono _ _ _ _ _ _ le.xe (fun y S1 z => ha.mono _ _ _ _ _ _ le.xe (dPutFK_mono fun S' => le.nx _ _) z) q, pS_imp (ps_fld ha.run hv.run hs) fun D σ H ⟨E, τ, S, w, r, q⟩ => ?_⟩
  refine hv.to w r q fun y S1 u H1 le1 w1 r1 rd1 z => ?_
  refine ha.to w1 r1 z fun d S2 v H2 le2 w2 r2 rd2 z => ?_
  cases d with
  | ref a =>
    obtain rfl : v = V.ref a := rd2
    revert z
    show (match S2 a with | some (.ins C' fs) => _ | _ => False) → _
    split
    · rename_i C' fs ea
      rintro ⟨rfl, hl, q⟩
      obtain ⟨dx, ws, eh, rk⟩ : ∃ dx ws, H2 a = some (.ins C' dx ws) ∧ RKs X.K H2 fs ws := r2.rep a _ ea
      have le3 : LeH H2 (upd H2 a (.ins C' dx (L2.putF m u ws))) := LeH.put eh trivial
      refine ⟨a, C', dx, ws, rfl, eh, c, n, by rw [← rk.len]; exact hl, q _ _ (le1.trans (le2.trans le3)) ⟨r2.st.le le3, r2.rep.put eh trivial ⟨dx, _, upd_same, RKs.putF (rd1.le (le2.trans le3)) (rk.le le3)⟩⟩⟩
    · exact fun z => z.elim
  | _ => exact z.elim
/-- C(..) -/
@[simp] def dMake (C : Addr) (sp : DSp) (t : DTA) : DTE := fun E τ S Q => t E τ S fun ds S1 => ∀ x, S1 x = none → sp (.ref x :: ds) (upo S1 x (.ins C [])) (fun d S' => d = .non ∧ Q (.ref x) S') fun C fs S' => E C fs τ S'
theorem guards_make {A : Around} {args : Args} (h : A.guards = some []) : (A.under (.builtin "type.__call__" args)).guards = some [] := by
  have e : (A.under (.builtin "type.__call__" args)).guards = pushGuards (Code.builtin "type.__call__" args).guards A.guards := rfl
  rw [e, h]
  rfl
theorem run_dmake {pins : List (Addr × Obj)} {s : Shared} {us : List Value} {vs : List V} {ds : List D} {E : DW} {τ : DSt} {S : DH} {σ : L2.St} {H : Hp} {Q0 : DK} {Q : VK} (M : Mk X.K C f) (F : DFn X.prog X.w X.K X.mg X.base k f fd ps sp) (hr : Room (k + 1) X.A) (gu : X.A.guards = some []) (hb : Binds X.K fd ps [])
    (I : Inv X pins σ H s) (w : Wish X E H) (rl : Rel X.w X.K τ S σ H) (r : Vals vs us) (rd : RDs X.K H ds vs) (h : ∀ x, S x = none → sp (.ref x :: ds) (upo S x (.ins C [])) (fun d S' => d = .non ∧ Q0 (.ref x) S') fun C fs S' => E C fs τ S')
    (kq : ∀ d S' v H', LeH H H' → Rep X.w X.K S' H' → RD X.K H' d v → Q0 d S' → Q v H') :
    wpAny (model X.prog X.w) X.A (call (.ref C) us) (EP X pins σ Q) X.xe s := by
  have fr1 := I.hok.fresh (Nat.le_succ s.heap.objs.size)
  have fr0 := I.hok.fresh (Nat.le_refl s.heap.objs.size)
  have ne : s.heap.objs.size + 1 ≠ s.heap.objs.size := Nat.succ_ne_self _
  have I2 := Inv.made (C := C) I
  have le1 : LeH H (upd H s.heap.objs.size (.own (s.heap.objs.size + 1))) := LeH.new fr0
  have fr1' : upd H s.heap.objs.size (.own (s.heap.objs.size + 1)) (s.heap.objs.size + 1) = none := by rw [upd_ne ne]; exact fr1
  have le2 : LeH (upd H s.heap.objs.size (.own (s.heap.objs.size + 1))) (upd (upd H s.heap.objs.size (.own (s.heap.objs.size + 1))) (s.heap.objs.size + 1) (.ins C s.heap.objs.size [])) := LeH.new fr1'
  have rp2 : Rep X.w X.K (upo S (s.heap.objs.size + 1) (.ins C [])) (upd (upd H s.heap.objs.size (.own (s.heap.objs.size + 1))) (s.heap.objs.size + 1) (.ins C s.heap.objs.size [])) := (rl.rep.garb fr0).new fr1' ⟨_, [], upd_same, rfl⟩
  have hs : S (s.heap.objs.size + 1) = none := rl.rep.free fr1
  have hq := h _ hs
  have rds2 : RDs X.K (upd (upd H s.heap.objs.size (.own (s.heap.objs.size + 1))) (s.heap.objs.size + 1) (.ins C s.heap.objs.size [])) (.ref (s.heap.objs.size + 1) :: ds) (V.ref (s.heap.objs.size + 1) :: vs) := RDs.cons (d := .ref _) rfl (rd.le (le1.trans le2))
  have hl : ((Value.ref (s.heap.objs.size + 1) :: us) ++ []).length = ps.length := by
    rw [List.append_nil, List.length_cons, ← r.length, ← rd.length, ← List.length_cons (a := D.ref (s.heap.objs.size + 1))]
    exact F.len _ _ _ _ hq
  have hbd := hb _ (Value.ref (s.heap.objs.size + 1) :: us) I2.kIn hl
  rw [List.append_nil] at hbd
  refine wpAny_call (make_map (f := f) I.kIn M.makes M.init (beq_iff_eq.mp M.fn) (codeAny_mono (F.run _ X.stack _ _ ⟨Value.ref (s.heap.objs.size + 1) :: us, []⟩ (Value.ref (s.heap.objs.size + 1) :: us) (V.ref (s.heap.objs.size + 1) :: vs) (fun v H2 => v = .non ∧ Q (.ref (s.heap.objs.size + 1)) H2)
    (fun cls d H' => upW X.w X.K E H cls d σ H') (hr.make C us []) (guards_make gu) (I2.env0.make C us []) hbd (.cons rfl r) ⟨_, _, rp2, rds2, F.mono _ _ _ _ _ _ (fun d S' q v H' le rp rv => ?_) (fun C fs S' q dd ws H' le rp hx rk hn => ⟨C, fs, τ, S', dd, ws, rfl, rfl, le1.trans (le2.trans le), rl.le (le1.trans (le2.trans le)) rp, hx, rk, hn, q⟩) hq⟩) fun r s' hq' => ?_))
  · obtain ⟨rfl, q⟩ := q
    exact ⟨rv, kq (.ref _) S' _ H' (le1.trans (le2.trans le)) rp rfl q⟩
  cases r with
  | error e => exact w e s' (XE.of_call I2 (fun _ _ _ h => h) hq')
  | ok fl =>
    cases fl with
    | ret u =>
      obtain ⟨v, H', I3, rv, ev, q3⟩ := I2.after hq'
      subst ev
      exact ⟨rv, ⟨V.ref (s.heap.objs.size + 1), H', I3, rfl, q3⟩⟩
    | next => exact False.elim hq'
    | brk => exact False.elim hq'
    | cont => exact False.elim hq'
theorem dMake_mono (F : DFn X.prog X.w X.K X.mg X.base k f fd ps sp) (ma : ∀ (E E' : DW) τ S (Q Q' : List D → DH → Prop), (∀ C fs τ S, E C fs τ S → E' C fs τ S) → (∀ d S', Q d S' → Q' d S') → t E τ S Q → t E' τ S Q')
    (E E' : DW) (τ : DSt) (S : DH) (Q Q' : DK) (hE : ∀ C fs τ S, E C fs τ S → E' C fs τ S) (kq : ∀ d S', Q d S' → Q' d S') (q : dMake C sp t E τ S Q) : dMake C sp t E' τ S Q' :=
  ma _ _ _ _ _ _ hE (fun ds S1 z x hx => F.mono _ _ _ _ _ _ (fun d S' y => ⟨y.1, kq _ _ y.2⟩) (fun C fs S' y => hE _ _ _ _ y) (z x hx)) q
theorem de_make (M : Mk X.K C f) (F : DFn X.prog X.w X.K X.mg X.base k f fd ps sp) (hr : Room (k + 1) X.A) (gu : X.A.guards = some []) (hg : Gl X x) (hm : X.mg x = some (.ref C)) (hb : Binds X.K fd ps []) (ha : DA X (e :: es) t)
    (hdb : (x == ("__debug__" : Str)) = false := by decide) (he : starEach (e :: es) X.env = (false, eval e X.env) :: starEach es X.env := by rfl) (hpl : (backTo pos (starEach es X.env)).any (·.1) = false := by rfl) :
    DE X (.Call (.Name x p) (e :: es) [] pos) (dMake C sp t) := by
  refine ⟨dMake_mono F ha.mono, ⟨fun pins s σ H Q I ⟨E, τ, S, w, r, q⟩ => ?_⟩⟩
  refine PySem.wpAny_Call_Name_kw (ld_glob I hg hm ?_ hdb)
  refine PySem.W.callWith_K (h₀ := X.base) I.ok.mod.kin M.kp (thn (ha.run.run pos pins s σ H _ I (ha.to w r q fun ds S1 vs H1 le1 w1 r1 rd1 z => (⟨ds, S1, le1, w1, r1, rd1, z⟩ : ∃ ds S1, LeH H H1 ∧ Wish X E H1 ∧ Rel X.w X.K τ S1 σ H1 ∧ RDs X.K H1 ds vs ∧
    ∀ x, S1 x = none → sp (.ref x :: ds) (upo S1 x (.ins C [])) (fun d S' => d = .non ∧ (fun d S' => ∀ v H', LeH H H' → Rep X.w X.K S' H' → RD X.K H' d v → Q v H') (.ref x) S') fun C fs S' => E C fs τ S'))) fun us s1 ⟨vs, H1, I1, rv, ds, S1, le1, w1, r1, rd1, z⟩ => ⟨I1.kIn, ?_⟩) he hpl
  exact run_dmake (Q0 := fun d S' => ∀ v H', LeH H H' → Rep X.w X.K S' H' → RD X.K H' d v → Q v H') M F hr gu hb I1 w1 r1 rv rd1 z fun d S' v H' le rp rd q2 => q2 v H' (le1.trans le) rp rd
end
end Dt
set_option maxRecDepth 100000
set_option maxHeartbeats 4000000
/-! DatJ: a dict's keys as a row: sorted(d), list(d); the methods of dicts. -/
namespace Dt
open PySem PySem.Spec L2 PySem.W PyProof.Rows
@[simp] def keysO (o : Ob) : Option (List D) := match o with
  | .dK kvs => some (kvs.map fun kv => keyD kv.1)
  | .dN kvs => some (kvs.map (·.1))
  | _ => none
@[simp] def keysD (S : DH) (d : D) : Option (List D) := match d with | .ref a => (S a).bind keysO | _ => none
section
variable {X : Cx} {pins : List (Addr × Obj)} {σ : L2.St} {H : Hp} {s : Shared} {a : Addr}
theorem pairs_vals {P : Program} {w : World} : ∀ {es : List DictEntry} {vs : List (Key × Value)}, Pairs (mixKind P w) es vs → Vals (vs.map fun p => kV p.1) (es.map (·.key))
  | _, _, .nil => .nil
  | _, _, .cons h1 h2 t => by
    rw [List.map_cons, List.map_cons]
    refine .cons ?_ (pairs_vals t)
    rcases keyIs_shape h1 with ⟨i, t, ek, ev⟩ | ⟨z, t, ek, ev⟩
    · rw [ek, ev]; exact ⟨t, rfl⟩
    · rw [ek, ev]; exact ⟨t, rfl⟩
theorem keys_raw (I : Inv X pins σ H s) {ob : Ob} {ks : List D} (r : ROb X.w X.K H a ob) (e : keysO ob = some ks) :
    ∃ es ep xs, s.heap.DictRaw a es ep ∧ (a == sysModules) = false ∧ es.size ≤ sizeLine ∧ Vals xs (es.toList.map (·.key)) ∧ RDs X.K H ks xs := by
  cases ob with
  | dK kvs =>
    cases e
    obtain ⟨ws, e0, rk⟩ : ∃ ws, H a = some (.dK ws) ∧ RKs X.K H kvs ws := r
    obtain ⟨z, lo, vs, kv, o, es, ep, h1, h2, h3, h4, h5, h6⟩ := dk_of I.hok e0
    have hl : kvs.length = ws.length := rk.length
    have hl2 : ws.length = vs.length := Paired.length kv
    have hl3 : es.toList.length = vs.length := h5.length
    have e1 : (kvs.map fun q => keyD q.1) = (vs.map fun p => p.1).map keyD := by
      have go : ∀ {kvs : List (Key × D)} {ws : List (Key × V)} {vs : List (Key × Value)}, RKs X.K H kvs ws → KV ws vs → (kvs.map fun q => keyD q.1) = (vs.map fun p => p.1).map keyD := by
        intro kvs
        induction kvs with
        | nil => intro ws vs r k; cases r; cases k; rfl
        | cons q kvs ih =>
          intro ws vs r k
          obtain ⟨v, s', rfl, _, r2⟩ := r
          cases k with
          | cons a b => rw [List.map_cons, List.map_cons, List.map_cons, ih r2 b, ← a.1]
      exact go rk kv
    refine ⟨es, ep, _, ⟨o, h1, h2, h3⟩, lo, by simp at hl3; omega, pairs_vals h5, ?_⟩
    rw [e1]
    have e2 : (vs.map fun p => kV p.1) = (vs.map fun p => p.1).map kV := by rw [List.map_map]; rfl
    rw [e2]
    exact keys_rds _
  | dN kvs =>
    cases e
    obtain ⟨xs, ⟨o, es, ep, h1, h2, h3, h4, h5, h6⟩, rx, hs, hz, _⟩ := dn_open I r
    have go : ∀ {kvs : List (D × D)} {xs : List (NestedKey × Addr × Value)}, RX X.K H kvs xs → ∃ ys, Vals ys (xs.map fun x => Value.ref x.2.1) ∧ RDs X.K H (kvs.map (·.1)) ys := by
      intro kvs
      induction kvs with
      | nil => intro xs r; cases r; exact ⟨[], .nil, .nil⟩
      | cons q kvs ih =>
        intro xs r
        obtain ⟨nk, b, u, s', rfl, ⟨_, _, r1, _⟩, r2⟩ := r
        obtain ⟨ys, g1, g2⟩ := ih r2
        exact ⟨.ref b :: ys, .cons rfl g1, RDs.cons r1 g2⟩
    obtain ⟨ys, g1, g2⟩ := go rx
    have hl : es.size = xs.length := by
      have := congrArg List.length h4
      simpa using this
    refine ⟨es, ep, ys, ⟨o, h1, h2, h3⟩, hs, by rw [hl, ← rx.length]; exact hz, ?_, g2⟩
    rw [h4, List.map_map]
    exact g1
  | lst ds => cases e
  | ins C fs => cases e
  | exc _ _ => cases e
  | xd _ => cases e
  | ex0 _ => cases e
  | ex1 _ _ => cases e
  | xm _ => cases e
  | fK _ => cases e
  | fN _ => cases e
theorem items_keys {es : Array DictEntry} {acc : Array Value} (h : ItemsOf (fun i v => ∃ hi : i < es.size, v = es[i].key) acc es.size) : acc.toList = es.toList.map (·.key) := by
  obtain ⟨h1, h2⟩ := h
  refine List.ext_getElem? fun i => ?_
  rw [List.getElem?_map, Array.getElem?_toList, Array.getElem?_toList]
  cases e : acc[i]? with
  | none =>
    have : es.size ≤ i := by
      have := Array.getElem?_eq_none_iff.mp e
      omega
    rw [Array.getElem?_eq_none_iff.mpr this]
    rfl
  | some v =>
    obtain ⟨hi, ev⟩ := h2 i v e
    rw [Array.getElem?_eq_getElem hi, ev]
    rfl
end
/-! ### sorted of a sequence, of a dict -/
@[simp] def cSortA : RCD := fun ds S Q => match ds with
  | [d] => (opt (seqD S d) fun xs => cSrt xs fun ys => newO S (.lst ys) fun p S' => Q (.ref p) S') ∨ (opt (keysD S d) fun xs => cSrt xs fun ys => newO S (.lst ys) fun p S' => Q (.ref p) S')
  | _ => False
@[simp] def cSortAF : RCD := fun ds S Q => match ds with
  | [d] => (opt (seqD S d) fun xs => cSrt xs fun ys => Q (.rol ys) S) ∨ (opt (keysD S d) fun xs => cSrt xs fun ys => Q (.rol ys) S)
  | _ => False
theorem keysD_ex {S : DH} {d : D} {ks : List D} (h : keysD S d = some ks) : ∃ a ob, d = .ref a ∧ S a = some ob ∧ keysO ob = some ks := by
  cases d <;> first | (cases h; done) | skip
  rename_i a
  show ∃ a' ob, _
  have h' : (S a).bind keysO = some ks := h
  cases e : S a with
  | none => rw [e] at h'; cases h'
  | some ob => rw [e] at h'; exact ⟨a, ob, rfl, e, h'⟩
section
variable {X : Cx}
/-! ### list of a sequence, of a dict -/
@[simp] def cListA : RCD := fun ds S Q => match ds with
  | [d] => cList [d] S Q ∨ (opt (keysD S d) fun ys => newO S (.lst ys) fun p S' => Q (.ref p) S')
  | _ => False
@[simp] def cListAF : RCD := fun ds S Q => match ds with
  | [d] => cListF [d] S Q ∨ (opt (keysD S d) fun ys => Q (.rol ys) S)
  | _ => False
theorem cd_listA (hc : X.calm = true) : CallD X (.type "list") cListA := by
  refine ⟨fun ds S Q Q' k h => ?_, fun pins s σ H vs us Q I rv ⟨ds, S, rep, rd, h⟩ => ?_⟩
  · match ds, h with
    | [d], h => exact h.imp ((cd_list (X := X)).mono _ _ _ _ k) (opt_mono (fun _ h => fun p hp => k _ _ (h p hp)))
  · match ds, h with
    | [d], .inl h => exact cd_list.run pins s σ H vs us Q I rv ⟨[d], S, rep, rd, h⟩
    | [d], .inr h =>
      obtain ⟨ks, e, hQ⟩ := opt_ex h
      obtain ⟨a, ob, rfl, ea, ek⟩ := keysD_ex e
      obtain ⟨v, rfl, r⟩ := rds1 rd
      cases r
      rw [Vals.ref1 rv]
      obtain ⟨es, ep, xs, dr, lo, hz, vx, rx⟩ := keys_raw I (rep a ob ea) ek
      refine kdl_call (KdlSrc.rawDict lo) (I.ok.hd hc) dr hz fun h' tk acc c' hk hD hacc => ?_
      have eacc := items_keys hacc
      have hn : H s.heap.objs.size = none := I.hok.fresh (Nat.le_refl _)
      have le : LeH H (upd H s.heap.objs.size (.lst xs)) := LeH.new hn
      rw [← eacc] at vx
      have hyl : xs.length ≤ sizeLine := by rw [vx.length, Array.length_toList, hacc.1]; exact hz
      exact ⟨.ref s.heap.objs.size, upd H s.heap.objs.size (.lst xs), I.laid (t' := tk) hk (Nat.le_refl _) ⟨hyl, acc.toList, c', vx, by rw [Array.toArray_toList]; exact hD⟩, rfl,
        hQ s.heap.objs.size (rep.free hn) _ _ le (rep.new hn ⟨xs, upd_same, rx.le le⟩) rfl⟩
theorem cd_listAF (hc : X.calm = true) : CallD X (.type "list") cListAF := (cd_fz (cd_listA hc)).sub (fun ds S Q Q' k h => by
    unfold cListAF at h ⊢
    split at h
    · exact h.imp ((cd_listF (X := X)).mono _ _ _ _ k) (opt_mono (fun _ h => k _ _ h))
    · exact h) fun ds S Q h => by
    unfold cListAF at h
    unfold cFz cListA
    split at h
    · rename_i d
      refine h.imp (fun z => ?_) (opt_mono (fun _ h => fun p hp => fzK_new hp h))
      unfold cListF at z
      unfold cList
      split at z
      · rename_i e; cases e; exact fun p hp => fzK_new hp z
      · rename_i d' _ e
        cases e
        obtain ⟨xs, e, q⟩ := opt_ex z
        clear z
        cases d with
        | rol ys => cases e; exact fun p hp => fzK_new hp q
        | ref a =>
          revert e
          show (match S a with | some (.lst xs) => some xs | _ => none) = some xs → (match S a with | some (.lst xs) => _ | _ => False)
          split
          · intro e; cases e; exact fun p hp => fzK_new hp q
          · intro e; cases e
        | _ => cases e
      · exact z.elim
    · exact h
end
/-! ### get, pop, setdefault of dicts -/
@[simp] def lkO (ob : Ob) (k : D) : Option (Option D) := match ob with
  | .dK kvs => (dkey k).map fun kk => lk kvs kk
  | .dN kvs => if okT k = true then some (lk kvs k) else none
  | _ => none
@[simp] def drO (ob : Ob) (k : D) : Option Ob := match ob with
  | .dK kvs => (dkey k).map fun kk => .dK (dr kvs kk)
  | .dN kvs => if okT k = true then some (.dN (dr kvs k)) else none
  | _ => none
@[simp] def mDGet : RMD := fun d ds S Q => match d with
  | .ref a => opt (S a) fun ob => match ds with
    | [k] => opt (lkO ob k) fun o => Q (o.getD .non) S
    | [k, x] => opt (lkO ob k) fun o => Q (o.getD x) S
    | _ => False
  | _ => False
@[simp] def mDPop : RMD := fun d ds S Q => match d with
  | .ref a => opt (S a) fun ob => match ds with
    | [k] => opt (lkO ob k) fun o => opt o fun x => opt (drO ob k) fun ob' => Q x (upo S a ob')
    | [k, x] => opt (lkO ob k) fun o => (match o with | some y => opt (drO ob k) fun ob' => Q y (upo S a ob') | none => Q x S)
    | _ => False
  | _ => False
@[simp] def mDSet : RMD := fun d ds S Q => match d with
  | .ref a => opt (S a) fun ob => match ds with
    | [k, x] => opt (lkO ob k) fun o => (match o with | some y => Q y S | none => opt (putO ob k x) fun ob' => Q x (upo S a ob'))
    | _ => False
  | _ => False
section
variable {X : Cx} {pins : List (Addr × Obj)} {σ : L2.St} {H : Hp} {s : Shared} {a : Addr}
end
/-! ### a, b = a tuple or a list -/
@[simp] def dGTupA (n : Nat) (t : DTGs) : DTG := fun d τ S Q => match d with
  | .tup ds => ds.length = n ∧ t ds τ S Q
  | d => opt (seqD S d) fun ds => ds.length = n ∧ t ds τ S Q
section
variable {X : Cx} {pos : Pos} {ts : DTGs}
theorem dg_tupA {es : List Expr} {k : Nat} {n : Nat} (hc : X.calm = true) (h : DGs X es ts) (hn : (assignEach es X.env).length = n := by rfl) (hst : (assignEach es X.env).findIdx? (·.1) = none := by rfl) : DG X (.Tuple es k pos) (dGTupA n ts) := by
  have two : PG X (.Tuple es k pos) fun v σ H Q => gTup X.K n (upGs X ts) v σ H Q ∨ gLst X.K n (upGs X ts) v σ H Q :=
    ⟨fun pins s σ H v u Q I r q => q.elim ((pg_tup hc h.run hn hst).run pins s σ H v u Q I r) ((pg_lst hc h.run hn hst).run pins s σ H v u Q I r)⟩
  refine ⟨fun d τ S Q Q' k q => ?_, pG_imp two fun v σ H Q ⟨d, τ, S, r, rd, q⟩ => ?_⟩
  · have o : ∀ d : D, (opt (seqD S d) fun ds => ds.length = n ∧ ts ds τ S Q) → (opt (seqD S d) fun ds => ds.length = n ∧ ts ds τ S Q') := fun d q => opt_mono (fun _ q => ⟨q.1, h.mono _ _ _ _ _ k q.2⟩) q
    cases d with
    | tup ds => exact ⟨q.1, h.mono _ _ _ _ _ k q.2⟩
    | non => exact o .non q
    | bl b => exact o (.bl b) q
    | int b => exact o (.int b) q
    | str b => exact o (.str b) q
    | rol b => exact o (.rol b) q
    | ref b => exact o (.ref b) q
  · have lst : ∀ {d : D}, RD X.K H d v → (opt (seqD S d) fun ds => ds.length = n ∧ ts ds τ S fun τ' S' => ∀ σ' H', LeH H H' → Rel X.w X.K τ' S' σ' H' → Q σ' H') → gLst X.K n (upGs X ts) v σ H Q := fun rd q => by
      obtain ⟨ds, e, q⟩ := opt_ex q
      obtain ⟨a, xs, rfl, sq, rs⟩ := seqD_rd r.rep rd e
      exact ⟨a, xs, rfl, sq.l, by rw [← rs.length]; exact q.1, ds, τ, S, r, rs, q.2⟩
    cases d with
    | tup ds =>
      obtain ⟨p, xs, rfl, sq, rds⟩ : ∃ p xs, v = V.ref p ∧ SqTn X.K H p xs ∧ RDs X.K H ds xs := rd
      exact .inl ⟨p, xs, rfl, sq, by rw [← rds.length]; exact q.1, ds, τ, S, r, rds, q.2⟩
    | non => exact .inr (lst rd q)
    | bl _ => exact .inr (lst rd q)
    | int _ => exact .inr (lst rd q)
    | str _ => exact .inr (lst rd q)
    | rol _ => exact .inr (lst rd q)
    | ref _ => exact .inr (lst rd q)
end
end Dt
set_option maxRecDepth 100000
set_option maxHeartbeats 4000000
/-! DatK: set(t) of a tuple, sorted(set(t)). -/
namespace Dt
open PySem PySem.Spec L2 PySem.W PyProof.Rows
section
variable {P : Program} {w : World} {A : Around} {E : Value → Shared → Prop} {s : Shared} {a : Addr} {ks : List Key}
end
end Dt

namespace Dt
open PySem PySem.Spec L2 PySem.W PyProof.Rows
/-- the row of a tuple or a list -/
def rowD (S : DH) (d : D) : Option (List D) := match d with | .tup xs => some xs | d => seqD S d
@[simp] theorem rowD_tup (S : DH) (xs : List D) : rowD S (.tup xs) = some xs := rfl
@[simp] theorem rowD_rol (S : DH) (xs : List D) : rowD S (.rol xs) = some xs := rfl
@[simp] theorem rowD_ref (S : DH) (a : Addr) : rowD S (.ref a) = (match S a with | some (.lst xs) => some xs | _ => none) := rfl
section
variable {X : Cx}
def rSetKsA (K : PySem.W.Frag) (w : World) : List V → Hp → VK → Prop := fun vs H Q => ∃ (a : Addr) (all : List Key), vs = [.ref a] ∧ (SqL K H a (all.map kV) ∨ SqT K H a (all.map kV)) ∧ all.length + 1 < scanBound ∧ ∀ p, H p = none → Q (.ref p) (upd H p (setHO w p (firstK all)))
variable {x y : Str} {e : Expr} {p p' pos pos' : Pos} {t : DTE}
@[simp] def dSortSetA (t : DTE) : DTE := fun E τ S Q => t E τ S fun d S1 => opt (rowD S1 d) fun xs => (∃ b, ∀ d ∈ xs, hasTy (scTy b) d = true) ∧ xs.length + 1 < scanBound ∧ newO S1 (.lst (ssD xs)) fun p S' => Q (.ref p) S'
@[simp] def dSortSetAF (t : DTE) : DTE := fun E τ S Q => t E τ S fun d S1 => opt (rowD S1 d) fun xs => (∃ b, ∀ d ∈ xs, hasTy (scTy b) d = true) ∧ xs.length + 1 < scanBound ∧ Q (.rol (ssD xs)) S1
end
end Dt
set_option maxRecDepth 100000
set_option maxHeartbeats 4000000
/-! DatZ: what repr takes; patterns as trees. -/
namespace Dt
open PySem PySem.Spec L2
/-! ### repr -/
mutual
/-- may be shown -/
def rp : D → Bool
  | .non => true
  | .bl _ => true
  | .int i => decide (i.natAbs.log2 < 1920) && decide ((PyData.shown (.int i)).length ≤ 13)
  | .str x => PyData.strOk x
  | .tup ds => rps ds
  | .rol ds => rps ds
  | .ref _ => false
def rps : List D → Bool
  | [] => true
  | d :: ds => rp d && rps ds
end
mutual
def wgt : D → Nat
  | .str x => x.length
  | .int i => i.natAbs.log2 + 1
  | .tup ds => wgts ds
  | .rol ds => wgts ds
  | _ => 0
def wgts : List D → Nat
  | [] => 0
  | d :: ds => wgt d + 1 + wgts ds
end
mutual
theorem rp_show : ∀ d : D, rp d = true → imm d = true ∧ (toP d).showable = true ∧ (toP d).leavesShort 13 = true ∧ (toP d).weight ≤ wgt d
  | .non, _ => ⟨rfl, rfl, rfl, Nat.le_refl _⟩
  | .bl _, _ => ⟨rfl, rfl, rfl, Nat.le_refl _⟩
  | .int i, h => by
    simp only [rp, Bool.and_eq_true, decide_eq_true_eq] at h
    refine ⟨rfl, by simpa [toP, PyData.showable] using h.1, by simpa [toP, PyData.leavesShort] using h.2, ?_⟩
    show (if (i == 0) = true then 0 else i.natAbs.log2 + 1) ≤ _
    split
    · exact Nat.zero_le _
    · exact Nat.le_refl _
  | .str x, h => by
    refine ⟨rfl, rfl, ?_, Nat.le_refl _⟩
    show (x.cps.toList.all fun c => decide (c < 16 ^ 8)) = true
    have h' : x.cps.all (· < 0x110000) = true := h
    rw [← Array.all_toList, List.all_eq_true] at h'
    rw [List.all_eq_true]
    exact fun c hc => decide_eq_true (Nat.lt_trans (of_decide_eq_true (h' c hc)) (by decide))
  | .tup ds, h => rps_show ds h
  | .rol ds, h => rps_show ds h
theorem rps_show : ∀ ds : List D, rps ds = true → imms ds = true ∧ PyData.showableAll (toPs ds) = true ∧ PyData.leavesShortAll 13 (toPs ds) = true ∧ PyData.weightAll (toPs ds) ≤ wgts ds
  | [], _ => ⟨rfl, rfl, rfl, Nat.le_refl _⟩
  | d :: ds, h => by
    have h' : (rp d && rps ds) = true := h
    rw [Bool.and_eq_true] at h'
    obtain ⟨a1, a2, a3, a4⟩ := rp_show d h'.1
    obtain ⟨b1, b2, b3, b4⟩ := rps_show ds h'.2
    refine ⟨?_, ?_, ?_, ?_⟩
    · show (imm d && imms ds) = true
      rw [a1, b1]; rfl
    · show ((toP d).showable && PyData.showableAll (toPs ds)) = true
      rw [a2, b2]; rfl
    · show ((toP d).leavesShort 13 && PyData.leavesShortAll 13 (toPs ds)) = true
      rw [a3, b3]; rfl
    · show (toP d).weight + 1 + PyData.weightAll (toPs ds) ≤ wgt d + 1 + wgts ds
      omega
end
structure Rp (d : D) : Prop where
  rp : rp d = true
  w : wgt d ≤ 2 ^ 20
  d : dep d ≤ 100
mutual
theorem Vw.pd {S : DH} {F : List Addr} : ∀ {d e : D}, Vw S F d e → imm e = true → Pd S d (toP e)
  | _, _, .same d, h => imm_pd S d h
  | _, _, .lst h1 _ h3, h => .lst h1 (Vws.pd h3 h)
  | _, _, .tup hs, h => .tup (Vws.pd hs h)
  | _, _, .rol hs, h => .rol (Vws.pd hs h)
theorem Vws.pd {S : DH} {F : List Addr} : ∀ {ds es : List D}, Vws S F ds es → imms es = true → PdA S ds (toPs es)
  | _, _, .nil, _ => .nil
  | _, _, .cons (e := e) (es := es) h1 h2, h => by
    have h' : (imm e && imms es) = true := h
    rw [Bool.and_eq_true] at h'
    exact .cons (Vw.pd h1 h'.1) (Vws.pd h2 h'.2)
end
/-- repr, by how it is seen -/
theorem cRepr_vw {S : DH} {F : List Addr} {d e : D} {Q : DK} (v : Vw S F d e) (h : Rp e) (q : Q (.str (toP e).shown) S) : cRepr [d] S Q := by
  obtain ⟨h1, h2, h3, h4⟩ := rp_show e h.rp
  exact ⟨_, v.pd h1, h2, by rw [dep_P]; exact h.d, PyData.shown_fits (B := 13) (by decide) (by decide) h3 (Nat.le_trans h4 h.w), q⟩
theorem cRepr_rp {S : DH} {d : D} {Q : DK} (h : Rp d) (q : Q (.str (toP d).shown) S) : cRepr [d] S Q := cRepr_vw (F := []) (.same d) h q
/-! ### patterns -/
inductive Pt where
  | stay | step (on : Bool) (w : Str) | mark (at_ : Bool) (m : Str) | seq (then_ : Bool) (ps : List Pt) | many (p : Pt)
mutual
def ptD : Pt → D
  | .stay => .tup [.str "stay"]
  | .step b w => .tup [.str "step", .str (if b then "on" else "back"), .str w]
  | .mark b m => .tup [.str (if b then "at" else "off"), .str m]
  | .seq b ps => .tup [.str (if b then "then" else "either"), .tup (ptDs ps)]
  | .many p => .tup [.str "many", ptD p]
def ptDs : List Pt → List D
  | [] => []
  | p :: ps => ptD p :: ptDs ps
end
theorem ptDs_map (ps : List Pt) : ptDs ps = ps.map ptD := by
  induction ps with
  | nil => rfl
  | cons p ps ih => show ptD p :: ptDs ps = _; rw [ih]; rfl
namespace Pt
def kids : Pt → List Pt
  | .seq _ ps => ps
  | .many p => [p]
  | _ => []
def isLeaf : Pt → Bool
  | .seq _ _ => false
  | .many _ => false
  | _ => true
mutual
/-- a pattern and all within it, the outer ones ahead -/
def all : Pt → List Pt
  | .seq b ps => .seq b ps :: alls ps
  | .many p => .many p :: all p
  | .stay => [.stay]
  | .step b w => [.step b w]
  | .mark b m => [.mark b m]
def alls : List Pt → List Pt
  | [] => []
  | p :: ps => all p ++ alls ps
end
mutual
/-- the same, the inner ones ahead -/
def post : Pt → List Pt
  | .seq b ps => posts ps ++ [.seq b ps]
  | .many p => post p ++ [.many p]
  | .stay => [.stay]
  | .step b w => [.step b w]
  | .mark b m => [.mark b m]
def posts : List Pt → List Pt
  | [] => []
  | p :: ps => post p ++ posts ps
end
mutual
/-- how many within one another -/
def deep : Pt → Nat
  | .seq _ ps => deeps ps + 1
  | .many p => deep p + 1
  | _ => 1
def deeps : List Pt → Nat
  | [] => 0
  | p :: ps => max (deep p) (deeps ps)
end
theorem deep_seq (b : Bool) (ps : List Pt) : deep (.seq b ps) = deeps ps + 1 := rfl
theorem deep_many (p : Pt) : deep (.many p) = deep p + 1 := rfl
theorem deeps_nil : deeps [] = 0 := rfl
theorem deeps_cons (p : Pt) (ps : List Pt) : deeps (p :: ps) = max (deep p) (deeps ps) := rfl
theorem all_seq (b : Bool) (ps : List Pt) : all (.seq b ps) = .seq b ps :: alls ps := rfl
theorem all_many (p : Pt) : all (.many p) = .many p :: all p := rfl
theorem alls_nil : alls [] = [] := rfl
theorem alls_cons (p : Pt) (ps : List Pt) : alls (p :: ps) = all p ++ alls ps := rfl
theorem alls_flat (ps : List Pt) : alls ps = ps.flatMap all := by
  induction ps with
  | nil => rfl
  | cons p ps ih => show all p ++ alls ps = _; rw [ih]; rfl
theorem all_kids (p : Pt) : all p = p :: p.kids.flatMap all := by
  cases p <;> simp [all, kids, alls_flat]
mutual
theorem post_all : ∀ p : Pt, (post p).Perm (all p)
  | .seq b ps => by
    show (posts ps ++ [Pt.seq b ps]).Perm (Pt.seq b ps :: alls ps)
    exact (List.perm_append_singleton _ _).trans ((posts_alls ps).cons _)
  | .many p => by
    show (post p ++ [Pt.many p]).Perm (Pt.many p :: all p)
    exact (List.perm_append_singleton _ _).trans ((post_all p).cons _)
  | .stay => List.Perm.refl _
  | .step _ _ => List.Perm.refl _
  | .mark _ _ => List.Perm.refl _
theorem posts_alls : ∀ ps : List Pt, (posts ps).Perm (alls ps)
  | [] => List.Perm.refl _
  | p :: ps => (post_all p).append (posts_alls ps)
end
theorem self_all (p : Pt) : p ∈ all p := by rw [all_kids]; exact List.mem_cons_self
theorem all_pos (p : Pt) : 1 ≤ (all p).length := List.length_pos_of_mem (self_all p)
theorem flat_all_len (ps : List Pt) : ps.length ≤ (ps.flatMap all).length := by
  induction ps with
  | nil => exact Nat.le_refl _
  | cons p ps ih =>
    have := all_pos p
    rw [List.flatMap_cons, List.length_append, List.length_cons]
    omega
/-- names are names -/
def okP (P : Str → Prop) : Pt → Prop := fun p => ∀ q ∈ all p, match q with | .step _ w => w = "*" ∨ P w | .mark _ m => P m | _ => True
end Pt
theorem nm_ok {x : Str} (h : Nm x) : PyData.strOk x = true := by
  unfold PyData.strOk
  rw [← Array.all_toList, List.all_eq_true]
  exact fun c hc => decide_eq_true (Nat.lt_of_le_of_lt (h.2.2 c hc).2 (by decide))
theorem ok_lit (s : String) (h : PyData.strOk (Str.ofString s) = true := by decide +kernel) : PyData.strOk (Str.ofString s) = true := h
theorem okP_kids {P : Str → Prop} {p q : Pt} (h : p.okP P) (hq : q ∈ p.kids) : q.okP P := fun r hr => h r (by
  rw [Pt.all_kids]
  exact List.mem_cons_of_mem _ (List.mem_flatMap.mpr ⟨q, hq, hr⟩))
mutual
theorem pt_sm : ∀ (p : Pt), p.okP Nm → Sm (2 * p.deep) (ptD p)
  | .stay, _ => by
    refine Sm_tup.mpr fun d hd => ?_
    rw [List.mem_singleton.mp hd]
    exact Sm_str.mpr (ok_lit "stay")
  | .step b w, h => by
    refine Sm_tup.mpr fun d hd => ?_
    have hw := h _ (Pt.self_all _)
    simp only [List.mem_cons, List.not_mem_nil, or_false] at hd
    rcases hd with rfl | rfl | rfl
    · exact Sm_str.mpr (ok_lit "step")
    · cases b
      · exact Sm_str.mpr (ok_lit "back")
      · exact Sm_str.mpr (ok_lit "on")
    · rcases hw with rfl | hw
      · exact Sm_str.mpr (ok_lit "*")
      · exact Sm_str.mpr (nm_ok hw)
  | .mark b m, h => by
    refine Sm_tup.mpr fun d hd => ?_
    have hw := h _ (Pt.self_all _)
    simp only [List.mem_cons, List.not_mem_nil, or_false] at hd
    rcases hd with rfl | rfl
    · cases b
      · exact Sm_str.mpr (ok_lit "off")
      · exact Sm_str.mpr (ok_lit "at")
    · exact Sm_str.mpr (nm_ok hw)
  | .seq b ps, h => by
    show Sm (2 * (Pt.deeps ps + 1)) _
    rw [show 2 * (Pt.deeps ps + 1) = (2 * Pt.deeps ps + 1) + 1 by omega]
    have hs := pts_sm ps fun q hq => okP_kids h hq
    refine Sm_tup.mpr fun d hd => ?_
    simp only [List.mem_cons, List.not_mem_nil, or_false] at hd
    rcases hd with rfl | rfl
    · cases b
      · exact Sm_str.mpr (ok_lit "either")
      · exact Sm_str.mpr (ok_lit "then")
    · exact Sm_tup.mpr hs
  | .many p, h => by
    show Sm (2 * (Pt.deep p + 1)) _
    rw [show 2 * (Pt.deep p + 1) = (2 * Pt.deep p + 1) + 1 by omega]
    have hs := pt_sm p (okP_kids h (List.mem_singleton.mpr rfl))
    refine Sm_tup.mpr fun d hd => ?_
    simp only [List.mem_cons, List.not_mem_nil, or_false] at hd
    rcases hd with rfl | rfl
    · exact Sm_str.mpr (ok_lit "many")
    · exact hs.mono (by omega)
theorem pts_sm : ∀ (ps : List Pt), (∀ p ∈ ps, p.okP Nm) → ∀ d ∈ ptDs ps, Sm (2 * Pt.deeps ps) d
  | [], _, _, hd => nomatch hd
  | p :: ps, h, d, hd => by
    have e : Pt.deeps (p :: ps) = max p.deep (Pt.deeps ps) := rfl
    rcases List.mem_cons.mp hd with rfl | hd
    · exact (pt_sm p (h p (List.mem_cons_self ..))).mono (by rw [e]; omega)
    · exact (pts_sm ps (fun q hq => h q (List.mem_cons_of_mem _ hq)) d hd).mono (by rw [e]; omega)
end
mutual
theorem pt_rp : ∀ (p : Pt), p.okP Nm → rp (ptD p) = true ∧ wgt (ptD p) ≤ 31 * p.all.length - 1
  | .stay, _ => ⟨by decide +kernel, by decide +kernel⟩
  | .step b w, h => by
    have hw := h _ (Pt.self_all _)
    have h1 : PyData.strOk w = true ∧ w.length ≤ 8 := by
      rcases hw with rfl | hw
      · exact ⟨ok_lit "*", by decide +kernel⟩
      · exact ⟨nm_ok hw, hw.2.1⟩
    refine ⟨?_, ?_⟩
    · cases b <;> simp only [ptD, rp, rps, h1.1, Bool.and_true, if_true, Bool.false_eq_true, if_false] <;> decide +kernel
    · have e : ∀ x y : Str, wgt (.tup [.str x, .str y, .str w]) = x.length + 1 + (y.length + 1 + (w.length + 1 + 0)) := fun _ _ => rfl
      show wgt (.tup [_, _, _]) ≤ 31 * 1 - 1
      rw [e]
      have l1 : (Str.ofString "step").length = 4 := by decide +kernel
      have l2 : (if b = true then (Str.ofString "on") else (Str.ofString "back")).length ≤ 4 := by cases b <;> decide +kernel
      have := h1.2
      omega
  | .mark b m, h => by
    have hw : Nm m := h _ (Pt.self_all _)
    refine ⟨?_, ?_⟩
    · cases b <;> simp only [ptD, rp, rps, nm_ok hw, Bool.and_true, if_true, Bool.false_eq_true, if_false] <;> decide +kernel
    · have e : ∀ x : Str, wgt (.tup [.str x, .str m]) = x.length + 1 + (m.length + 1 + 0) := fun _ => rfl
      show wgt (.tup [_, _]) ≤ 31 * 1 - 1
      rw [e]
      have l2 : (if b = true then (Str.ofString "at") else (Str.ofString "off")).length ≤ 4 := by cases b <;> decide +kernel
      have := hw.2.1
      omega
  | .seq b ps, h => by
    obtain ⟨h1, h2⟩ := pts_rp ps fun q hq => okP_kids h hq
    refine ⟨?_, ?_⟩
    · cases b <;> simp only [ptD, rp, rps, h1, Bool.and_true, if_true, Bool.false_eq_true, if_false] <;> decide +kernel
    · have e : ∀ x : Str, wgt (.tup [.str x, .tup (ptDs ps)]) = x.length + 1 + (wgts (ptDs ps) + 1 + 0) := fun _ => rfl
      show wgt (.tup [_, _]) ≤ 31 * ((Pt.alls ps).length + 1) - 1
      rw [e]
      have l2 : (if b = true then (Str.ofString "then") else (Str.ofString "either")).length ≤ 6 := by cases b <;> decide +kernel
      omega
  | .many p, h => by
    obtain ⟨h1, h2⟩ := pt_rp p (okP_kids h (List.mem_singleton.mpr rfl))
    refine ⟨?_, ?_⟩
    · simp only [ptD, rp, rps, h1, Bool.and_true]
      decide +kernel
    · have e : ∀ x : Str, wgt (.tup [.str x, ptD p]) = x.length + 1 + (wgt (ptD p) + 1 + 0) := fun _ => rfl
      show wgt (.tup [_, _]) ≤ 31 * ((Pt.all p).length + 1) - 1
      rw [e]
      have l2 : (Str.ofString "many").length = 4 := by decide +kernel
      omega
theorem pts_rp : ∀ (ps : List Pt), (∀ p ∈ ps, p.okP Nm) → rps (ptDs ps) = true ∧ wgts (ptDs ps) ≤ 31 * (Pt.alls ps).length
  | [], _ => ⟨rfl, Nat.le_refl _⟩
  | p :: ps, h => by
    obtain ⟨a1, a2⟩ := pt_rp p (h p (List.mem_cons_self ..))
    obtain ⟨b1, b2⟩ := pts_rp ps fun q hq => h q (List.mem_cons_of_mem _ hq)
    refine ⟨?_, ?_⟩
    · show (rp (ptD p) && rps (ptDs ps)) = true
      rw [a1, b1]; rfl
    · show wgt (ptD p) + 1 + wgts (ptDs ps) ≤ 31 * (Pt.all p ++ Pt.alls ps).length
      have := p.all_pos
      rw [List.length_append]
      omega
end
end Dt
set_option maxRecDepth 100000
set_option maxHeartbeats 4000000
/-! Sh: what many laws have: draws, names, leaves, patterns. -/
namespace Sh
open PySem PySem.Spec L2 Dt
def sp_l_names : DSp := fun ds S Q _ => ∃ (p : Addr) (m n : Nat) (o : Ob), ds = [.ref p, .int (m : Nat)] ∧ m ≤ 8 ∧ S p = some o ∧ FeedOb n o ∧ n < 2 ^ 90 ∧
  ∀ (ys : List Str) (o' : Ob), ys.length = m → (∀ y ∈ ys, Nm y) → ys.Nodup → FeedOb (n + 12) o' → Q (.rol (ys.map D.str)) (upo S p o')
theorem sp_l_names_mono : SpMono sp_l_names := fun ds S Q Q' E E' k _ ⟨p, m, n, o, h1, h2, h3, h4, h5, h⟩ => ⟨p, m, n, o, h1, h2, h3, h4, h5, fun ys o' a b c d => k _ _ (h ys o' a b c d)⟩
/-- words and marks by draws -/
structure Nms (ws ms : List Str) : Prop where
  w1 : 1 ≤ ws.length
  w8 : ws.length ≤ 8
  m1 : 1 ≤ ms.length
  m8 : ms.length ≤ 8
  w : ∀ w ∈ ws, Nm w
  m : ∀ m ∈ ms, Nm m
abbrev nmsD (e0 : D) (ws ms : List Str) : D := .rol [e0, .rol (ws.map D.str), .rol (ms.map D.str)]
def IsLf (ws ms : List Str) (d : D) : Prop := d = .tup [.str "stay"] ∨ (∃ a m : Str, (a = "at" ∨ a = "off") ∧ m ∈ ms ∧ d = .tup [.str a, .str m]) ∨ ∃ s w : Str, (s = "on" ∨ s = "back") ∧ (w = "*" ∨ w ∈ ws) ∧ d = .tup [.str "step", .str s, .str w]
def sp_l_leaf : DSp := fun ds S Q _ => ∃ (p : Addr) (e0 : D) (ws ms : List Str) (n : Nat) (o : Ob), ds = [.ref p, nmsD e0 ws ms] ∧ Nms ws ms ∧ S p = some o ∧ FeedOb n o ∧ n < 2 ^ 90 ∧
  ∀ (d : D) (o' : Ob), IsLf ws ms d → FeedOb (n + 3) o' → Q d (upo S p o')
theorem sp_l_leaf_mono : SpMono sp_l_leaf := fun ds S Q Q' E E' k _ ⟨p, e0, ws, ms, n, o, h1, h2, h3, h4, h5, h⟩ => ⟨p, e0, ws, ms, n, o, h1, h2, h3, h4, h5, fun d o' a b => k _ _ (h d o' a b)⟩
/-- patterns of so much within one another -/
def IsPat (ws ms : List Str) : Nat → D → Prop
  | 0, d => IsLf ws ms d
  | n + 1, d => IsLf ws ms d ∨ (∃ e, d = .tup [.str "many", e] ∧ IsPat ws ms n e) ∨ ∃ (h : Str) (es : List D), d = .tup [.str h, .tup es] ∧ (h = "then" ∨ h = "either") ∧ es.length ≤ 3 ∧ ∀ e ∈ es, IsPat ws ms n e
theorem IsLf.pat {ws ms : List Str} {d : D} (h : IsLf ws ms d) : ∀ n, IsPat ws ms n d
  | 0 => h
  | _ + 1 => .inl h
def costP : Nat → Nat
  | 0 => 4
  | n + 1 => 5 + 3 * costP n
def sp_l_pattern (k : Nat) : DSp := fun ds S Q _ => ∃ (p : Addr) (e0 : D) (j : Nat) (ws ms : List Str) (n : Nat) (o : Ob), ds = [.ref p, nmsD e0 ws ms, .int (j : Nat)] ∧ Nms ws ms ∧ j ≤ k ∧ S p = some o ∧ FeedOb n o ∧ n + costP k < 2 ^ 90 ∧
  ∀ (d : D) (o' : Ob), IsPat ws ms k d → FeedOb (n + costP k) o' → Q d (upo S p o')
theorem sp_l_pattern_mono (k : Nat) : SpMono (sp_l_pattern k) := fun ds S Q Q' E E' kk _ ⟨p, e0, j, ws, ms, n, o, h1, h0, h2, h3, h4, h5, h⟩ => ⟨p, e0, j, ws, ms, n, o, h1, h0, h2, h3, h4, h5, fun d o' a b => kk _ _ (h d o' a b)⟩
def t_l_cell_at : DTS := (dSeq (dIf (dTest (dOp rLt (dVar 1) (dCB cLen (dCons (dVar 0) dNil))))
      (dRet (dOp dIxS (dVar 0) (dVar 1)))
      dNx)
    (dSeq (dAsg (dC (.int 0)) (dGN 2))
    (dSeq (dIf (dTest (dOp rGt (dCB cLen (dCons (dVar 0) dNil)) (dC (.int 0))))
      (dAsg (dOp dIxS (dVar 0) (dOp rMod (dVar 1) (dCB cLen (dCons (dVar 0) dNil)))) (dGN 2))
      dNx)
    (dRet (dOp dAddF (dOp dAddF (dOp dMul (dOp rMod (dVar 2) (dC (.int 1000003))) (dC (.int 48271))) (dOp dMul (dC (.int 7919)) (dVar 1))) (dC (.int 1)))))))
abbrev N_l_cell_at : List Str := ["_law_script", "_law_k", "_law_seed"]
def t_l_feed : DTS := (dRet (dDisp [("left", (dCB cMax2 (dCons (dC (.int 0)) (dCons (dOp rSub (dVar 0) (dOp rPow (dC (.int 10)) (dC (.int 18)))) dNil)))), ("seed", (dOp rMod (dVar 0) (dC (.int 1000003)))), ("drawn", (dC (.int 0)))]))
abbrev N_l_feed : List Str := ["_law_cell"]
def t_l_next : DTS := (dSeq (dPut (dVar 0) (dC (.str "drawn")) (dOp dAddF (dOp dIxS (dVar 0) (dC (.str "drawn"))) (dC (.int 1))))
    (dSeq (dIf (dTest (dOp rGt (dOp dIxS (dVar 0) (dC (.str "left"))) (dC (.int 0))))
      (dSeq (dAsg (dOp rMod (dOp dIxS (dVar 0) (dC (.str "left"))) (dVar 1)) (dGN 2))
    (dSeq (dPut (dVar 0) (dC (.str "left")) (dOp rFdiv (dOp dIxS (dVar 0) (dC (.str "left"))) (dVar 1)))
    (dRet (dVar 2))))
      dNx)
    (dSeq (dAsg (dOp rMod (dOp dMul (dOp dAddF (dOp dIxS (dVar 0) (dC (.str "seed"))) (dC (.int 1))) (dOp dAddF (dOp dMul (dOp dIxS (dVar 0) (dC (.str "drawn"))) (dOp dIxS (dVar 0) (dC (.str "drawn")))) (dC (.int 48271)))) (dC (.int 65537))) (dGN 3))
    (dSeq (dAsg (dOp rMod (dOp dAddF (dOp dMul (dVar 3) (dVar 3)) (dOp dMul (dC (.int 30269)) (dOp dIxS (dVar 0) (dC (.str "drawn"))))) (dC (.int 65521))) (dGN 4))
    (dRet (dOp rMod (dOp rMod (dOp dAddF (dOp dMul (dVar 4) (dVar 4)) (dOp dMul (dC (.int 40503)) (dVar 3))) (dC (.int 65519))) (dVar 1)))))))
abbrev N_l_next : List Str := ["_law_feed_here", "_law_many", "_law_found", "_law_one", "_law_two"]
def t_l_names : DTS := (dSeq (dAsg (dC (.str "abcdefghijklmnopqrstuvwxyz")) (dGN 2))
    (dSeq (dAsg (dBM "str" mJoin (dC (.str "")) (dCons (dFz (dLc (dRng1 (dCons (dC (.int 8)) dNil)) (dGN 9) dYes (dOp dIxS (dVar 2) (dCall sp_l_next (dCons (dVar 0) (dCons (dC (.int 26)) dNil)))) [9])) dNil)) (dGN 3))
    (dSeq (dAsg (dCall sp_l_next (dCons (dVar 0) (dCons (dC (.int 3)) dNil))) (dGN 4))
    (dSeq (dAsg (dCall sp_l_next (dCons (dVar 0) (dCons (dC (.int 8)) dNil))) (dGN 5))
    (dSeq (dIf (dTest (dOp (dEq false) (dVar 4) (dC (.int 0))))
      (dAsg (dLc (dRng1 (dCons (dC (.int 8)) dNil)) (dGN 9) dYes (dSlF (dVar 3) dNoP (dSoP (dOp dAddF (dVar 9) (dC (.int 1))))) [9]) (dGN 6))
      (dIf (dTest (dOp (dEq false) (dVar 4) (dC (.int 1))))
      (dAsg (dLst (dCons (dC (.str "on")) (dCons (dC (.str "back")) (dCons (dC (.str "at")) (dCons (dC (.str "off")) (dCons (dC (.str "stay")) (dCons (dC (.str "many")) (dCons (dC (.str "then")) (dCons (dC (.str "either")) dNil))))))))) (dGN 6))
      (dSeq (dAsg (dCall sp_l_next (dCons (dVar 0) (dCons (dOp dAddF (dVar 5) (dC (.int 1))) dNil))) (dGN 7))
    (dSeq (dAsg (dCall sp_l_next (dCons (dVar 0) (dCons (dC (.int 26)) dNil))) (dGN 8))
    (dSeq (dAsg (dLst dNil) (dGN 6))
    (dFor (dRng1 (dCons (dC (.int 8)) dNil)) (dGN 9)
      (dSeq (dAsg (dOp dIxS (dVar 2) (dOp rMod (dOp dAddF (dVar 8) (dOp dMul (dC (.int 5)) (dVar 9))) (dC (.int 26)))) (dGN 10))
    (dDrop (dBM "list" mAppend (dVar 6) (dCons (dOp dAddF (dOp dAddF (dSlF (dVar 3) dNoP (dSoP (dVar 7))) (dVar 10)) (dSlF (dVar 3) (dSoP (dOp dAddF (dVar 7) (dC (.int 1)))) (dSoP (dOp dAddF (dVar 5) (dC (.int 1)))))) dNil))))))))))
    (dRet (dSlF (dOp dAddF (dSlF (dVar 6) (dSoP (dVar 5)) dNoP) (dSlF (dVar 6) dNoP (dSoP (dVar 5)))) dNoP (dSoP (dVar 1)))))))))
abbrev N_l_names : List Str := ["_law_feed_here", "_law_many", "_law_letters", "_law_word", "_law_way", "_law_turn", "_law_names_here", "_law_place", "_law_start", "_law_k", "_law_sign"]
def t_l_leaf : DTS := (dSeq (dAsg (dCall sp_l_next (dCons (dVar 0) (dCons (dC (.int 8)) dNil))) (dGN 2))
    (dSeq (dIf (dTest (dOp (dEq false) (dVar 2) (dC (.int 0))))
      (dRet (dTup (dCons (dC (.str "stay")) dNil)))
      dNx)
    (dSeq (dIf (dTest (dOp rLt (dVar 2) (dC (.int 3))))
      (dRet (dTup (dCons (dOp dIxS (dLstF (dCons (dC (.str "at")) (dCons (dC (.str "off")) dNil))) (dOp rSub (dVar 2) (dC (.int 1)))) (dCons (dOp dIxS (dOp dIxS (dVar 1) (dC (.int 2))) (dCall sp_l_next (dCons (dVar 0) (dCons (dCB cLen (dCons (dOp dIxS (dVar 1) (dC (.int 2))) dNil)) dNil)))) dNil))))
      dNx)
    (dSeq (dAsg (dOp dIxS (dOp dAddF (dLstF (dCons (dC (.str "*")) dNil)) (dOp dIxS (dVar 1) (dC (.int 1)))) (dCall sp_l_next (dCons (dVar 0) (dCons (dOp dAddF (dC (.int 1)) (dCB cLen (dCons (dOp dIxS (dVar 1) (dC (.int 1))) dNil))) dNil)))) (dGN 3))
    (dRet (dTup (dCons (dC (.str "step")) (dCons (dOp dIxS (dLstF (dCons (dC (.str "on")) (dCons (dC (.str "on")) (dCons (dC (.str "back")) dNil)))) (dCall sp_l_next (dCons (dVar 0) (dCons (dC (.int 3)) dNil)))) (dCons (dVar 3) dNil)))))))))
abbrev N_l_leaf : List Str := ["_law_feed_here", "_law_names_here", "_law_way", "_law_word"]
def t_l_pattern (spR : DSp) : DTS := (dSeq (dAsg (dCall sp_l_next (dCons (dVar 0) (dCons (dC (.int 8)) dNil))) (dGN 3))
    (dSeq (dIf (dOr (dTest (dOp (dEq false) (dVar 2) (dC (.int 0)))) (dTest (dOp rLt (dVar 3) (dC (.int 2)))))
      (dRet (dCall sp_l_leaf (dCons (dVar 0) (dCons (dVar 1) dNil))))
      dNx)
    (dSeq (dIf (dTest (dOp rLt (dVar 3) (dC (.int 4))))
      (dRet (dTup (dCons (dC (.str "many")) (dCons (dCall spR (dCons (dVar 0) (dCons (dVar 1) (dCons (dOp rSub (dVar 2) (dC (.int 1))) dNil)))) dNil))))
      dNx)
    (dSeq (dAsg (dOp dIxS (dLstF (dCons (dC (.int 2)) (dCons (dC (.int 1)) (dCons (dC (.int 3)) (dCons (dC (.int 0)) (dCons (dC (.int 2)) (dCons (dC (.int 2)) dNil))))))) (dCall sp_l_next (dCons (dVar 0) (dCons (dC (.int 6)) dNil)))) (dGN 4))
    (dSeq (dAsg (dCB cTuple (dCons (dFz (dLc (dRng1 (dCons (dVar 4) dNil)) (dGN 6) dYes (dCall spR (dCons (dVar 0) (dCons (dVar 1) (dCons (dOp rSub (dVar 2) (dC (.int 1))) dNil)))) [6])) dNil)) (dGN 5))
    (dRet (dTup (dCons (dOp dIxS (dLstF (dCons (dC (.str "then")) (dCons (dC (.str "either")) dNil))) (dOp rMod (dVar 3) (dC (.int 2)))) (dCons (dVar 5) dNil)))))))))
abbrev N_l_pattern : List Str := ["_law_feed_here", "_law_names_here", "_law_deep", "_law_way", "_law_many", "_law_parts", "_law_k"]
theorem r_l_next (ds S Q E) (h : sp_l_next ds S Q E) : t_l_next (dEnd Q E) (dstart N_l_next ds) S := by
  obtain ⟨p, m, n, o, rfl, h2, h3, h4, ⟨l, s, d, rfl, h5, h6, h7, h8, h9⟩, h10, h⟩ := h
  have b1 : Bd 101 (d + 1) := Bd.nat (n := n + 1) (by omega) (by omega) (by omega)
  have b2 : Bd 203 ((d + 1) * (d + 1) + 48271) := Bd.add (b1.mul b1) (show Bd 202 48271 by unfold Bd; decide)
  have b3 : Bd 20 (s + 1) := by unfold Bd; omega
  have b4 : ∀ x : Int, Bd 17 (x % 65537) := fun x => Bd.mod (by decide) (by unfold Bd; decide)
  have b5 : ∀ x : Int, Bd 17 (x % 65521) := fun x => Bd.mod (by decide) (by unfold Bd; decide)
  have c1 : CDivW l m := wide_div h2 (b := 100) (by omega) (by decide) (by decide)
  have e1 := Int.emod_nonneg l (show m ≠ 0 by omega)
  have e2 := Int.emod_lt_of_pos l h2
  have c2 := b1.cm b1
  have c3 := b3.cm b2
  have c4 := fun x y => (b4 x).cm (b4 y)
  have c5 := (show Bd 15 30269 by unfold Bd; decide).cm b1
  have c6 := fun x y => (b5 x).cm (b5 y)
  have c7 := fun x => (show Bd 16 40503 by unfold Bd; decide).cm (b4 x)
  simp [t_l_next, dstart, h4, lk, pt, h2, c1, c2, c3, c4, c5, c6, c7, upo_upo]
  split
  · exact .same (h _ _ e1 e2 ⟨l / m, s, d + 1, rfl, Int.ediv_nonneg h5 (by omega), h6, h7, by omega, by omega⟩)
  · exact .same (h _ _ (Int.emod_nonneg _ (by omega)) (Int.emod_lt_of_pos _ h2) ⟨l, s, d + 1, rfl, h5, h6, h7, by omega, by omega⟩)
theorem r_l_feed (ds S Q E) (h : sp_l_feed ds S Q E) : t_l_feed (dEnd Q E) (dstart N_l_feed ds) S := by
  obtain ⟨c, rfl, h⟩ := h
  have c1 : CPow 10 18 := by unfold CPow; decide
  simp [t_l_feed, dstart, c1, mergeD, pt, lk, upo_upo]
  intro p hp
  simp [upo_upo]
  refine .same (h p _ hp ⟨_, _, _, rfl, ?_, Int.emod_nonneg _ (by decide), Int.emod_lt_of_pos _ (by decide), by decide, by decide⟩)
  split <;> omega
theorem atI_map {ns : List Int} {k : Nat} (h : k < ns.length) : atI (ns.map D.int) (k : Int) = some (.int (ns.getD k 0)) := by
  refine atI_nat ?_
  simp [h]
theorem r_l_cell_at (ds S Q E) (h : sp_l_cell_at ds S Q E) : t_l_cell_at (dEnd Q E) (dstart N_l_cell_at ds) S := by
  obtain ⟨ns, k, rfl, h2, h⟩ := h
  have b1 : ∀ x : Int, Bd 20 (x % 1000003) := fun x => Bd.mod (by decide) (by unfold Bd; decide)
  have c1 := fun x => (b1 x).cm (show Bd 17 48271 by unfold Bd; decide)
  have c2 := (show Bd 17 7919 by unfold Bd; decide).cm (show Bd 100 (k : Int) by unfold Bd; omega)
  simp [t_l_cell_at, dstart]
  unfold cellZ at h
  by_cases h3 : k < ns.length
  · rw [if_pos h3] at h
    rw [if_pos h3, atI_map h3]
    exact .same h
  · rw [if_neg h3] at h
    rw [if_neg h3]
    by_cases h4 : 0 < ns.length
    · rw [if_pos h4] at h
      rw [if_pos h4]
      have h5 : k % ns.length < ns.length := Nat.mod_lt _ h4
      have e : ((k : Int) % (ns.length : Int)) = ((k % ns.length : Nat) : Int) := by omega
      rw [e, atI_map h5]
      simp [h4, c1, c2]
      exact .same (by simpa using h)
    · rw [if_neg h4] at h
      rw [if_neg h4]
      have c3 : CMulW 0 48271 := (show Bd 1 0 by unfold Bd; decide).cm (show Bd 17 48271 by unfold Bd; decide)
      simp [c3, c2]
      exact .same (by simpa using h)
theorem r_l_leaf (ds S Q E) (h : sp_l_leaf ds S Q E) : t_l_leaf (dEnd Q E) (dstart N_l_leaf ds) S := by
  obtain ⟨p, e0, ws, ms, n, o, rfl, nm, hp, fo, hn, h⟩ := h
  unfold t_l_leaf
  refine dSeq_gen fun R hR => ?_
  simp [dstart]
  refine ⟨p, 8, n, o, rfl, by decide, by decide, hp, fo, by omega, fun v o1 v0 v1 fo1 => ?_⟩
  subst hR
  by_cases c0 : v = 0
  · simp [c0]
    exact .same (h _ o1 (.inl rfl) (fo1.more (by omega)))
  by_cases c1 : v < 3
  · simp [c0, c1]
    refine opt_at (by omega) (by simp; omega) fun y hy => ?_
    refine ⟨p, ms.length, n + 1, o1, rfl, by have := nm.m1; omega, by have := nm.m8; omega, by simp, fo1, by omega, fun u o2 u0 u1 fo2 => ?_⟩
    simp
    refine opt_at u0 (by simpa using u1) fun z hz => ?_
    obtain ⟨m, hm, rfl⟩ := List.mem_map.mp hz
    refine .same (h _ o2 (.inr (.inl ?_)) (fo2.more (by omega)))
    simp at hy
    rcases hy with rfl | rfl
    · exact ⟨"at", m, .inl rfl, hm, rfl⟩
    · exact ⟨"off", m, .inr rfl, hm, rfl⟩
  · simp [c0, c1, catD]
    refine ⟨by have := nm.w8; omega, p, 1 + ws.length, n + 1, o1, rfl, by omega, by have := nm.w8; omega, by simp, fo1, by omega, fun u o2 u0 u1 fo2 => ?_⟩
    simp
    refine opt_at u0 (by simp; omega) fun z hz => ?_
    refine ⟨p, 3, n + 2, o2, rfl, by decide, by decide, by simp, fo2, by omega, fun u' o3 u0' u1' fo3 => ?_⟩
    simp
    refine opt_at u0' (by simpa using u1') fun y hy => ?_
    refine .same (h _ o3 (.inr (.inr ?_)) (fo3.more (by omega)))
    obtain ⟨w, hw, rfl⟩ : ∃ w : Str, (w = "*" ∨ w ∈ ws) ∧ z = .str w := by
      rcases List.mem_cons.mp hz with rfl | hz
      · exact ⟨"*", .inl rfl, rfl⟩
      · obtain ⟨w, hw, rfl⟩ := List.mem_map.mp hz
        exact ⟨w, .inr hw, rfl⟩
    simp at hy
    rcases hy with rfl | rfl
    · exact ⟨"on", w, .inl rfl, hw, rfl⟩
    · exact ⟨"back", w, .inr rfl, hw, rfl⟩
theorem r_l_pattern (k : Nat) (ds S Q E) (h : sp_l_pattern k ds S Q E) : t_l_pattern (prevSp sp_l_pattern k) (dEnd Q E) (dstart N_l_pattern ds) S := by
  obtain ⟨p, e0, j, ws, ms, n, o, rfl, nm, hj, hp, fo, hn, h⟩ := h
  have c4 : 4 ≤ costP k := by cases k <;> simp [costP]; omega
  unfold t_l_pattern
  refine dSeq_gen fun R hR => ?_
  simp [dstart]
  refine ⟨p, 8, n, o, rfl, by decide, by decide, hp, fo, by omega, fun v o1 v0 v1 fo1 => ?_⟩
  subst hR
  refine dSeq_gen fun R hR => ?_
  have leaf : sp_l_leaf [.ref p, nmsD e0 ws ms] (upo S p o1) (Rt Q) fun C fs S' => ∃ S'', Sub S'' S' ∧ E C fs S'' :=
    ⟨p, e0, ws, ms, n + 1, o1, rfl, nm, upo_same, fo1, by omega, fun d o' a b => .same (by rw [upo_upo]; exact h d o' (a.pat k) (b.more (by omega)))⟩
  by_cases c0 : j = 0
  · simp [c0]
    exact leaf
  by_cases c1 : v < 2
  · simp [c0, c1]
    exact leaf
  simp [c0, c1]
  subst hR
  obtain ⟨m, rfl⟩ : ∃ m, k = m + 1 := ⟨k - 1, by omega⟩
  have hc : costP (m + 1) = 5 + 3 * costP m := rfl
  have ej : (j : Int) - 1 = ((j - 1 : Nat) : Int) := by omega
  by_cases c2 : v < 4
  · simp [c2, ej]
    refine ⟨p, e0, j - 1, ws, ms, n + 1, o1, rfl, nm, by omega, by simp, fo1, by omega, fun d o' a b => ?_⟩
    simp
    exact .same (h _ o' (.inr (.inl ⟨d, rfl, a⟩)) (b.more (by omega)))
  simp [c2]
  refine ⟨p, 6, n + 1, o1, rfl, by decide, by decide, by simp, fo1, by omega, fun u o2 u0 u1 fo2 => ?_⟩
  simp
  refine opt_at u0 (by simpa using u1) fun y hy => ?_
  obtain ⟨M, hM, rfl⟩ : ∃ M : Nat, M ≤ 3 ∧ y = .int (M : Nat) := by
    simp only [List.mem_cons, List.not_mem_nil, or_false] at hy
    rcases hy with rfl | rfl | rfl | rfl | rfl | rfl
    · exact ⟨2, by decide, rfl⟩
    · exact ⟨1, by decide, rfl⟩
    · exact ⟨3, by decide, rfl⟩
    · exact ⟨0, by decide, rfl⟩
    · exact ⟨2, by decide, rfl⟩
    · exact ⟨2, by decide, rfl⟩
  simp
  refine ⟨by omega, ?_⟩
  refine lcF_inv (fun i acc S1 => acc.length = i ∧ (∀ e ∈ acc, IsPat ws ms m e) ∧ ∃ o3, S1 = upo S p o3 ∧ FeedOb (n + 2 + i * costP m) o3) ⟨rfl, (fun _ z => nomatch z), o2, rfl, fo2.more (by omega)⟩ (fun _ _ _ _ _ _ _ => trivial) ?_ (by simp [rngD]; omega) ?_
  · rintro i d acc S1 q N hd ⟨g1, g2, o3, rfl, fo3⟩ hq ha hN
    have hi : i < M := by
      have := (List.getElem?_eq_some_iff.mp hd).1
      simp [rngD] at this
      exact this
    have im : i * costP m + costP m ≤ 3 * costP m := by
      rw [← Nat.succ_mul]
      exact Nat.mul_le_mul_right _ (by omega)
    have npq : p ≠ q := fun z => by subst z; simp at hq
    simp [ej]
    refine ⟨p, e0, j - 1, ws, ms, n + 2 + i * costP m, o3, rfl, nm, by omega, by rw [upo_ne npq]; simp, fo3, by omega, fun d' o4 a b => ?_⟩
    rw [upo_comm npq.symm]
    simp
    refine ⟨ha, hN _ _ ?_ ⟨by simp [g1], fun z hz => ?_, o4, rfl, ?_⟩ (by simp)⟩
    · rw [upo_ne npq.symm]
      rw [upo_ne npq.symm] at hq
      exact hq
    · rcases List.mem_append.mp hz with z' | z'
      · exact g2 z z'
      · rw [List.mem_singleton.mp z']; exact a
    · rw [Nat.succ_mul, ← Nat.add_assoc]; exact b
  · rintro acc S1 ⟨g1, g2, o3, rfl, fo3⟩
    have g1' : acc.length = M := by rw [g1]; simp [rngD]
    have im : M * costP m ≤ 3 * costP m := Nat.mul_le_mul_right _ hM
    simp
    refine opt_at (by omega) (by simp; omega) fun y hy => ?_
    refine .same (h _ o3 (.inr (.inr ?_)) (fo3.more (by simp [rngD]; omega)))
    simp at hy
    rcases hy with rfl | rfl
    · exact ⟨"then", acc, rfl, .inl rfl, by omega, g2⟩
    · exact ⟨"either", acc, rfl, .inr rfl, by omega, g2⟩
theorem upo_none {S : DH} {p q : Addr} {o : Ob} (h : upo S p o q = none) : q ≠ p ∧ S q = none := by
  unfold upo at h
  split at h
  · cases h
  · rename_i e
    exact ⟨e, h⟩
theorem r_l_names (ds S Q E) (h : sp_l_names ds S Q E) : t_l_names (dEnd Q E) (dstart N_l_names ds) S := by
  obtain ⟨p, m, n, o, rfl, hm, hp, fo, hn, h⟩ := h
  have l26 : (Str.ofString "abcdefghijklmnopqrstuvwxyz").cps.toList.length = 26 := by decide +kernel
  have l26' : (Str.ofString "abcdefghijklmnopqrstuvwxyz").length = 26 := by decide +kernel
  have l0 : (Str.ofString "").length = 0 := by decide +kernel
  unfold t_l_names
  refine dSeq_gen fun R hR => ?_
  simp [dstart]
  subst hR
  refine dSeq_gen fun R hR => ?_
  simp
  refine lcF_inv (fun i acc S1 => ∃ ys : List Str, acc = ys.map D.str ∧ ys.length = i ∧ (∀ y ∈ ys, ∃ c, y = ⟨#[c]⟩ ∧ 97 ≤ c ∧ c ≤ 122) ∧ ∃ o1, S1 = upo S p o1 ∧ FeedOb (n + i) o1) ⟨[], rfl, rfl, (fun _ h => nomatch h), o, (upo_id hp).symm, fo⟩ (fun _ _ _ _ _ _ _ => trivial) ?_ (by simp [rngD]) ?_
  · rintro i d acc S1 q N hd ⟨ys, rfl, e2, e3, o1, rfl, fo1⟩ hq ha hN
    obtain ⟨j', hj', rfl⟩ := rng_at hd (by omega)
    have hj : i < 8 := by
      have := (List.getElem?_eq_some_iff.mp hd).1
      simpa [rngD] using this
    have npq : p ≠ q := fun z => by subst z; simp at hq
    have hq' : S q = none := by rw [upo_ne npq.symm] at hq; exact hq
    simp
    refine ⟨p, 26, n + i, o1, rfl, by decide, by decide, by rw [upo_ne npq]; simp, fo1, by omega, fun v o2 v0 v1 fo2 => ?_⟩
    rw [upo_comm npq.symm]
    simp
    refine ⟨by rw [l26']; decide, opt_at v0 (by rw [l26]; omega) fun c hc => ?_⟩
    have hcc := List.all_eq_true.mp (show ((Str.ofString "abcdefghijklmnopqrstuvwxyz").cps.toList.all fun c => decide (97 ≤ c ∧ c ≤ 122)) = true by decide +kernel) c hc
    refine ⟨by simpa using ha, hN _ _ (by rw [upo_ne npq.symm]; exact hq') ⟨ys ++ [⟨#[c]⟩], by simp, by simp [e2], fun y hy => ?_, o2, rfl, fo2⟩ (by simp)⟩
    rcases List.mem_append.mp hy with z | z
    · exact e3 y z
    · exact ⟨c, List.mem_singleton.mp z, of_decide_eq_true hcc⟩
  rintro acc S1 ⟨ys, rfl, e2, e3, o1, rfl, fo1⟩
  have e2' : ys.length = 8 := by simpa [rngD] using e2
  obtain ⟨w, hw⟩ : ∃ w : Str, w = Txt.join (.ofString "") ys := ⟨_, rfl⟩
  have hwl : w.cps.toList.length = 8 ∧ ∀ c ∈ w.cps.toList, 97 ≤ c ∧ c ≤ 122 := by
    have := join_one ys e3
    rw [e2', ← hw] at this
    exact this
  have wl : w.length = 8 := by rw [str_len, hwl.1]
  have hsum : (ys.map (·.length)).sum ≤ 8 := by
    rw [← e2']
    exact sum_le1 ys fun y hy => by
      obtain ⟨c, rfl, _⟩ := e3 y hy
      exact Nat.le_refl 1
  refine ⟨_, _, ys, rfl, rfl, .inl rfl, by rw [l0]; omega, ?_⟩
  rw [← hw]
  subst hR
  refine dSeq_gen fun R hR => ?_
  simp
  refine ⟨p, 3, n + 8, o1, rfl, by decide, by decide, by simp, by simpa [rngD] using fo1, by omega, fun v1 o6 v10 v11 fo6 => ?_⟩
  simp
  subst hR
  refine dSeq_gen fun R hR => ?_
  simp
  refine ⟨p, 8, n + 9, o6, rfl, by decide, by decide, by simp, fo6, by omega, fun t o7 t0 t1 fo7 => ?_⟩
  simp
  obtain ⟨T, rfl⟩ := Int.eq_ofNat_of_zero_le t0
  have hT : T < 8 := by omega
  subst hR
  refine dSeq_gen fun R hR => ?_
  have tail : ∀ (o8 : Ob) (r : Addr) (L : List Str) (a3 a4 a7 a8 a9 a10 : Option D), S r = none → FeedOb (n + 12) o8 → L.length = 8 → (∀ y ∈ L, Nm y) → L.Nodup →
      R (dEnd Q E) [some (.ref p), some (.int (m : Nat)), some (.str "abcdefghijklmnopqrstuvwxyz"), a3, a4, some (.int (T : Nat)), some (.ref r), a7, a8, a9, a10] (upo (upo S p o8) r (.lst (L.map D.str))) := by
    intro o8 r L a3 a4 a7 a8 a9 a10 hr fo8 hl hy hd
    have npr : p ≠ r := fun z => by subst z; rw [hp] at hr; cases hr
    subst hR
    simp [catD]
    refine ⟨by omega, .keep (S := upo S p o8) (Sub.new (by rw [upo_ne npr.symm]; exact hr)) ?_⟩
    have := h (((L.drop T) ++ (L.take T)).take m) o8 (by simp; omega) (fun y hy' => ?_) ?_ fo8
    · simpa using this
    · have := List.mem_of_mem_take hy'
      rcases List.mem_append.mp this with z | z
      · exact hy y (List.mem_of_mem_drop z)
      · exact hy y (List.mem_of_mem_take z)
    · refine List.Sublist.nodup (List.take_sublist _ _) ?_
      have : (L.drop T ++ L.take T).Perm L := List.perm_append_comm.trans (by rw [List.take_append_drop])
      exact this.nodup_iff.mpr hd
  clear hR
  by_cases c0 : v1 = 0
  · simp [c0]
    intro r hr
    obtain ⟨nrp, hr⟩ := upo_none hr
    refine lc_map (fun d => match d with | .int i => .str (cutS w none (some (i + 1))) | _ => .non) _ (by simp) (fun _ => trivial) (fun d hd acc N' hN' hacc => ?_) (by simp [rngD]) ?_
    · simp only [rngD, List.mem_map] at hd
      obtain ⟨k, hk, rfl⟩ := hd
      simp at hN' ⊢
      exact ⟨by rw [wl]; decide, hacc, hN'⟩
    · have eL : (rngD 0 8).map (fun d => match d with | .int i => D.str (cutS w none (some (i + 1))) | _ => D.non) = ((List.range 8).map fun k : Nat => cutS w none (some ((k + 1 : Nat) : Int))).map D.str := by
        simp only [rngD, List.map_map]
        refine List.map_congr_left fun k _ => ?_
        simp
      rw [eL]
      have lens : ∀ k : Nat, k < 8 → (cutS w none (some ((k + 1 : Nat) : Int))).length = k + 1 := fun k hk => by
        rw [str_len, cutS_take, List.length_take, hwl.1]
        omega
      rw [upo_upo]
      refine tail o7 r _ _ _ _ _ _ _ hr (fo7.more (by omega)) (by simp) (fun y hy => ?_) ?_
      · obtain ⟨k, hk, rfl⟩ := List.mem_map.mp hy
        rw [List.mem_range] at hk
        refine ⟨by rw [lens k hk]; omega, by rw [lens k hk]; omega, fun c hc => hwl.2 c ?_⟩
        rw [cutS_take] at hc
        exact List.mem_of_mem_take hc
      · refine nodup_of_map (fun y : Str => y.length) ?_
        rw [List.map_map]
        have e : (List.range 8).map ((fun y : Str => y.length) ∘ fun k : Nat => cutS w none (some ((k + 1 : Nat) : Int))) = (List.range 8).map (· + 1) := List.map_congr_left fun k hk => lens k (List.mem_range.mp hk)
        rw [e]
        decide
  by_cases c1 : v1 = 1
  · simp [c1]
    intro r hr
    obtain ⟨nrp, hr⟩ := upo_none hr
    refine tail o7 r ["on", "back", "at", "off", "stay", "many", "then", "either"] _ _ _ _ _ _ hr (fo7.more (by omega)) rfl (fun y hy => ?_) (by decide +kernel)
    have := List.all_eq_true.mp (show (["on", "back", "at", "off", "stay", "many", "then", "either"] : List Str).all (fun y => decide (1 ≤ y.length) && decide (y.length ≤ 8) && y.cps.toList.all fun c => decide (97 ≤ c ∧ c ≤ 122)) = true by decide +kernel) y hy
    simp only [Bool.and_eq_true, decide_eq_true_eq, List.all_eq_true] at this
    exact ⟨this.1.1, this.1.2, this.2⟩
  · show dIf _ _ _ { dEnd Q E with nx := R (dEnd Q E) } _ _
    simp only [dIf, dTest, dOp, dVar, dC, dEq_int, List.getElem?_cons_succ, List.getElem?_cons_zero, Bool.false_eq_true, if_false]
    simp only [beq_iff_eq, c0, c1, if_false]
    refine dSeq_gen fun R2 hR2 => ?_
    simp
    refine ⟨p, (T : Int) + 1, n + 10, o7, rfl, by omega, by omega, upo_same, fo7, by omega, fun pl o8 pl0 pl1 fo8 => ?_⟩
    subst hR2
    refine dSeq_gen fun R2 hR2 => ?_
    simp
    refine ⟨p, 26, n + 11, o8, rfl, by decide, by decide, upo_same, fo8, by omega, fun st o9 st0 st1 fo9 => ?_⟩
    subst hR2
    simp
    obtain ⟨P, rfl⟩ := Int.eq_ofNat_of_zero_le pl0
    obtain ⟨s0, rfl⟩ := Int.eq_ofNat_of_zero_le st0
    intro r hr
    obtain ⟨nrp, hr⟩ := upo_none hr
    have hP : P ≤ T := by omega
    have hs0 : s0 < 26 := by omega
    obtain ⟨Y, hY⟩ : ∃ Y : Nat → Str, Y = fun k => cutS w none (some (P : Int)) ++ (⟨#[97 + (s0 + 5 * k) % 26]⟩ : Str) ++ cutS w (some ((P + 1 : Nat) : Int)) (some ((T + 1 : Nat) : Int)) := ⟨_, rfl⟩
    have tlY : ∀ k, (Y k).cps.toList = w.cps.toList.take P ++ [97 + (s0 + 5 * k) % 26] ++ (w.cps.toList.drop (P + 1)).take (T + 1 - (P + 1)) := fun k => by
      rw [hY, app_tl, app_tl, cutS_take, cutS_mid _ _ _ (by omega) (by rw [hwl.1]; omega)]
    have lnY : ∀ k, (Y k).length = T + 1 := fun k => by
      rw [str_len, tlY]
      simp [hwl.1]
      omega
    refine loop_inv (fun i τ S' => ∃ a9 a10, τ = [some (.ref p), some (.int (m : Nat)), some (.str "abcdefghijklmnopqrstuvwxyz"), some (.str w), some (.int v1), some (.int (T : Nat)), some (.ref r), some (.int (P : Nat)), some (.int (s0 : Nat)), a9, a10] ∧ S' = upo (upo S p o9) r (.lst (((List.range i).map Y).map D.str)))
      ⟨none, none, rfl, rfl⟩ (fun _ _ _ _ _ => trivial) ?_ ?_
    · rintro i d τ S7 N hd ⟨a9, a10, rfl, rfl⟩ hN
      have hi : i < 8 := by
        have := (List.getElem?_eq_some_iff.mp hd).1
        simpa [rngD] using this
      have ed : d = .int (i : Nat) := by
        obtain ⟨h1, h2⟩ := List.getElem?_eq_some_iff.mp hd
        simp [rngD] at h2
        exact h2.symm
      subst ed
      obtain ⟨J, hJ⟩ : ∃ J, J = (s0 + 5 * i) % 26 := ⟨_, rfl⟩
      have hc : ((s0 : Int) + 5 * (i : Int)) % 26 = (J : Int) := by omega
      have hl := letter_at J (by omega)
      have c1' : CMulW 5 (i : Int) := (show Bd 5 5 by unfold Bd; decide).cm (show Bd 5 (i : Int) by unfold Bd; omega)
      have q1 : (cutS w none (some (P : Int))).length ≤ 8 := Nat.le_trans (cutS_length w _ _) (by rw [wl]; decide)
      have q2 : ∀ lo hi, (cutS w lo hi).length ≤ 8 := fun lo hi => Nat.le_trans (cutS_length w _ _) (by rw [wl]; decide)
      have q3 : (cutS w none (some (P : Int)) ++ (⟨#[97 + J]⟩ : Str)).length ≤ 9 := by
        rw [str_len, app_tl, List.length_append, ← str_len]
        simpa using q1
      simp [c1', hc, l26', atI_nat hl, wl]
      refine ⟨by have := q1; show _ + 1 ≤ _; omega, by have := q2 (some ((P : Int) + 1)) (some ((T : Int) + 1)); omega, by omega, hN _ _ ⟨_, _, rfl, ?_⟩⟩
      rw [List.range_succ, List.map_append, List.map_append, hY]
      simp only [List.map_cons, List.map_nil, List.map_map]
      rw [← hJ]
      rfl
    · rintro τ S7 ⟨a9, a10, rfl, rfl⟩
      refine tail o9 r _ _ _ _ _ _ _ hr (fo9.more (by omega)) (by simp [rngD]) (fun y hy => ?_) ?_
      · obtain ⟨k, hk, rfl⟩ := List.mem_map.mp hy
        refine ⟨by rw [lnY]; omega, by rw [lnY]; omega, fun c hc => ?_⟩
        rw [tlY] at hc
        rcases List.mem_append.mp hc with z | z
        · rcases List.mem_append.mp z with z | z
          · exact hwl.2 c (List.mem_of_mem_take z)
          · rw [List.mem_singleton.mp z]; omega
        · exact hwl.2 c (List.mem_of_mem_drop (List.mem_of_mem_take z))
      · refine nodup_of_map (fun y : Str => y.cps.toList.getD P 0) ?_
        rw [List.map_map, show (rngD 0 8).length = 8 by simp [rngD]]
        have e : (List.range 8).map ((fun y : Str => y.cps.toList.getD P 0) ∘ Y) = (List.range 8).map fun k => 97 + (s0 + 5 * k) % 26 := List.map_congr_left fun k _ => by
          show (Y k).cps.toList.getD P 0 = _
          have hPl : (w.cps.toList.take P).length = P := by rw [List.length_take, hwl.1]; omega
          rw [tlY, List.append_assoc, List.getD_eq_getElem?_getD, List.getElem?_append_right (by omega), hPl, Nat.sub_self]
          rfl
        rw [e]
        exact signs_apart s0 hs0
end Sh
set_option maxRecDepth 100000
set_option maxHeartbeats 4000000
/-! ShP: what stands in a pattern. -/
namespace Sh
open PySem PySem.Spec L2 Dt
@[simp] theorem ptD_0 (p : Pt) : ∃ r, ptD p = .tup r := by cases p <;> exact ⟨_, rfl⟩
def sp_parts_of : DSp := fun ds S Q _ => ∃ p : Pt, ds = [ptD p] ∧ Q (.rol (ptDs p.kids)) S
theorem sp_parts_of_mono : SpMono sp_parts_of := fun ds S Q Q' E E' k _ ⟨d, h1, h⟩ => ⟨d, h1, k _ _ h⟩
def sp_all_parts : DSp := fun ds S Q _ => ∃ p : Pt, ds = [ptD p] ∧ p.all.length ≤ 100000 ∧ ∀ L : List Pt, L.Perm p.all → Q (.rol (ptDs L)) S
def sp_parts_in : DSp := fun ds S Q _ => ∃ p : Pt, ds = [ptD p] ∧ p.all.length ≤ 100000 ∧ Q (.int (p.all.length : Nat)) S
def sp_leaves_in : DSp := fun ds S Q _ => ∃ p : Pt, ds = [ptD p] ∧ p.all.length ≤ 100000 ∧ Q (.int ((p.all.filter Pt.isLeaf).length : Nat)) S
end Sh
namespace Dt
open PySem PySem.Spec L2
/-- the words of steps, the marks -/
def Pt.word? : Pt → Option Str
  | .step _ w => some w
  | _ => none
def Pt.mark? : Pt → Option Str
  | .mark _ m => some m
  | _ => none
def Pt.words (p : Pt) : List Str := (p.all.filterMap Pt.word?).filter fun w => !decide (w = "*")
def Pt.marks (p : Pt) : List Str := p.all.filterMap Pt.mark?
end Dt
namespace Sh
open PySem PySem.Spec L2 Dt
/-- new lists -/
def sp_words_in : DSp := fun ds S Q _ => ∃ p : Pt, ds = [ptD p] ∧ p.all.length ≤ 4000 ∧ p.okP Nm ∧ ∀ q, S q = none → Q (.ref q) (upo S q (.lst (ssD (p.words.map D.str))))
def sp_marks_in : DSp := fun ds S Q _ => ∃ p : Pt, ds = [ptD p] ∧ p.all.length ≤ 4000 ∧ p.okP Nm ∧ ∀ q, S q = none → Q (.ref q) (upo S q (.lst (ssD (p.marks.map D.str))))
def t_parts_of : DTS := (dSeq (dIf (dTest (dOp (dEq false) (dOp dIxS (dVar 0) (dC (.int 0))) (dC (.str "many"))))
      (dRet (dLstF (dCons (dOp dIxS (dVar 0) (dC (.int 1))) dNil)))
      dNx)
    (dSeq (dIf (dTest (dOp (dIn false) (dOp dIxS (dVar 0) (dC (.int 0))) (dTup (dCons (dC (.str "then")) (dCons (dC (.str "either")) dNil)))))
      (dRet (dCB cListF (dCons (dOp dIxS (dVar 0) (dC (.int 1))) dNil)))
      dNx)
    (dRet (dLstF dNil))))
abbrev N_parts_of : List Str := ["pattern"]
def t_all_parts : DTS := (dSeq (dAsg (dLst (dCons (dVar 0) dNil)) (dGN 1))
    (dSeq (dAsg (dC (.int 0)) (dGN 2))
    (dSeq (dWhile (dTest (dOp rLt (dVar 2) (dCB cLen (dCons (dVar 1) dNil))))
      (dSeq (dDrop (dBM "list" mExtend (dVar 1) (dCons (dCall sp_parts_of (dCons (dOp dIxS (dVar 1) (dVar 2)) dNil)) dNil)))
    (dAsg (dOp dAddF (dVar 2) (dC (.int 1))) (dGN 2))))
    (dRet (dVar 1)))))
abbrev N_all_parts : List Str := ["pattern", "found", "at"]
def t_parts_in : DTS := (dRet (dCB cLen (dCons (dCall sp_all_parts (dCons (dVar 0) dNil)) dNil)))
abbrev N_parts_in : List Str := ["pattern"]
def t_leaves_in : DTS := (dRet (dCB cLen (dCons (dFz (dLc (dSeqI (dCall sp_all_parts (dCons (dVar 0) dNil))) (dGN 1) (dTest (dOp (dIn false) (dOp dIxS (dVar 1) (dC (.int 0))) (dTup (dCons (dC (.str "stay")) (dCons (dC (.str "step")) (dCons (dC (.str "at")) (dCons (dC (.str "off")) dNil))))))) (dVar 1) [1])) dNil)))
abbrev N_leaves_in : List Str := ["pattern", "part"]
def t_words_in : DTS := (dSeq (dAsg (dFz (dLc (dSeqI (dCall sp_all_parts (dCons (dVar 0) dNil))) (dGN 2) (dTest (dOp (dEq false) (dOp dIxS (dVar 2) (dC (.int 0))) (dC (.str "step")))) (dOp dIxS (dVar 2) (dC (.int 2))) [2])) (dGN 1))
    (dRet (dSortSetM (dFz (dLc (dSeqI (dVar 1)) (dGN 3) (dTest (dOp (dEq true) (dVar 3) (dC (.str "*")))) (dVar 3) [3])))))
abbrev N_words_in : List Str := ["pattern", "words", "part", "word"]
def t_marks_in : DTS := (dRet (dSortSetM (dFz (dLc (dSeqI (dCall sp_all_parts (dCons (dVar 0) dNil))) (dGN 1) (dTest (dOp (dIn false) (dOp dIxS (dVar 1) (dC (.int 0))) (dTup (dCons (dC (.str "at")) (dCons (dC (.str "off")) dNil))))) (dOp dIxS (dVar 1) (dC (.int 1))) [1]))))
abbrev N_marks_in : List Str := ["pattern", "part"]
theorem r_parts_of (ds S Q E) (h : sp_parts_of ds S Q E) : t_parts_of (dEnd Q E) (dstart N_parts_of ds) S := by
  obtain ⟨p, rfl, h⟩ := h
  cases p with
  | stay => simp [t_parts_of, dstart, ptD, inF]; exact .same h
  | step b w => simp [t_parts_of, dstart, ptD, inF]; exact .same h
  | mark b m => cases b <;> simp [t_parts_of, dstart, ptD, inF] <;> exact .same h
  | many q => simp [t_parts_of, dstart, ptD, inF]; exact .same h
  | seq b ps => cases b <;> simp [t_parts_of, dstart, ptD, inF] <;> exact .same h
theorem ptDs_len (ps : List Pt) : (ptDs ps).length = ps.length := by rw [ptDs_map, List.length_map]
theorem ptDs_at {ps : List Pt} {j : Nat} (h : j < ps.length) : (ptDs ps)[j]? = some (ptD ps[j]) := by rw [ptDs_map, List.getElem?_map, List.getElem?_eq_getElem h]; rfl
theorem ptDs_app (ps qs : List Pt) : ptDs (ps ++ qs) = ptDs ps ++ ptDs qs := by simp [ptDs_map]
def hd0 (d : D) : D := match d with | .tup (x :: _) => x | _ => .non
def at1 (d : D) : D := match d with | .tup (_ :: x :: _) => x | _ => .non
def at2 (d : D) : D := match d with | .tup (_ :: _ :: x :: _) => x | _ => .non
theorem mem_ptDs {L : List Pt} {d : D} (h : d ∈ ptDs L) : ∃ p ∈ L, d = ptD p := by
  rw [ptDs_map] at h
  obtain ⟨p, hp, e⟩ := List.mem_map.mp h
  exact ⟨p, hp, e.symm⟩
def isStep (p : Pt) : Bool := match p with | .step _ _ => true | _ => false
def isMark (p : Pt) : Bool := match p with | .mark _ _ => true | _ => false
def theName (p : Pt) : Str := match p with | .step _ w => w | .mark _ m => m | _ => ""
/-! ### drawn patterns as trees -/
theorem lf_pt {ws ms : List Str} (nm : Nms ws ms) {d : D} (h : IsLf ws ms d) : ∃ p : Pt, d = ptD p ∧ p.okP Nm ∧ p.deep = 1 ∧ p.all.length = 1 := by
  rcases h with rfl | ⟨a, m, ha, hm, rfl⟩ | ⟨s, w, hs, hw, rfl⟩
  · exact ⟨.stay, rfl, fun q hq => by rw [List.mem_singleton.mp hq]; trivial, rfl, rfl⟩
  · refine ⟨.mark (decide (a = "at")) m, ?_, fun q hq => by rw [List.mem_singleton.mp hq]; exact nm.m m hm, rfl, rfl⟩
    rcases ha with rfl | rfl <;> rfl
  · refine ⟨.step (decide (s = "on")) w, ?_, fun q hq => by rw [List.mem_singleton.mp hq]; exact hw.imp id (nm.w w), rfl, rfl⟩
    rcases hs with rfl | rfl <;> rfl
/-- how many a drawn pattern is of at most -/
def szP : Nat → Nat
  | 0 => 1
  | n + 1 => 1 + 3 * szP n
theorem szP_pos (k : Nat) : 1 ≤ szP k := by cases k <;> simp [szP]
theorem okP_seq {P : Str → Prop} {b : Bool} {ps : List Pt} (h : ∀ p ∈ ps, p.okP P) : (Pt.seq b ps).okP P := fun q hq => by
  rw [Pt.all_kids] at hq
  rcases List.mem_cons.mp hq with rfl | hq
  · trivial
  · obtain ⟨p, hp, hq⟩ := List.mem_flatMap.mp hq
    exact h p hp q hq
theorem okP_many {P : Str → Prop} {p : Pt} (h : p.okP P) : (Pt.many p).okP P := fun q hq => by
  rw [Pt.all_kids] at hq
  rcases List.mem_cons.mp hq with rfl | hq
  · trivial
  · obtain ⟨r, hr, hq⟩ := List.mem_flatMap.mp hq
    rw [List.mem_singleton.mp hr] at hq
    exact h q hq
theorem alls_le {b : Nat} : ∀ {ps : List Pt}, (∀ p ∈ ps, p.all.length ≤ b) → (Pt.alls ps).length ≤ ps.length * b
  | [], _ => by simp [Pt.alls_nil]
  | p :: ps, h => by
    have h1 := h p (List.mem_cons_self ..)
    have h2 := alls_le fun q hq => h q (List.mem_cons_of_mem _ hq)
    rw [Pt.alls_cons, List.length_append, List.length_cons, Nat.succ_mul]
    omega
theorem deeps_le {b : Nat} : ∀ {ps : List Pt}, (∀ p ∈ ps, p.deep ≤ b) → Pt.deeps ps ≤ b
  | [], _ => by simp [Pt.deeps_nil]
  | p :: ps, h => by
    have h1 := h p (List.mem_cons_self ..)
    have h2 := deeps_le fun q hq => h q (List.mem_cons_of_mem _ hq)
    rw [Pt.deeps_cons]
    omega
theorem deeps_mem : ∀ {ps : List Pt} {p : Pt}, p ∈ ps → p.deep ≤ Pt.deeps ps
  | q :: ps, p, h => by
    rw [Pt.deeps_cons]
    rcases List.mem_cons.mp h with rfl | h
    · omega
    · have := deeps_mem h
      omega
theorem list_pt {es : List D} {P : Pt → Prop} (h : ∀ e ∈ es, ∃ p, e = ptD p ∧ P p) : ∃ ps : List Pt, es = ptDs ps ∧ ps.length = es.length ∧ ∀ p ∈ ps, P p := by
  induction es with
  | nil => exact ⟨[], rfl, rfl, fun _ z => nomatch z⟩
  | cons e es ih =>
    obtain ⟨ps, rfl, h2, h3⟩ := ih fun x hx => h x (List.mem_cons_of_mem _ hx)
    obtain ⟨p, rfl, hp⟩ := h e (List.mem_cons_self ..)
    refine ⟨p :: ps, rfl, by simp [h2], fun q hq => ?_⟩
    rcases List.mem_cons.mp hq with rfl | hq
    · exact hp
    · exact h3 q hq
theorem pat_pt {ws ms : List Str} (nm : Nms ws ms) : ∀ (k : Nat) {d : D}, IsPat ws ms k d → ∃ p : Pt, d = ptD p ∧ p.okP Nm ∧ p.deep ≤ k + 1 ∧ p.all.length ≤ szP k := by
  have leaf : ∀ (k : Nat) {d : D}, IsLf ws ms d → ∃ p : Pt, d = ptD p ∧ p.okP Nm ∧ p.deep ≤ k + 1 ∧ p.all.length ≤ szP k := fun k d h => by
    obtain ⟨p, h1, h2, h3, h4⟩ := lf_pt nm h
    exact ⟨p, h1, h2, by omega, by rw [h4]; exact szP_pos k⟩
  intro k
  induction k with
  | zero => exact fun h => leaf 0 h
  | succ k ih =>
    intro d h
    rcases h with h | ⟨e, rfl, h⟩ | ⟨a, es, rfl, ha, hl, h⟩
    · exact leaf _ h
    · obtain ⟨p, rfl, h2, h3, h4⟩ := ih h
      refine ⟨.many p, rfl, okP_many h2, by rw [Pt.deep_many]; omega, ?_⟩
      rw [Pt.all_many, List.length_cons]
      show _ ≤ 1 + 3 * szP k
      omega
    · obtain ⟨ps, rfl, h2, h3⟩ := list_pt (P := fun p => p.okP Nm ∧ p.deep ≤ k + 1 ∧ p.all.length ≤ szP k) fun e he => ih (h e he)
      refine ⟨.seq (decide (a = "then")) ps, ?_, okP_seq fun p hp => (h3 p hp).1, ?_, ?_⟩
      · rcases ha with rfl | rfl <;> rfl
      · have := deeps_le fun p hp => (h3 p hp).2.1
        rw [Pt.deep_seq]
        omega
      · have := alls_le fun p hp => (h3 p hp).2.2
        have := Nat.mul_le_mul_right (szP k) (show ps.length ≤ 3 by omega)
        rw [Pt.all_seq, List.length_cons]
        show _ ≤ 1 + 3 * szP k
        omega
end Sh
set_option maxRecDepth 100000
set_option maxHeartbeats 4000000
/-! ShM: machines: stands, moves; come_to, stepped. -/
namespace Sh
open PySem PySem.Spec L2 Dt
/-- a plain text -/
def okS (x : Str) : Prop := PyData.strOk x = true
theorem okS.sm {x : Str} {n : Nat} (h : okS x) : Sm n (.str x) := ⟨h, Nat.zero_le _⟩
theorem Nm.okS {x : Str} (h : Nm x) : okS x := nm_ok h
/-- a move -/
structure Mv where
  a : Nat
  p : Pt
  b : Nat
def mvD (m : Mv) : D := .tup [.int m.a, ptD m.p, .int m.b]
abbrev natsD (xs : List Nat) : List D := xs.map fun x : Nat => D.int (x : Int)
abbrev strsD (xs : List Str) : List D := xs.map D.str
structure OkMv (m : Mv) : Prop where
  leaf : m.p.isLeaf = true
  ok : m.p.okP okS
def mcD (x y z : D) (mv : List Mv) : D := .tup [x, y, z, .tup (mv.map mvD)]
def holdsP (ms : List Str) (p : Pt) : Bool := match p with
  | .stay => true
  | .mark b m => decide (m ∈ ms) == b
  | _ => false
def fitsP (side word : Str) (p : Pt) : Bool := match p with
  | .step b w => decide ((if b then "on" else "back" : Str) = side) && (decide (w = "*") || decide (w = word))
  | _ => false
/-- what is come to without steps -/
inductive Come (mv : List Mv) (ms : List Str) (st : List Nat) : Nat → Prop
  | start {x : Nat} : x ∈ st → Come mv ms st x
  | move {m : Mv} : m ∈ mv → Come mv ms st m.a → holdsP ms m.p = true → Come mv ms st m.b
/-- what is come to by a step -/
def ByStep (mv : List Mv) (st : List Nat) (side word : Str) (x : Nat) : Prop := ∃ m ∈ mv, m.a ∈ st ∧ fitsP side word m.p = true ∧ m.b = x
/-! rows of numbers -/
/-! dicts as sets -/
def kset {κ : Type} (ks : List κ) : List (κ × D) := ks.map fun k => (k, .bl true)
section
variable {κ : Type} [DecidableEq κ]
end
abbrev nkeys (xs : List Nat) : List Key := xs.map fun x : Nat => Sum.inl (x : Int)
/-! specs -/
def sp_holds_at : DSp := fun ds S Q _ => ∃ (p : Pt) (ms : List Str), ds = [ptD p, .rol (strsD ms)] ∧ p.isLeaf = true ∧ p.okP okS ∧ (∀ m ∈ ms, okS m) ∧ Q (.bl (holdsP ms p)) S
def sp_is_step_by : DSp := fun ds S Q _ => ∃ (p : Pt) (side word : Str), ds = [ptD p, .str side, .str word] ∧ p.isLeaf = true ∧ Q (.bl (fitsP side word p)) S
def sp_come_to : DSp := fun ds S Q _ => ∃ (x y z : D) (mv : List Mv) (st : List Nat) (ms : List Str), ds = [mcD x y z mv, .tup (natsD st), .rol (strsD ms)] ∧ (∀ m ∈ mv, OkMv m) ∧ (∀ m ∈ ms, okS m) ∧ st.length + mv.length ≤ 100000 ∧
  ∀ L : List Nat, L.Pairwise (· < ·) → (∀ n, n ∈ L ↔ Come mv ms st n) → Q (.tup (natsD L)) S
def sp_stepped : DSp := fun ds S Q _ => ∃ (x y z : D) (mv : List Mv) (st : List Nat) (side word : Str), ds = [mcD x y z mv, .tup (natsD st), .str side, .str word] ∧ (∀ m ∈ mv, OkMv m) ∧ mv.length ≤ 100000 ∧
  ∀ L : List Nat, L.Pairwise (· < ·) → (∀ n, n ∈ L ↔ ByStep mv st side word n) → Q (.tup (natsD L)) S
def t_holds_at : DTS := (dSeq (dIf (dTest (dOp (dEq false) (dOp dIxS (dVar 0) (dC (.int 0))) (dC (.str "at"))))
      (dRet (dOp (dIn false) (dOp dIxS (dVar 0) (dC (.int 1))) (dVar 1)))
      dNx)
    (dSeq (dIf (dTest (dOp (dEq false) (dOp dIxS (dVar 0) (dC (.int 0))) (dC (.str "off"))))
      (dRet (dOp (dIn true) (dOp dIxS (dVar 0) (dC (.int 1))) (dVar 1)))
      dNx)
    (dRet (dOp (dEq false) (dOp dIxS (dVar 0) (dC (.int 0))) (dC (.str "stay"))))))
abbrev N_holds_at : List Str := ["leaf", "marks"]
def t_is_step_by : DTS := (dRet (dAndV (dOp (dEq false) (dOp dIxS (dVar 0) (dC (.int 0))) (dC (.str "step"))) (dAndV (dOp (dEq false) (dOp dIxS (dVar 0) (dC (.int 1))) (dVar 1)) (dOp (dIn false) (dOp dIxS (dVar 0) (dC (.int 2))) (dTup (dCons (dC (.str "*")) (dCons (dVar 2) dNil)))))))
abbrev N_is_step_by : List Str := ["leaf", "side", "word"]
def t_come_to : DTS := (dSeq (dAsg dDnK (dGN 3))
    (dSeq (dFor (dSeqI (dVar 1)) (dGN 4)
      (dPut (dVar 3) (dVar 4) (dC (.bl true))))
    (dSeq (dAsg (dCB cListA (dCons (dVar 3) dNil)) (dGN 5))
    (dSeq (dWhile (dTest (dOp (dEq true) (dVar 5) (dLstF dNil)))
      (dSeq (dAsg (dBM "list" mPop (dVar 5) dNil) (dGN 6))
    (dFor (dSeqI (dOp dIxS (dVar 0) (dC (.int 3)))) (dGTup 3 (dGCons (dGN 7) (dGCons (dGN 8) (dGCons (dGN 9) dGNil))))
      (dIf (dAnd (dTest (dOp (dEq false) (dVar 7) (dVar 6))) (dAnd (dTest (dOp (dIn true) (dVar 9) (dVar 3))) (dTest (dCall sp_holds_at (dCons (dVar 8) (dCons (dVar 2) dNil))))))
      (dSeq (dPut (dVar 3) (dVar 9) (dC (.bl true)))
    (dDrop (dBM "list" mAppend (dVar 5) (dCons (dVar 9) dNil))))
      dNx))))
    (dRet (dCB cTuple (dCons (dCB cSortAF (dCons (dVar 3) dNil)) dNil)))))))
abbrev N_come_to : List Str := ["machine", "stands", "marks", "met", "stand", "line", "here", "one", "leaf", "other"]
def t_stepped : DTS := (dSeq (dAsg dDnK (dGN 4))
    (dSeq (dFor (dSeqI (dOp dIxS (dVar 0) (dC (.int 3)))) (dGTup 3 (dGCons (dGN 5) (dGCons (dGN 6) (dGCons (dGN 7) dGNil))))
      (dIf (dAnd (dTest (dOp (dIn false) (dVar 5) (dVar 1))) (dTest (dCall sp_is_step_by (dCons (dVar 6) (dCons (dVar 2) (dCons (dVar 3) dNil))))))
      (dPut (dVar 4) (dVar 7) (dC (.bl true)))
      dNx))
    (dRet (dCB cTuple (dCons (dCB cSortAF (dCons (dVar 4) dNil)) dNil)))))
abbrev N_stepped : List Str := ["machine", "stands", "side", "word", "met", "one", "leaf", "other"]
end Sh
set_option maxRecDepth 100000
set_option maxHeartbeats 4000000
namespace Sh
open PySem PySem.Spec L2 Dt Sh
end Sh
set_option maxRecDepth 100000
set_option maxHeartbeats 4000000
namespace Sh
open PySem PySem.Spec L2 Dt Sh
end Sh
set_option maxRecDepth 100000
set_option maxHeartbeats 4000000
namespace Sh
open PySem PySem.Spec L2 Dt Sh
/-! ShW: the class Web: its objects and what its methods do. -/
abbrev T3 := Str × Str × Str
def triD (t : T3) : D := .tup [.str t.1, .str t.2.1, .str t.2.2]
theorem okT_tri (t : T3) : okT (triD t) = true := rfl
def okT3 (t : T3) : Prop := okS t.1 ∧ okS t.2.1 ∧ okS t.2.2
abbrev triTy : Ty := .tup [.str, .str, .str]
/-- a web, told plainly -/
structure Wb where
  ks : List (Str × List Str)
  ts : List T3
def Wb.names (W : Wb) : List Str := W.ks.map (·.1)
def IsSt (W : Wb) (x : Str) (t : T3) : Prop := (t.1 = "on" ∧ (x, t.2.1, t.2.2) ∈ W.ts) ∨ (t.1 = "back" ∧ (t.2.2, t.2.1, x) ∈ W.ts)
structure OkWb (W : Wb) : Prop where
  nd : W.names.Nodup
  nt : W.ts.Nodup
  tn : ∀ t ∈ W.ts, t.1 ∈ W.names ∧ t.2.2 ∈ W.names
  on : ∀ x ∈ W.names, okS x
  om : ∀ k ∈ W.ks, ∀ m ∈ k.2, okS m
  ot : ∀ t ∈ W.ts, okS t.2.1
  lk : W.ks.length ≤ 100000
  lt : W.ts.length ≤ 100000
structure WRow where
  name : Str
  marks : List Str
  ma : Addr
  sa : Addr
  st : List T3
abbrev rMarks (rs : List WRow) : List (Key × D) := rs.map fun r => (.inr r.name, .ref r.ma)
abbrev rSteps (rs : List WRow) : List (Key × D) := rs.map fun r => (.inr r.name, .ref r.sa)
def rAdr (rs : List WRow) : List Addr := rs.flatMap fun r => [r.ma, r.sa]
structure WebR (C : Addr) (S : DH) (w a b c : Addr) (W : Wb) (rs : List WRow) : Prop where
  ks : rs.map (fun r => (r.name, r.marks)) = W.ks
  ins : S w = some (.ins C [("web_marks", .ref a), ("web_ties", .ref b), ("web_steps", .ref c)])
  sm : S a = some (.dK (rMarks rs))
  st : S b = some (.dN (kset (W.ts.map triD)))
  ss : S c = some (.dK (rSteps rs))
  rm : ∀ r ∈ rs, S r.ma = some (.lst (strsD r.marks))
  rt : ∀ r ∈ rs, S r.sa = some (.dN (kset (r.st.map triD))) ∧ r.st.Nodup ∧ ∀ t, t ∈ r.st ↔ IsSt W r.name t
  nd : (w :: a :: b :: c :: rAdr rs).Nodup
  ok : OkWb W
def WebAt (C : Addr) (S : DH) (w : Addr) (W : Wb) (F : List Addr) : Prop := ∃ a b c rs, F = w :: a :: b :: c :: rAdr rs ∧ WebR C S w a b c W rs
/-- what does not belong to F stays -/
def Fr (S : DH) (F : List Addr) (S' : DH) (F' : List Addr) : Prop := ∀ y o, y ∉ F → S y = some o → y ∉ F' ∧ S' y = some o
theorem Fr.refl {S : DH} {F : List Addr} : Fr S F S F := fun _ _ h e => ⟨h, e⟩
theorem Fr.trans {S S1 S2 : DH} {F F1 F2 : List Addr} (h : Fr S F S1 F1) (k : Fr S1 F1 S2 F2) : Fr S F S2 F2 := fun y o hy e => by
  obtain ⟨h1, h2⟩ := h y o hy e
  exact k y o h1 h2
theorem mem_rAdr {rs : List WRow} {y : Addr} : y ∈ rAdr rs ↔ ∃ r ∈ rs, y = r.ma ∨ y = r.sa := by
  simp [rAdr, List.mem_flatMap]
theorem WebAt.keep {C : Addr} {S S' : DH} {w : Addr} {W : Wb} {F : List Addr} (h : WebAt C S w W F) (k : ∀ y ∈ F, ∀ o, S y = some o → S' y = some o) : WebAt C S' w W F := by
  obtain ⟨a, b, c, rs, rfl, h⟩ := h
  refine ⟨a, b, c, rs, rfl, h.ks, k w (by simp) _ h.ins, k a (by simp) _ h.sm, k b (by simp) _ h.st, k c (by simp) _ h.ss, fun r hr => k _ (by simp [mem_rAdr]; exact .inr (.inr (.inr (.inr ⟨r, hr, .inl rfl⟩)))) _ (h.rm r hr), fun r hr => ?_, h.nd, h.ok⟩
  obtain ⟨h1, h2⟩ := h.rt r hr
  exact ⟨k _ (by simp [mem_rAdr]; exact .inr (.inr (.inr (.inr ⟨r, hr, .inr rfl⟩)))) _ h1, h2⟩
theorem WebAt.ext {C : Addr} {S S' : DH} {w : Addr} {W : Wb} {F : List Addr} (h : WebAt C S w W F) (e : Ext S S') : WebAt C S' w W F := h.keep fun y _ o h => e y o h
/-- rows by names -/
theorem row_at {rs : List WRow} {W : Wb} (h : rs.map (fun r => (r.name, r.marks)) = W.ks) {x : Str} : x ∈ W.names ↔ ∃ r ∈ rs, r.name = x := by
  simp [Wb.names, ← h]
theorem lk_rows {f : WRow → D} : ∀ {rs : List WRow}, (rs.map (·.name)).Nodup → ∀ r ∈ rs, lk (rs.map fun r => ((.inr r.name : Key), f r)) (.inr r.name) = some (f r)
  | q :: rs, nd, r, hr => by
    simp only [List.map_cons, List.nodup_cons] at nd
    rcases List.mem_cons.mp hr with rfl | hr
    · simp [lk]
    · have ne : q.name ≠ r.name := fun e => nd.1 (e ▸ List.mem_map.mpr ⟨r, hr, rfl⟩)
      simp [lk, ne]
      exact lk_rows nd.2 r hr
theorem lk_rows_none {f : WRow → D} {x : Str} : ∀ {rs : List WRow}, (∀ r ∈ rs, r.name ≠ x) → lk (rs.map fun r => ((.inr r.name : Key), f r)) (.inr x) = none
  | [], _ => rfl
  | q :: rs, h => by
    have := h q (List.mem_cons_self ..)
    simp [lk, this]
    exact lk_rows_none fun r hr => h r (List.mem_cons_of_mem _ hr)
theorem WebR.names {C : Addr} {S : DH} {w a b c : Addr} {W : Wb} {rs : List WRow} (h : WebR C S w a b c W rs) : rs.map (·.name) = W.names := by
  simp [Wb.names, ← h.ks]
theorem WebR.len {C : Addr} {S : DH} {w a b c : Addr} {W : Wb} {rs : List WRow} (h : WebR C S w a b c W rs) : rs.length = W.ks.length := by
  rw [← h.ks, List.length_map]
def wMarks (W : Wb) (x : Str) : List Str := ((W.ks.find? fun k => k.1 = x).map (·.2)).getD []
theorem WebR.marks {C : Addr} {S : DH} {w a b c : Addr} {W : Wb} {rs : List WRow} (h : WebR C S w a b c W rs) {r : WRow} (hr : r ∈ rs) : wMarks W r.name = r.marks := by
  have nd : (rs.map (·.name)).Nodup := h.names ▸ h.ok.nd
  unfold wMarks
  rw [← h.ks]
  clear h
  induction rs with
  | nil => cases hr
  | cons q rs ih =>
    simp only [List.map_cons, List.nodup_cons] at nd
    rcases List.mem_cons.mp hr with rfl | hr
    · simp
    · have ne : q.name ≠ r.name := fun e => nd.1 (e ▸ List.mem_map.mpr ⟨r, hr, rfl⟩)
      simp [ne] at ih ⊢
      exact ih hr nd.2
end Sh
set_option maxRecDepth 100000
set_option maxHeartbeats 4000000
namespace Sh
open PySem PySem.Spec L2 Dt Sh
section
variable (C : Addr)
def sp_Web_init : DSp := fun ds S Q _ => ∃ w : Addr, ds = [.ref w] ∧ S w = some (.ins C []) ∧ ∀ S' F, WebAt C S' w ⟨[], []⟩ F → Fr S [w] S' F → Q .non S'
def sp_Web_ask_knot : DSp := fun ds S Q _ => ∃ (w : Addr) (W : Wb) (F : List Addr) (x : Str), ds = [.ref w, .str x] ∧ WebAt C S w W F ∧ x ∈ W.names ∧ Q .non S
def sp_Web_lay_knot : DSp := fun ds S Q _ => ∃ (w : Addr) (W : Wb) (F : List Addr) (x : Str) (d : D) (ms : List Str), ds = [.ref w, .str x, d] ∧ WebAt C S w W F ∧ (d = .tup (strsD ms) ∨ seqD S d = some (strsD ms)) ∧ OkWb ⟨W.ks ++ [(x, ms)], W.ts⟩ ∧
  ∀ S' F', WebAt C S' w ⟨W.ks ++ [(x, ms)], W.ts⟩ F' → Fr S F S' F' → Q .non S'
def sp_Web_put_knot : DSp := fun ds S Q _ => ∃ (w : Addr) (W : Wb) (F : List Addr) (x : Str) (d : D) (ms : List Str), ds = [.ref w, .str x, d] ∧ WebAt C S w W F ∧ (d = .tup (strsD ms) ∨ seqD S d = some (strsD ms)) ∧ OkWb ⟨W.ks ++ [(x, ms)], W.ts⟩ ∧ W.ks.length < 40 ∧
  ∀ S' F', WebAt C S' w ⟨W.ks ++ [(x, ms)], W.ts⟩ F' → Fr S F S' F' → Q .non S'
def sp_Web_lay_tie : DSp := fun ds S Q _ => ∃ (w : Addr) (W : Wb) (F : List Addr) (t : T3), ds = [.ref w, triD t] ∧ WebAt C S w W F ∧ OkWb ⟨W.ks, W.ts ++ [t]⟩ ∧
  ∀ S', WebAt C S' w ⟨W.ks, W.ts ++ [t]⟩ F → Fr S F S' F → Q .non S'
def sp_Web_put_tie : DSp := fun ds S Q _ => ∃ (w : Addr) (W : Wb) (F : List Addr) (t : T3), ds = [.ref w, .str t.1, .str t.2.1, .str t.2.2] ∧ WebAt C S w W F ∧ OkWb ⟨W.ks, W.ts ++ [t]⟩ ∧ W.ts.length < 300 ∧
  ∀ S', WebAt C S' w ⟨W.ks, W.ts ++ [t]⟩ F → Fr S F S' F → Q .non S'
/-- texts, sorted -/
def sortS (xs : List Str) : List D := srtD (strsD xs)
def sp_Web_knots : DSp := fun ds S Q _ => ∃ (w : Addr) (W : Wb) (F : List Addr), ds = [.ref w] ∧ WebAt C S w W F ∧ (Q (.rol (sortS W.names)) S ∨ ∀ q, S q = none → Q (.ref q) (upo S q (.lst (sortS W.names))))
def sp_Web_marks : DSp := fun ds S Q _ => ∃ (w : Addr) (W : Wb) (F : List Addr) (x : Str), ds = [.ref w, .str x] ∧ WebAt C S w W F ∧ x ∈ W.names ∧ (Q (.rol (sortS (wMarks W x))) S ∨ ∀ q, S q = none → Q (.ref q) (upo S q (.lst (sortS (wMarks W x)))))
def sp_Web_has_tie : DSp := fun ds S Q _ => ∃ (w : Addr) (W : Wb) (F : List Addr) (t : T3), ds = [.ref w, .str t.1, .str t.2.1, .str t.2.2] ∧ WebAt C S w W F ∧ Q (.bl (decide (t ∈ W.ts))) S
/-- the steps from a knot, each once, sorted -/
structure StepsOf (W : Wb) (x : Str) (st : List T3) : Prop where
  nd : st.Nodup
  mem : ∀ t, t ∈ st ↔ IsSt W x t
  srt : (st.map triD).Pairwise fun a b => ltD a b = true
def sp_Web_steps : DSp := fun ds S Q _ => ∃ (w : Addr) (W : Wb) (F : List Addr) (x : Str), ds = [.ref w, .str x] ∧ WebAt C S w W F ∧ x ∈ W.names ∧ ((∀ st, StepsOf W x st → Q (.rol (st.map triD)) S) ∨ ∀ st q, StepsOf W x st → S q = none → Q (.ref q) (upo S q (.lst (st.map triD))))
/-- a web's rows -/
structure RowsOf (W : Wb) (d : D) : Prop where
  ex : ∃ (ns : List Str) (ts : List T3), ns.Perm W.names ∧ ts.Perm W.ts ∧ sortS W.names = strsD ns ∧ srtD (W.ts.map triD) = ts.map triD ∧
    d = .tup [.tup (ns.map fun x => .tup [.str x, .tup (sortS (wMarks W x))]), .tup (ts.map triD)]
def sp_Web_rows : DSp := fun ds S Q _ => ∃ (w : Addr) (W : Wb) (F : List Addr), ds = [.ref w] ∧ WebAt C S w W F ∧ ∀ d, RowsOf W d → Q d S
end
def t_Web_init (C_Web : Addr) : DTS := (dSeq (dPutF C_Web "web_marks" (dVar 0) dDnK)
    (dSeq (dPutF C_Web "web_ties" (dVar 0) dDnN)
    (dPutF C_Web "web_steps" (dVar 0) dDnK)))
abbrev N_Web_init : List Str := ["self"]
def t_Web_ask_knot (C_Web : Addr) : DTS := (dIf (dTest (dOp (dIn true) (dVar 1) (dFld C_Web "web_marks" (dVar 0))))
      dNever
      dNx)
abbrev N_Web_ask_knot : List Str := ["self", "name"]
def t_Web_lay_knot (C_Web : Addr) : DTS := (dSeq (dPut (dFld C_Web "web_marks" (dVar 0)) (dVar 1) (dCB cListA (dCons (dVar 2) dNil)))
    (dPut (dFld C_Web "web_steps" (dVar 0)) (dVar 1) dDnN))
abbrev N_Web_lay_knot : List Str := ["self", "name", "marks"]
def t_Web_lay_tie (C_Web : Addr) : DTS := (dSeq (dAsg (dVar 1) (dGTupA 3 (dGCons (dGN 2) (dGCons (dGN 3) (dGCons (dGN 4) dGNil)))))
    (dSeq (dPut (dFld C_Web "web_ties" (dVar 0)) (dVar 1) (dC (.bl true)))
    (dSeq (dPut (dOp dIxS (dFld C_Web "web_steps" (dVar 0)) (dVar 2)) (dTup (dCons (dC (.str "on")) (dCons (dVar 3) (dCons (dVar 4) dNil)))) (dC (.bl true)))
    (dPut (dOp dIxS (dFld C_Web "web_steps" (dVar 0)) (dVar 4)) (dTup (dCons (dC (.str "back")) (dCons (dVar 3) (dCons (dVar 2) dNil)))) (dC (.bl true))))))
abbrev N_Web_lay_tie : List Str := ["self", "tie", "one", "word", "other"]
def t_Web_knots (C_Web : Addr) : DTS := (dRet (dCB cSortA (dCons (dFld C_Web "web_marks" (dVar 0)) dNil)))
abbrev N_Web_knots : List Str := ["self"]
def t_Web_has_tie (C_Web : Addr) : DTS := (dRet (dOp (dIn false) (dTup (dCons (dVar 1) (dCons (dVar 2) (dCons (dVar 3) dNil)))) (dFld C_Web "web_ties" (dVar 0))))
abbrev N_Web_has_tie : List Str := ["self", "one", "word", "other"]
def t_Web_put_knot (C_Web : Addr) : DTS := (dSeq (dIf (dTest (dOp (dIn false) (dVar 1) (dFld C_Web "web_marks" (dVar 0))))
      dNever
      dNx)
    (dSeq (dIf (dTest (dOp rGe (dCB cLen (dCons (dFld C_Web "web_marks" (dVar 0)) dNil)) (dC (.int 40))))
      dNever
      dNx)
    (dDrop (dMeth C_Web "lay_knot" (sp_Web_lay_knot C_Web) (dVar 0) (dCons (dVar 1) (dCons (dVar 2) dNil))))))
abbrev N_Web_put_knot : List Str := ["self", "name", "marks"]
def t_Web_put_tie (C_Web : Addr) : DTS := (dSeq (dDrop (dMeth C_Web "ask_knot" (sp_Web_ask_knot C_Web) (dVar 0) (dCons (dVar 1) dNil)))
    (dSeq (dDrop (dMeth C_Web "ask_knot" (sp_Web_ask_knot C_Web) (dVar 0) (dCons (dVar 3) dNil)))
    (dSeq (dIf (dTest (dMeth C_Web "has_tie" (sp_Web_has_tie C_Web) (dVar 0) (dCons (dVar 1) (dCons (dVar 2) (dCons (dVar 3) dNil)))))
      dNever
      dNx)
    (dSeq (dIf (dTest (dOp rGe (dCB cLen (dCons (dFld C_Web "web_ties" (dVar 0)) dNil)) (dC (.int 300))))
      dNever
      dNx)
    (dDrop (dMeth C_Web "lay_tie" (sp_Web_lay_tie C_Web) (dVar 0) (dCons (dTup (dCons (dVar 1) (dCons (dVar 2) (dCons (dVar 3) dNil)))) dNil)))))))
abbrev N_Web_put_tie : List Str := ["self", "one", "word", "other"]
def t_Web_marks (C_Web : Addr) : DTS := (dSeq (dDrop (dMeth C_Web "ask_knot" (sp_Web_ask_knot C_Web) (dVar 0) (dCons (dVar 1) dNil)))
    (dRet (dCB cSortA (dCons (dOp dIxS (dFld C_Web "web_marks" (dVar 0)) (dVar 1)) dNil))))
abbrev N_Web_marks : List Str := ["self", "knot"]
def t_Web_steps (C_Web : Addr) : DTS := (dSeq (dDrop (dMeth C_Web "ask_knot" (sp_Web_ask_knot C_Web) (dVar 0) (dCons (dVar 1) dNil)))
    (dRet (dCB cSortA (dCons (dOp dIxS (dFld C_Web "web_steps" (dVar 0)) (dVar 1)) dNil))))
abbrev N_Web_steps : List Str := ["self", "knot"]
def t_Web_rows (C_Web : Addr) : DTS := (dSeq (dAsg (dFz (dLc (dSeqI (dMeth C_Web "knots" (sp_Web_knots C_Web) (dVar 0) dNil)) (dGN 2) dYes (dTup (dCons (dVar 2) (dCons (dCB cTuple (dCons (dMeth C_Web "marks" (sp_Web_marks C_Web) (dVar 0) (dCons (dVar 2) dNil)) dNil)) dNil))) [2])) (dGN 1))
    (dRet (dTup (dCons (dCB cTuple (dCons (dVar 1) dNil)) (dCons (dCB cTuple (dCons (dCB cSortAF (dCons (dFld C_Web "web_ties" (dVar 0)) dNil)) dNil)) dNil)))))
abbrev N_Web_rows : List Str := ["self", "knots", "name"]
@[simp] theorem fw1 (a b c : D) : List.lookup (Str.ofString "web_marks") [(Str.ofString "web_marks", a), (Str.ofString "web_ties", b), (Str.ofString "web_steps", c)] = some a := by simp [List.lookup]
@[simp] theorem fw2 (a b c : D) : List.lookup (Str.ofString "web_ties") [(Str.ofString "web_marks", a), (Str.ofString "web_ties", b), (Str.ofString "web_steps", c)] = some b := by
  have e : (Str.ofString "web_ties" == Str.ofString "web_marks") = false := by decide +kernel
  simp [List.lookup, e]
@[simp] theorem fw3 (a b c : D) : List.lookup (Str.ofString "web_steps") [(Str.ofString "web_marks", a), (Str.ofString "web_ties", b), (Str.ofString "web_steps", c)] = some c := by
  have e : (Str.ofString "web_steps" == Str.ofString "web_marks") = false := by decide +kernel
  have e2 : (Str.ofString "web_steps" == Str.ofString "web_ties") = false := by decide +kernel
  simp [List.lookup, e, e2]
theorem fwn {m : Str} (a b c : D) (h1 : (m == Str.ofString "web_marks") = false) (h2 : (m == Str.ofString "web_ties") = false) (h3 : (m == Str.ofString "web_steps") = false) : List.lookup m [(Str.ofString "web_marks", a), (Str.ofString "web_ties", b), (Str.ofString "web_steps", c)] = none := by simp [List.lookup, h1, h2, h3]
@[simp] theorem fwn_ask_knot (a b c : D) : List.lookup (Str.ofString "ask_knot") [(Str.ofString "web_marks", a), (Str.ofString "web_ties", b), (Str.ofString "web_steps", c)] = none := fwn a b c (by decide +kernel) (by decide +kernel) (by decide +kernel)
@[simp] theorem fwn_lay_knot (a b c : D) : List.lookup (Str.ofString "lay_knot") [(Str.ofString "web_marks", a), (Str.ofString "web_ties", b), (Str.ofString "web_steps", c)] = none := fwn a b c (by decide +kernel) (by decide +kernel) (by decide +kernel)
@[simp] theorem fwn_lay_tie (a b c : D) : List.lookup (Str.ofString "lay_tie") [(Str.ofString "web_marks", a), (Str.ofString "web_ties", b), (Str.ofString "web_steps", c)] = none := fwn a b c (by decide +kernel) (by decide +kernel) (by decide +kernel)
@[simp] theorem fwn_cut_tie (a b c : D) : List.lookup (Str.ofString "cut_tie") [(Str.ofString "web_marks", a), (Str.ofString "web_ties", b), (Str.ofString "web_steps", c)] = none := fwn a b c (by decide +kernel) (by decide +kernel) (by decide +kernel)
@[simp] theorem fwn_put_knot (a b c : D) : List.lookup (Str.ofString "put_knot") [(Str.ofString "web_marks", a), (Str.ofString "web_ties", b), (Str.ofString "web_steps", c)] = none := fwn a b c (by decide +kernel) (by decide +kernel) (by decide +kernel)
@[simp] theorem fwn_take_knot (a b c : D) : List.lookup (Str.ofString "take_knot") [(Str.ofString "web_marks", a), (Str.ofString "web_ties", b), (Str.ofString "web_steps", c)] = none := fwn a b c (by decide +kernel) (by decide +kernel) (by decide +kernel)
@[simp] theorem fwn_ties_at (a b c : D) : List.lookup (Str.ofString "ties_at") [(Str.ofString "web_marks", a), (Str.ofString "web_ties", b), (Str.ofString "web_steps", c)] = none := fwn a b c (by decide +kernel) (by decide +kernel) (by decide +kernel)
@[simp] theorem fwn_put_tie (a b c : D) : List.lookup (Str.ofString "put_tie") [(Str.ofString "web_marks", a), (Str.ofString "web_ties", b), (Str.ofString "web_steps", c)] = none := fwn a b c (by decide +kernel) (by decide +kernel) (by decide +kernel)
@[simp] theorem fwn_take_tie (a b c : D) : List.lookup (Str.ofString "take_tie") [(Str.ofString "web_marks", a), (Str.ofString "web_ties", b), (Str.ofString "web_steps", c)] = none := fwn a b c (by decide +kernel) (by decide +kernel) (by decide +kernel)
@[simp] theorem fwn_put_mark (a b c : D) : List.lookup (Str.ofString "put_mark") [(Str.ofString "web_marks", a), (Str.ofString "web_ties", b), (Str.ofString "web_steps", c)] = none := fwn a b c (by decide +kernel) (by decide +kernel) (by decide +kernel)
@[simp] theorem fwn_take_mark (a b c : D) : List.lookup (Str.ofString "take_mark") [(Str.ofString "web_marks", a), (Str.ofString "web_ties", b), (Str.ofString "web_steps", c)] = none := fwn a b c (by decide +kernel) (by decide +kernel) (by decide +kernel)
@[simp] theorem fwn_knots (a b c : D) : List.lookup (Str.ofString "knots") [(Str.ofString "web_marks", a), (Str.ofString "web_ties", b), (Str.ofString "web_steps", c)] = none := fwn a b c (by decide +kernel) (by decide +kernel) (by decide +kernel)
@[simp] theorem fwn_marks (a b c : D) : List.lookup (Str.ofString "marks") [(Str.ofString "web_marks", a), (Str.ofString "web_ties", b), (Str.ofString "web_steps", c)] = none := fwn a b c (by decide +kernel) (by decide +kernel) (by decide +kernel)
@[simp] theorem fwn_has_tie (a b c : D) : List.lookup (Str.ofString "has_tie") [(Str.ofString "web_marks", a), (Str.ofString "web_ties", b), (Str.ofString "web_steps", c)] = none := fwn a b c (by decide +kernel) (by decide +kernel) (by decide +kernel)
@[simp] theorem fwn_steps (a b c : D) : List.lookup (Str.ofString "steps") [(Str.ofString "web_marks", a), (Str.ofString "web_ties", b), (Str.ofString "web_steps", c)] = none := fwn a b c (by decide +kernel) (by decide +kernel) (by decide +kernel)
@[simp] theorem fwn_rows (a b c : D) : List.lookup (Str.ofString "rows") [(Str.ofString "web_marks", a), (Str.ofString "web_ties", b), (Str.ofString "web_steps", c)] = none := fwn a b c (by decide +kernel) (by decide +kernel) (by decide +kernel)
@[simp] theorem fwn_like (a b c : D) : List.lookup (Str.ofString "like") [(Str.ofString "web_marks", a), (Str.ofString "web_ties", b), (Str.ofString "web_steps", c)] = none := fwn a b c (by decide +kernel) (by decide +kernel) (by decide +kernel)
section
variable {C : Addr}
theorem IsSt.ok {W : Wb} (ok : OkWb W) {x : Str} {t : T3} (hx : okS x) (h : IsSt W x t) : okT3 t := by
  obtain ⟨t1, t2, t3⟩ := t
  rcases h with ⟨h1, h2⟩ | ⟨h1, h2⟩
  · simp at h1 h2; subst h1
    have a1 := ok.ot _ h2
    exact ⟨ok_lit _, a1, ok.on _ (ok.tn _ h2).2⟩
  · simp at h1 h2; subst h1
    have a1 := ok.ot _ h2
    exact ⟨ok_lit _, a1, ok.on _ (ok.tn _ h2).1⟩
theorem rAdr_cons (r : WRow) (rs : List WRow) : rAdr (r :: rs) = r.ma :: r.sa :: rAdr rs := rfl
theorem rAdr_ms : ∀ {rs : List WRow}, (rAdr rs).Nodup → ∀ r ∈ rs, ∀ q ∈ rs, r.ma ≠ q.sa
  | s :: rs, nd, r, hr, q, hq => by
    rw [rAdr_cons] at nd
    simp [mem_rAdr] at nd
    rcases List.mem_cons.mp hr with e1 | hr' <;> rcases List.mem_cons.mp hq with e2 | hq'
    · rw [e1, e2]; exact nd.1.1
    · rw [e1]; exact (nd.1.2 q hq').2
    · rw [e2]; exact fun e => (nd.2.1 r hr').1 e.symm
    · exact rAdr_ms nd.2.2 r hr' q hq'
theorem name_inj : ∀ {rs : List WRow}, (rs.map (·.name)).Nodup → ∀ r ∈ rs, ∀ q ∈ rs, r.name = q.name → r = q
  | s :: rs, nd, r, hr, q, hq, e => by
    simp only [List.map_cons, List.nodup_cons] at nd
    rcases List.mem_cons.mp hr with e1 | hr' <;> rcases List.mem_cons.mp hq with e2 | hq'
    · rw [e1, e2]
    · exact absurd (List.mem_map.mpr ⟨q, hq', by rw [← e, e1]⟩) nd.1
    · exact absurd (List.mem_map.mpr ⟨r, hr', by rw [e, e2]⟩) nd.1
    · exact name_inj nd.2 r hr' q hq' e
theorem WebR.ms {S : DH} {w a b c : Addr} {W : Wb} {rs : List WRow} (h : WebR C S w a b c W rs) (x : Str) : (lk (rMarks rs) (.inr x)).isSome = decide (x ∈ W.names) := by
  have nd : (rs.map (·.name)).Nodup := h.names ▸ h.ok.nd
  by_cases hx : x ∈ W.names
  · obtain ⟨r, hr, rfl⟩ := (row_at h.ks).mp hx
    rw [lk_rows nd r hr]; simp [hx]
  · rw [lk_rows_none fun r hr e => hx ((row_at h.ks).mpr ⟨r, hr, e⟩)]; simp [hx]
end
section
variable {C : Addr}
end
end Sh
set_option maxRecDepth 100000
set_option maxHeartbeats 4000000
namespace Dt
open PySem PySem.Spec L2 PySem.W PyProof.Rows
section
variable {X : Cx} {pins : List (Addr × Obj)} {σ : L2.St} {H : Hp} {s : Shared} {a : Addr} {u : HO}
theorem LeH.thaw {H' : Hp} (le : LeH H H') (e : H a = some u) (mu : Mut (some u)) {v : HO} : LeH H (upd H' a v) :=
  ⟨fun p xs z => by rw [upd_ne (fun q => by rw [q, e] at z; cases z; exact mu)]; exact le.tup p xs z, fun p o w z => by rw [upd_ne (fun q => by rw [q, e] at z; cases z; exact mu)]; exact le.fz p o w z⟩
theorem LeW.thaw {o : Obj} (e : H a = some (.frz o u)) (mu : Mut (some u)) (nl : ∀ xs, u ≠ .lst xs) {v : HO} : LeW H (upd H a v) :=
  ⟨fun p xs z => by rw [upd_ne (fun q => by rw [q, e] at z; cases z)]; exact z, fun p o xs z => by rw [upd_ne (fun q => by rw [q, e] at z; cases z; exact nl _ rfl)]; exact z, fun p o xs z => by rw [upd_ne (fun q => by rw [q, e] at z; cases z; exact mu)]; exact z⟩
/-- the keys of the locked dict at d, as a row -/
def Itz (d : Addr) (o : Obj) (u : HO) (xs : List V) : It :=
  ⟨fun i H => H d = some (.frz o u) ∧ i < xs.length, fun i H x H' => H' = H ∧ xs[i]? = some x, fun i H => H d = some (.frz o u) ∧ xs.length ≤ i⟩
/-- for x in d: d is not written in the meantime -/
def iZ (X : Cx) (td : TE) : TI := fun σ H R => td σ H fun x H1 => ∃ d ob ks, x = .ref d ∧ ROb X.w X.K H1 d ob ∧ keysO ob = some ks ∧
  ∀ o u xs, H1 d = some u → Mut (some u) → RDs X.K H1 ks xs → (∀ o' u', X.H_0 d ≠ some (.frz o' u')) → R (Itz d o u xs) (upd H1 d (.frz o u))
end
section
variable {X : Cx} {elt tg iter : Expr} {ifs : List Expr} {scope : Scope} {own : List (Str × Nat)} {pos spos py : Pos} {g : DTG} {tt : DTT} {te tl : DTE}
/-- [.. for x in d if ..], d a dict that is not written in the meantime (nor read) -/
@[simp] def dLcK (tl : DTE) (g : DTG) (tt : DTT) (te : DTE) (vs : List Nat) : DTE := fun E τ S Q => tl E τ S fun d S1 => match d with
  | .ref a => (match S1 a with
    | some ob => opt (keysO ob) fun ks => ∀ p, S1 p = none → dLcL g tt te DW0 (wipeD τ vs) (fun _ => True) p (fun S' => Q (.ref p) (upo S' a ob)) ks (upo (delo S1 a) p (.lst []))
    | none => False)
  | _ => False
/-- what the comprehension leaves, ahead of the thaw -/
def QZ (X : Cx) (Q : VK) : VK := fun v H' => ∃ (a : Addr) (o : Obj) (u : HO), H' a = some (.frz o u) ∧ (∀ o' u', X.H_0 a ≠ some (.frz o' u')) ∧ Q v (upd H' a u)
end
end Dt
set_option maxRecDepth 100000
set_option maxHeartbeats 4000000
namespace Dt
open PySem PySem.Spec L2 PyProof.Rows
section
variable {X : Cx}
/-! ### count, index, remove: plain data -/
def mCount : RMD := fun d ds S Q => ∃ (y : D) (xs : List D), ds = [y] ∧ seqD S d = some xs ∧ Sm 60 y ∧ (∀ x ∈ xs, Sm 60 x) ∧ Q (.int (xs.count y : Nat)) S
theorem plainAll_of : ∀ {ps : List PyData}, PyData.canLayAll0 ps = true → PyData.plainAll ps = true := fun {ps} h => by
  have := PyData.plain_of_canLay0 (.list ps) (by simpa [PyData.canLay0] using h)
  simpa [PyData.plain] using this
def mIndex : RMD := fun d ds S Q => ∃ (y : D) (xs : List D) (j : Nat), ds = [y] ∧ seqD S d = some xs ∧ Sm 60 y ∧ (∀ x ∈ xs, Sm 60 x) ∧ xs[j]? = some y ∧ (∀ m, m < j → xs[m]? ≠ some y) ∧ Q (.int j) S
theorem toPs_at {xs : List D} {m : Nat} {p : PyData} (h : (toPs xs)[m]? = some p) : ∃ x, xs[m]? = some x ∧ p = toP x := by
  rw [toPs_map, List.getElem?_map] at h
  cases e : xs[m]? with
  | none => rw [e] at h; cases h
  | some x => rw [e] at h; exact ⟨x, rfl, (Option.some.inj h).symm⟩
theorem md_index (hu : X.A.units + 65 < cLine) : MtD X "list.index" mIndex := by
  refine ⟨fun d ds S Q Q' k ⟨y, xs, j, h1, h2, h3, h4, h5, h6, h⟩ => ⟨y, xs, j, h1, h2, h3, h4, h5, h6, k _ _ h⟩, fun pins s σ H x vs v us Q I rx rv ⟨d, ds, S, rep, rd, rds, y, xs, j, h1, h2, h3, h4, h5, h6, h⟩ => ?_⟩
  subst h1
  obtain ⟨u, rfl, ru⟩ := rds1 rds
  obtain ⟨hp, hs⟩ := seqD_pd h2 h4
  have dp := Pd.dp rep _ _ _ hp rd
  obtain ⟨a, xs', ea, _, _⟩ := seqD_rd rep rd h2
  subst ea
  refine mt_indexD hu pins s σ H _ _ v us Q I rx rv ⟨a, u, toP y, toPs xs, j, toP y, rfl, rfl, dp, Pd.dp rep _ _ _ (h3.pd S) ru, hs, h3.shaped (by decide), ?_, ?_, ?_, h _ H (LeH.refl H) rep rfl⟩
  · rw [toPs_map, List.getElem?_map, h5]; rfl
  · rw [eqv_P y y h3.1 h3.1, deq_self]
  · intro m z hm hz
    obtain ⟨x, hx, rfl⟩ := toPs_at hz
    have hxm : x ∈ xs := List.mem_of_getElem? hx
    rw [eqv_P x y (h4 x hxm).1 h3.1, deq_dec]
    exact decide_eq_false fun e => h6 m hm (e ▸ hx)
def mRemove : RMD := fun d ds S Q => mLst ds d S fun xs up => ∃ (y : D) (j : Nat), ds = [y] ∧ Sm 60 y ∧ (∀ x ∈ xs, Sm 60 x) ∧ xs[j]? = some y ∧ (∀ m, m < j → xs[m]? ≠ some y) ∧ Q .non (up (xs.eraseIdx j))
@[simp] def mClear : RMD := fun d ds S Q => mLst ds d S fun xs up => match ds with | [] => Q .non (up []) | _ => False
@[simp] def mPopAt : RMD := fun d ds S Q => mLst ds d S fun xs up => match ds with | [.int i] => (-(2 ^ 63) ≤ i ∧ i < 2 ^ 63) ∧ opt (seqIndex? i xs.length) fun k => opt xs[k]? fun y => Q y (up (xs.eraseIdx k)) | _ => False
/-! ### texts -/
@[simp] def mSplit : RMD := fun d ds S Q => match d, ds with | .str a, [.str b] => (b.length == 0) = false ∧ a.length + 2 ≤ sizeLine ∧ newO S (.lst ((Txt.split a b).map D.str)) fun p S' => Q (.ref p) S' | _, _ => False
theorem md_split : MtD X "str.split" mSplit := by
  refine ⟨fun d ds S Q Q' k h => ?_, fun pins s σ H x vs v us Q I rx rv ⟨d, ds, S, rep, rd, rds, h⟩ => ?_⟩
  · match d, ds, h with | .str a, [.str b], h => exact ⟨h.1, h.2.1, fun p hp => k _ _ (h.2.2 p hp)⟩
  · match d, ds, h with
    | .str a, [.str b], h =>
      cases rd
      obtain ⟨u, rfl, ru⟩ := rds1 rds
      cases ru
      exact mt_split pins s σ H _ _ v us Q I rx rv ⟨a, b, rfl, rfl, h.1, h.2.1, fun p hp => rep_new (Q0 := fun _ _ => True) rep hp (RDs.strs.mpr rfl) (h.2.2 p (rep.free hp))⟩
@[simp] def cStr : RCD := fun ds S Q => match ds with | [.int i] => i.natAbs.log2 < 1920 ∧ Q (.str (toString i)) S | [.str a] => Q (.str a) S | _ => False
theorem cd_str : CallD X (.type "str") cStr := by
  refine ⟨fun ds S Q Q' k h => ?_, fun pins s σ H vs us Q I rv ⟨ds, S, rep, rd, h⟩ => ?_⟩
  · match ds, h with
    | [.int i], h => exact ⟨h.1, k _ _ h.2⟩
    | [.str i], h => exact k _ _ h
  · match ds, h with
    | [.int i], h =>
      obtain ⟨v, rfl, r⟩ := rds1 rd
      cases r
      exact call_str_int pins s σ H _ us Q I rv ⟨i, rfl, h.1, h.2 _ H (LeH.refl H) rep rfl⟩
    | [.str i], h =>
      obtain ⟨v, rfl, r⟩ := rds1 rd
      cases r
      exact SkE.call_str_str pins s σ H _ us Q I rv ⟨i, rfl, h _ H (LeH.refl H) rep rfl⟩
@[simp] def cIntS : RCD := fun ds S Q => match ds with | [.int i] => Q (.int i) S | [.bl b] => Q (.int (if b then 1 else 0)) S | [.str a] => a.length ≤ 640 ∧ opt (PySem.intText? a) fun n => Q (.int n) S | _ => False
theorem cd_intS : CallD X (.type "int") cIntS := by
  refine ⟨fun ds S Q Q' k h => ?_, fun pins s σ H vs us Q I rv ⟨ds, S, rep, rd, h⟩ => ?_⟩
  · match ds, h with
    | [.int i], h => exact k _ _ h
    | [.bl i], h => exact k _ _ h
    | [.str a], h => exact ⟨h.1, opt_mono (fun _ z => k _ _ z) h.2⟩
  · match ds, h with
    | [.int i], h => exact cd_int.run pins s σ H vs us Q I rv ⟨[.int i], S, rep, rd, h⟩
    | [.bl i], h => exact cd_int.run pins s σ H vs us Q I rv ⟨[.bl i], S, rep, rd, h⟩
    | [.str a], h =>
      obtain ⟨v, rfl, r⟩ := rds1 rd
      cases r
      obtain ⟨n, e, z⟩ := opt_ex h.2
      exact call_int_str pins s σ H _ us Q I rv ⟨a, n, rfl, e, h.1, z _ H (LeH.refl H) rep rfl⟩
end
section
variable {X : Cx} {tg l : Expr} {tl : DTE} {p pos : Pos}
@[simp] def dRev (tl : DTE) : DTI := fun E τ S R => tl E τ S fun d S1 => match d with
  | .tup ds => R (fun _ => True) ds.reverse S1
  | .rol ds => R (fun _ => True) ds.reverse S1
  | .ref a => (match S1 a with | some (.lst ds) => R (fun S => S a = some (.lst ds)) ds.reverse S1 | _ => False)
  | _ => False
/-! ### e[::-1] of a list -/
@[simp] def dRevL (tl : DTE) : DTE := fun E τ S Q => tl E τ S fun d S1 => opt (seqD S1 d) fun xs => newO S1 (.lst xs.reverse) fun p S' => Q (.ref p) S'
@[simp] def dRevLF (tl : DTE) : DTE := fun E τ S Q => tl E τ S fun d S1 => opt (seqD S1 d) fun xs => Q (.rol xs.reverse) S1
/-! ### tuple(reversed(e)), e a list -/
@[simp] def dTupRev (tl : DTE) : DTE := fun E τ S Q => tl E τ S fun d S1 => opt (seqD S1 d) fun xs => Q (.tup xs.reverse) S1
end
theorem hu65 {A : Around} (h : A.units + 120 < cLine) : A.units + 65 < cLine := by omega
end Dt
set_option maxRecDepth 100000
set_option maxHeartbeats 4000000
namespace Dt
open PySem PySem.Spec L2 PyProof.Rows
section
variable {prog : Program} {w : World} {A : Around} {E : Value → Shared → Prop} {s : Shared} {R : Result → Shared → Prop}
theorem nolen_rt : typeLookup (.type "reversed") "__len__" = pure none := by rw [typeLookup_type, builtinLookup_eq_fast]; kernel_rfl
theorem hint_rt : typeLookup (.type "reversed") "__length_hint__" = pure (some (.builtin "reversed.__length_hint__")) := by rw [typeLookup_type, builtinLookup_eq_fast]; kernel_rfl
theorem slot_rt_hint : Slot "reversed" "__length_hint__" "reversed.__length_hint__" :=
  .of (owner := "reversed") (n := "__length_hint__") (by rw [typeLookup_type, builtinLookup_eq_fast]; kernel_rfl) (by decide +kernel) (by decide +kernel) (by decide +kernel)
    (by first | exact .inl (by decide +kernel) | exact .inr (by decide +kernel)) (by rw [isSubtype_type]; kernel_rfl)
theorem entry_rt_hint : entryFor table "reversed.__length_hint__" = some Builtin.«reversed.__length_hint__» := entryFor_of_tree (by kernel_rfl)
theorem args_rt_hint (a : Value) : argsOk "reversed.__length_hint__" ⟨[a], []⟩ := by
  unfold argsOk; rw [signature?_of (id := "reversed.__length_hint__") (n := "__length_hint__".toList.reverse) (o := "reversed".toList.reverse) (by kernel_rfl) RT.owner_rt]; kernel_rfl
theorem hint_call {it t : Addr} {items : Array Value} {Q : Value → Shared → Prop} (hit : RT.IsRt s.heap it t ((items.size : Int) - 1)) (ht : IsTup s.heap t items) (hz : items.size ≤ sizeLine)
    (h : ∀ k, Q (.int items.size k) { s with toks := s.toks + 1 + 1 + 1 }) : wpAny (model prog w) A (call (.builtin "reversed.__length_hint__") [.ref it]) Q E s := by
  obtain ⟨o, ho, hc, hd⟩ := id hit
  have hl := sizeLine_eq
  refine wpAny_call_entry slot_rt_hint hit.typeIs entry_rt_hint ?_ (args_rt_hint _)
  unfold Builtin.«reversed.__length_hint__»
  refine wpAny_bind (wpAny_of_eq (a := Value.ref it) rfl ?_)
  try dsimp only
  refine wpAny_bind (wpAny_field ho hd (x := .ref t) rfl ?_)
  rw [if_neg (show ¬ ((Value.ref t == Value.none) = true) from Bool.false_ne_true)]
  try dsimp only
  refine wpAny_bind (len_tuple ht (by omega) ?_)
  refine wpAny_bind (wpAny_of_eq (a := some ((items.size : Nat) : Int)) rfl ?_)
  try dsimp only
  refine wpAny_bind (wpAny_field (s := { s with toks := s.toks + 1 + 1 }) ho hd (x := rawInt ((items.size : Int) - 1)) rfl ?_)
  show wpAny _ _ (if (items.size : Int) < (items.size : Int) - 1 + 1 then _ else _) _ _ _
  rw [if_neg (by omega)]
  refine wpAny_bind (wpAny_mkInt ?_)
  refine wpAny_pure ?_
  have e : (items.size : Int) - 1 + 1 = items.size := by omega
  rw [e]
  exact ⟨_, rfl, h _⟩
theorem hint_run {it t : Addr} {items : Array Value} {Q : Bool → Shared → Prop} (hit : RT.IsRt s.heap it t ((items.size : Int) - 1)) (ht : IsTup s.heap t items) (hz : items.size ≤ sizeLine)
    (h : ∀ b tk, Q b { s with toks := tk }) : wpAny (model prog w) A (Builtin.List.listLengthHint (.ref it)) Q E s := by
  have hT : s.TypeIs (.ref it) "reversed" := hit.typeIs
  have hl := sizeLine_eq
  unfold Builtin.List.listLengthHint
  refine wpAny_bind (wpAny_specialOf hT nolen_rt ?_)
  show wpAny _ _ (specialOf (Value.ref it) (Str.ofString "__length_hint__") >>= _) _ _ _
  refine wpAny_bind (wpAny_specialOf hT hint_rt ?_)
  generalize hid : ("reversed.__length_hint__" : String) = id0
  wp_delta
  rw [show splitId id0 = some ("reversed", "__length_hint__") from by subst hid; decide +kernel]
  subst hid
  refine wpAny_bind (wpAny_isInstance (b := true) hT (by rw [isSubtype_type]; kernel_rfl) ?_)
  rw [if_neg (by decide)]
  try dsimp only
  rw [if_neg (by decide +kernel)]
  refine wpAny_bind (wpAny_rule ?_)
  refine wpAny_bind (wpAny_of_eq (slot_rt_hint.bind _) ?_)
  try dsimp only
  refine wpAny_bind (wpAny_attempt (hint_call hit ht hz fun k => ?_))
  try dsimp only
  refine wpAny_bind ?_
  refine wpAny_of_eq (a := some (items.size : Int)) ?_ ?_
  · simp only [asInt?]
  have f1 : ¬ ((!Builtin.List.listFitsIndex (items.size : Int)) = true) := by
    simp [Builtin.List.listFitsIndex]; omega
  have f3 : ¬ (Builtin.List.listTooLong ((items.size : Int)).toNat = true) := by
    simp [Builtin.List.listTooLong]; omega
  show wpAny _ _ (if (!Builtin.List.listFitsIndex (items.size : Int)) = true then _ else _) _ _ _
  rw [if_neg f1, if_neg (show ¬ ((items.size : Int) < 0) by omega), if_neg f3]
  exact wpAny_pure (h _ _)
end
section
variable {prog : Program} {w : World} {A : Around} {E : Value → Shared → Prop} {s : Shared} {R : Result → Shared → Prop}
theorem walks_rt (hh : A.handled = none) (I t : Addr) (hne : t ≠ I) (items : Array Value) (hz : items.size ≤ sizeLine) :
    Walks prog w A I [I, t] [I] items.size (fun i v => items[items.size - 1 - i]? = some v) (fun i h => i ≤ items.size ∧ RT.IsRt h I t ((items.size : Int) - 1 - (i : Int)) ∧ IsTup h t items) where
  sub := fun b hb => by simp at hb; simp [hb]
  frame := fun i h h' x hk => ⟨x.1, x.2.1.at fun o e => hk I (by simp) o e, let ⟨o, ho, r⟩ := x.2.2; ⟨o, hk t (by simp) o ho, r⟩⟩
  item := fun i s Q E hi x hQ => by
    obtain ⟨x1, x2, x3⟩ := x
    have e : (items.size : Int) - 1 - (i : Int) = ((items.size - 1 - i : Nat) : Int) := by omega
    rw [e] at x2
    have hx : items[items.size - 1 - i]? = some (items[items.size - 1 - i]'(by omega)) := Array.getElem?_eq_getElem (by omega)
    refine RT.next_rt_item x2 x3 hx hz fun h' y sb => ?_
    have e2 : ((items.size - 1 - i : Nat) : Int) - 1 = (items.size : Int) - 1 - ((i + 1 : Nat) : Int) := by omega
    rw [e2] at y
    exact hQ _ h' _ hx ⟨hi, y, let ⟨o, ho, r⟩ := x3; ⟨o, (sb.2 t hne).trans ho, r⟩⟩ fun b o hb eo => sb.extBut b o (fun h => hb (by simp [h])) eo
  done := fun s Q E x hQ => by
    obtain ⟨x1, x2, x3⟩ := x
    have e : (items.size : Int) - 1 - (items.size : Int) = -1 := by omega
    rw [e] at x2
    exact RT.next_rt_end hh x2 fun h' he' => hQ h' s.toks fun b o hb eo => he' b o (fun h => hb (by simp [h])) eo
  self := fun _ _ _ _ x hQ => RT.iter_rt x.2.1 hQ
theorem extend_rt {it t : Addr} {items : Array Value} (hh : A.in1.handled = none) (hne : t ≠ it) (hz : items.size ≤ sizeLine) (S : Addr) (res : Value) (c₀ : Nat) (hit : RT.IsRt s.heap it t ((items.size : Int) - 1)) (ht : IsTup s.heap t items) (hSi : S ≠ it) (hSt : S ≠ t)
    (hS : s.heap.get? S = some { cls := .type "list", data := .seq #[] c₀ })
    (hR : ∀ h' tk acc' c', (∀ b o, b ≠ S → b ≠ it → s.heap.get? b = some o → h'.get? b = some o) → h'.get? S = some { cls := .type "list", dict := none, data := .seq acc' c', slots := #[] } → ItemsOf (fun i v => items[items.size - 1 - i]? = some v) acc' items.size → R (.ok (.ret res)) { s with heap := h', toks := tk }) :
    wpAny (model prog w) A.in1 (Builtin.List.listExtendWith (.ref S) (.ref it) res)
      (fun fin s' => match fin with | .done f => R (.ok f) s' | .again c' => c'.quiet = true ∧ codeAny (model prog w) A c' R s') (fun e s' => R (.error e) s') s := by
  have hT : s.TypeIs (.ref it) "reversed" := hit.typeIs
  unfold Builtin.List.listExtendWith
  refine wpAny_bind (wpAny_typeOf hT ?_)
  have h1 : Builtin.List.listSameRef (.ref S) (.ref it) = false := by simp [Builtin.List.listSameRef, hSi]
  have h2 : (Value.type "reversed" == Value.type "list") = false := by decide
  have h3 : (Value.type "reversed" == Value.type "tuple") = false := by decide
  simp only [h1, h2, h3, Bool.or_false, Bool.false_eq_true, if_false]
  refine wpAny_bind (RT.iter_rt hit ?_)
  refine wpAny_bind (wpAny_holding ?_)
  refine hint_run hit ht hz fun b tk => ?_
  have W := (walks_rt (prog := prog) (w := w) (A := A.in1) hh it t hne items hz).toS
  have hSf : S ∉ [it, t] := by simp [hSi, hSt]
  have e0 : ((items.size : Nat) : Int) - 1 - ((0 : Nat) : Int) = (items.size : Int) - 1 := by omega
  have fin : ∀ (h2 : Heap) (c2 : Nat), (∀ b o, b ≠ S → s.heap.get? b = some o → h2.get? b = some o) → h2.get? S = some { cls := .type "list", data := .seq #[] c2 } →
      codeAny (model prog w) A (.builtin "list.extend.loop" ⟨[.ref S, .ref it, res], []⟩) R { s with heap := h2, toks := tk } := fun h2 c2 hk hS2 =>
    codeAny_extend_loopS W hz _ hSf _ items.size 0 _ _ _ rfl (Nat.zero_le _) ⟨Nat.zero_le _, by rw [e0]; exact hit.at fun o e => hk it o (Ne.symm hSi) e, let ⟨o, ho, r⟩ := ht; ⟨o, hk t o (Ne.symm hSt) ho, r⟩⟩ hS2 (ItemsOf.nil _) fun s' acc' c' hm hS' hacc => by
      rw [Moved.eq_with hm]
      refine hR s'.heap s'.toks acc' c' (fun b o h1 h2 e => hm.heap b o (fun hmem => ?_) (hk b o h1 e)) hS' hacc
      rcases List.mem_cons.mp hmem with e' | hmem
      · exact h1 e'
      · exact h2 (List.mem_singleton.mp hmem)
  split
  · refine wpAny_bind (wpAny_rule ?_)
    refine wpAny_bind ?_
    show wpAny _ A.in1 (updateSeq S (·.push .none) >>= fun _ => updateSeq S (·.pop)) _ _ _
    refine wpAny_bind (wpAny_updateSeq (s := { s with toks := tk }) hS rfl ?_)
    have hS₂ := Heap.get?_update_self (Obj.mapSeq (·.push Value.none)) hS rfl
    refine wpAny_updateSeq (hz := by seq_fits) hS₂ rfl ?_
    have hS₃ := Heap.get?_update_self (Obj.mapSeq (·.pop)) hS₂ rfl
    refine wpAny_pure ⟨plainId_quiet F.plain_extend_loop _, fin _ _ (fun b o hb e => (Heap.get?_update_other _ _ (Ne.symm hb)).trans ((Heap.get?_update_other _ _ (Ne.symm hb)).trans e)) hS₃⟩
  · exact wpAny_pure ⟨plainId_quiet F.plain_extend_loop _, fin s.heap c₀ (fun _ _ _ e => e) hS⟩
end
section
variable {X : Cx} {l : Expr} {tl : DTE} {te : TE} {p p2 pos pos2 : Pos}
/-- tuple(reversed(x)), x a list or a tuple -/
def tTupRevA (K : PySem.W.Frag) (te : TE) : TE := fun σ H Q => te σ H fun v H1 => ∃ (a : Addr) (xs : List V), v = .ref a ∧ SqT K H1 a xs ∧ ∀ q i n, H1 q = none → Q (.ref q) (upd H1 q (tupO i n xs.reverse))
@[simp] def dTupRevT (tl : DTE) : DTE := fun E τ S Q => tl E τ S fun d S1 => match d with | .tup xs => Q (.tup xs.reverse) S1 | _ => False
end
end Dt
set_option maxRecDepth 100000
set_option maxHeartbeats 4000000
namespace Dt
open PySem PySem.Spec L2 PyProof.Rows
section
variable {prog : Program} {w : World} {A : Around} {E : Value → Shared → Prop} {s : Shared} {R : Result → Shared → Prop}
theorem list_init_rt {it t : Addr} {items : Array Value} (hh : A.in1.handled = none) (hne : t ≠ it) (hz : items.size ≤ sizeLine) (S : Addr) (hit : RT.IsRt s.heap it t ((items.size : Int) - 1)) (ht : IsTup s.heap t items) (hSi : S ≠ it) (hSt : S ≠ t)
    (hS : s.heap.get? S = some { cls := .type "list", data := .seq #[] })
    (hR : ∀ h' tk acc' c', (∀ b o, b ≠ S → b ≠ it → s.heap.get? b = some o → h'.get? b = some o) → h'.get? S = some { cls := .type "list", dict := none, data := .seq acc' c', slots := #[] } → ItemsOf (fun i v => items[items.size - 1 - i]? = some v) acc' items.size → R (.ok (.ret .none)) { s with heap := h', toks := tk }) :
    wpAny (model prog w) A.in1 (Builtin.«list.__init__» ⟨[.ref S, .ref it], []⟩)
      (fun fin s' => match fin with | .done f => R (.ok f) s' | .again c' => c'.quiet = true ∧ codeAny (model prog w) A c' R s') (fun e s' => R (.error e) s') s := by
  show wpAny _ A.in1 (do let old ← Builtin.List.listItems (.ref S); Builtin.List.listUpdate (.ref S) (fun _ => #[]); letGo old.toList.reverse; Builtin.List.listExtendWith (.ref S) (.ref it) .none) _ _ s
  refine wpAny_bind ?_
  unfold Builtin.List.listItems
  refine wpAny_bind (wpAny_seqItems hS rfl (wpAny_pure ?_))
  show wpAny _ A.in1 (updateSeq S (fun _ => #[]) >>= fun _ => letGo (#[] : Array Value).toList.reverse >>= fun _ => Builtin.List.listExtendWith (.ref S) (.ref it) .none) _ _ s
  refine wpAny_bind (wpAny_updateSeq hS rfl ?_)
  have hS₂ := Heap.get?_update_self (Obj.mapSeq (fun _ => (#[] : Array Value))) hS rfl
  have oth : ∀ b o, b ≠ S → s.heap.get? b = some o → (s.heap.update S (Obj.mapSeq (fun _ => (#[] : Array Value)))).get? b = some o :=
    fun b o hb e => (Heap.get?_update_other _ _ (Ne.symm hb)).trans e
  refine wpAny_bind (wpAny_letGo ?_)
  exact extend_rt (R := R) (s := { s with heap := s.heap.update S (Obj.mapSeq (fun _ => (#[] : Array Value))) }) hh hne hz S .none _ (hit.at fun o e => oth it o (Ne.symm hSi) e) (let ⟨o, ho, r⟩ := ht; ⟨o, oth t o (Ne.symm hSt) ho, r⟩) hSi hSt hS₂
    fun h' tk acc c hk hS' hacc => hR h' tk acc c (fun b o h1 h2 e => hk b o h1 h2 (oth b o h1 e)) hS' hacc
theorem call_list_rt {it t : Addr} {items : Array Value} {Q : Value → Shared → Prop} (hh : A.handled = none) (hne : t ≠ it) (hz : items.size ≤ sizeLine) (hit : RT.IsRt s.heap it t ((items.size : Int) - 1)) (ht : IsTup s.heap t items)
    (hQ : ∀ (h' : Heap) (tk : Nat) (acc : Array Value) (c : Nat), (∀ b o, b ≠ it → s.heap.get? b = some o → h'.get? b = some o) → h'.get? s.heap.objs.size = some { cls := .type "list", dict := none, data := .seq acc c, slots := #[] } → ItemsOf (fun i v => items[items.size - 1 - i]? = some v) acc items.size →
      Q (.ref s.heap.objs.size) { s with heap := h', toks := tk }) :
    wpAny (model prog w) A (call (.type "list") [.ref it]) Q E s := by
  obtain ⟨oi, hoi, _⟩ := id hit
  obtain ⟨ol, hol, _⟩ := id ht
  have hSi : s.heap.objs.size ≠ it := Nat.ne_of_gt (Heap.lt_size hoi)
  have hSt : s.heap.objs.size ≠ t := Nat.ne_of_gt (Heap.lt_size hol)
  refine callType_codes (Q₁ := fun obj s₁ => obj = .ref s.heap.objs.size ∧ s₁ = { s with heap := s.heap.push { cls := .type "list", data := .seq #[] } }) F.called_list (F.typeCall_list_1 _) F.entry_list_init
    (code_list_new _ ⟨rfl, rfl⟩) fun obj s₁ h₁ => ?_
  obtain ⟨rfl, rfl⟩ := h₁
  have hS : (s.heap.push { cls := .type "list", data := .seq #[] }).get? s.heap.objs.size = some { cls := .type "list", data := .seq #[] } := Heap.get?_push_size _ rfl
  refine ⟨⟨_, hS, rfl⟩, F.args_list_init_2 _ _, list_init_rt (s := { s with heap := s.heap.push { cls := .type "list", data := .seq #[] } }) (by exact hh) hne hz _ (hit.at fun o e => Heap.get?_push_of_some _ e) (let ⟨o, ho, r⟩ := ht; ⟨o, Heap.get?_push_of_some _ ho, r⟩) hSi hSt hS fun h' tk acc c hk hS' hacc => ?_⟩
  exact ⟨rfl, hQ h' tk acc c (fun b o hb e => hk b o (fun e' => absurd (Heap.lt_size e) (by rw [e']; exact Nat.lt_irrefl _)) hb (Heap.get?_push_of_some _ e)) hS' hacc⟩
end
section
variable {X : Cx} {l : Expr} {tl : DTE} {te : TE} {p p2 pos pos2 : Pos}
/-- list(reversed(x)), x a tuple -/
def tLstRevA (K : PySem.W.Frag) (te : TE) : TE := fun σ H Q => te σ H fun v H1 => ∃ (a : Addr) (xs : List V), v = .ref a ∧ SqT K H1 a xs ∧ ∀ q, H1 q = none → Q (.ref q) (upd H1 q (.lst xs.reverse))
theorem pe_lstRevT (hc : X.calm = true) (hg : Gl X "list") (hm : X.mg "list" = none) (hg2 : Gl X "reversed") (hm2 : X.mg "reversed" = none) (he : PE X l te)
    (hs : starEach [l] X.env = (false, eval l X.env) :: starEach [] X.env := by rfl)
    (hs2 : starEach [.Call (.Name "reversed" p2) [l] [] pos2] X.env = (false, eval (.Call (.Name "reversed" p2) [l] [] pos2) X.env) :: starEach [] X.env := by rfl) :
    PE X (.Call (.Name "list" p) [.Call (.Name "reversed" p2) [l] [] pos2] [] pos) (tLstRevA X.K te) := by
  refine ⟨fun pins s σ H Q I h => ?_⟩
  refine Call_ (ld_blt I hg hm PyProof.Rows.boot_list (PyProof.Rows.callWith_type1 (args_cons (Call_ (ld_blt I hg2 hm2 PyProof.Rows.boot_reversed (PyProof.Rows.callWith_type1 (args_cons (thn (he.run pins s σ H _ I h) fun u s1 ⟨v, H1, I1, r1, q1⟩ => args_nil ?_) hs) hs rfl))) hs2) hs2 rfl))
  obtain ⟨a, xs, ev, hq, q⟩ := q1
  subst ev
  obtain rfl : u = Value.ref a := r1
  obtain ⟨its, rv, p', hz⟩ := I1.tuple hq
  have hl := rv.length
  have hn := line63
  have hsz : its.toArray.size ≤ sizeLine := by rw [List.size_toArray, ← rv.length]; exact hz
  refine RT.call_reversed_tup p' (fun A E Q k => len_tuple p' (by simp only [List.size_toArray] <;> omega) k) (args_nil ?_)
  have k0 : ∀ b o, s1.heap.get? b = some o → (s1.heap.push (RT.rtObj a ((its.toArray.size : Int) - 1))).get? b = some o := fun b o e => Heap.get?_push_of_some _ e
  obtain ⟨ol, hol, hcl⟩ := id p'
  have hne : a ≠ s1.heap.objs.size := Nat.ne_of_lt (Heap.lt_size hol)
  refine call_list_rt (s := { s1 with heap := s1.heap.push (RT.rtObj a ((its.toArray.size : Int) - 1)), toks := s1.toks + 1 + 1 }) (I1.ok.hd hc) hne hsz ⟨_, Heap.get?_push_size _ rfl, rfl, rfl⟩ ⟨ol, Heap.get?_push_of_some _ hol, hcl⟩ fun h' tk acc c hk hS hi => ?_
  have e1 : (s1.heap.push (RT.rtObj a ((its.toArray.size : Int) - 1))).objs.size = s1.heap.objs.size + 1 := size_push' ..
  simp only [e1] at hS ⊢
  refine ⟨.ref (s1.heap.objs.size + 1), upd H1 (s1.heap.objs.size + 1) (.lst xs.reverse), I1.laid (t' := tk) (fun b o e => hk b o (Nat.ne_of_lt (Heap.lt_size e)) (k0 b o e)) (Nat.le_succ _) ⟨by rw [List.length_reverse]; exact hz, acc.toList, c, RT.vals_rev rv hi, by rw [Array.toArray_toList]; exact hS⟩, rfl, q _ (I1.hok.fresh (Nat.le_succ _))⟩
@[simp] def dLstRevT (tl : DTE) : DTE := fun E τ S Q => tl E τ S fun d S1 => match d with | .tup xs => newO S1 (.lst xs.reverse) fun p S' => Q (.ref p) S' | _ => False
theorem de_lstRevT (hc : X.calm = true) (hg : Gl X "list") (hm : X.mg "list" = none) (hg2 : Gl X "reversed") (hm2 : X.mg "reversed" = none) (hl : DE X l tl) (hs : starEach [l] X.env = (false, eval l X.env) :: starEach [] X.env := by rfl)
    (hs2 : starEach [.Call (.Name "reversed" p2) [l] [] pos2] X.env = (false, eval (.Call (.Name "reversed" p2) [l] [] pos2) X.env) :: starEach [] X.env := by rfl) :
    DE X (.Call (.Name "list" p) [.Call (.Name "reversed" p2) [l] [] pos2] [] pos) (dLstRevT tl) := by
  refine ⟨fun E E' τ S Q Q' he k q => hl.mono _ _ _ _ _ _ he (fun d S1 z => by cases d <;> first | exact fun p hp => k _ _ (z p hp) | exact z) q, pE_imp (pe_lstRevT hc hg hm hg2 hm2 hl.run hs hs2) fun σ H Q ⟨E, τ, S, w, r, q⟩ => ?_⟩
  refine hl.to w r q fun d S1 x H1 le w1 r1 rd z => ?_
  cases d with
  | tup xs =>
    obtain ⟨a, ys, rfl, sq, rs⟩ : ∃ p ys, x = V.ref p ∧ SqTn X.K H1 p ys ∧ RDs X.K H1 xs ys := rd
    exact ⟨a, ys, rfl, sq, fun p hp => z p (r1.rep.free hp) _ _ (le.trans (LeH.new hp)) (r1.rep.new hp (o := .lst xs.reverse) ⟨_, upd_same, rs.reverse.le (LeH.new hp)⟩) rfl⟩
  | _ => exact z.elim
@[simp] def dLstRevTF (tl : DTE) : DTE := fun E τ S Q => tl E τ S fun d S1 => match d with | .tup xs => Q (.rol xs.reverse) S1 | _ => False
theorem de_lstRevTF (hc : X.calm = true) (hg : Gl X "list") (hm : X.mg "list" = none) (hg2 : Gl X "reversed") (hm2 : X.mg "reversed" = none) (hl : DE X l tl) (hs : starEach [l] X.env = (false, eval l X.env) :: starEach [] X.env := by rfl)
    (hs2 : starEach [.Call (.Name "reversed" p2) [l] [] pos2] X.env = (false, eval (.Call (.Name "reversed" p2) [l] [] pos2) X.env) :: starEach [] X.env := by rfl) :
    DE X (.Call (.Name "list" p) [.Call (.Name "reversed" p2) [l] [] pos2] [] pos) (dLstRevTF tl) :=
  (de_fz (de_lstRevT hc hg hm hg2 hm2 hl hs hs2)).sub (fun E E' τ S Q Q' he k q => hl.mono _ _ _ _ _ _ he (fun d S1 z => by cases d <;> first | exact k _ _ z | exact z) q)
    fun E τ S Q q => hl.mono _ _ _ _ _ _ (fun _ _ _ _ z => z) (fun d S1 z => by cases d <;> first | exact fun p hp => fzK_new hp z | exact z) q
end
end Dt
set_option maxRecDepth 100000
set_option maxHeartbeats 4000000
namespace Sh
open PySem PySem.Spec L2 Dt Sh
/-! marks put on and taken off -/
def Wb.setM (W : Wb) (x : Str) (ms : List Str) : Wb := ⟨W.ks.map fun k => if k.1 = x then (k.1, ms) else k, W.ts⟩
theorem Wb.setM_names (W : Wb) (x : Str) (ms : List Str) : (W.setM x ms).names = W.names := by
  simp only [Wb.names, Wb.setM, List.map_map]
  exact List.map_congr_left fun k _ => by simp only [Function.comp]; split <;> rfl
theorem OkWb.setM {W : Wb} (h : OkWb W) (x : Str) {ms : List Str} (hm : ∀ m ∈ ms, okS m) : OkWb (W.setM x ms) := by
  have e := W.setM_names x ms
  refine ⟨by rw [e]; exact h.nd, h.nt, fun t ht => by rw [e]; exact h.tn t ht, fun y hy => h.on y (by rwa [e] at hy), fun k hk m hmk => ?_, h.ot, by simpa [Wb.setM] using h.lk, h.lt⟩
  obtain ⟨k', hk', rfl⟩ := List.mem_map.mp hk
  split at hmk
  · exact hm m hmk
  · exact h.om k' hk' m hmk
theorem rAdr_ma : ∀ {rs : List WRow}, (rAdr rs).Nodup → ∀ r ∈ rs, ∀ q ∈ rs, r.ma = q.ma → r = q
  | s :: rs, nd, r, hr, q, hq, e => by
    rw [rAdr_cons] at nd
    simp [mem_rAdr] at nd
    rcases List.mem_cons.mp hr with e1 | hr' <;> rcases List.mem_cons.mp hq with e2 | hq'
    · rw [e1, e2]
    · exact absurd (e1 ▸ e) (nd.1.2 q hq').1
    · exact absurd (e2 ▸ e).symm (nd.1.2 r hr').1
    · exact rAdr_ma nd.2.2 r hr' q hq' e
def rSetM (rs : List WRow) (x : Str) (ms : List Str) : List WRow := rs.map fun q => if q.name = x then { q with marks := ms } else q
theorem rSetM_adr (rs : List WRow) (x : Str) (ms : List Str) : rAdr (rSetM rs x ms) = rAdr rs := by
  induction rs with
  | nil => rfl
  | cons q rs ih =>
    show rAdr ((if q.name = x then { q with marks := ms } else q) :: rSetM rs x ms) = _
    rw [rAdr_cons, rAdr_cons, ih]
    split <;> rfl
theorem WebR.setM {C : Addr} {S : DH} {w a b c : Addr} {W : Wb} {rs : List WRow} (h : WebR C S w a b c W rs) {r : WRow} (hr : r ∈ rs) {ms : List Str} (hm : ∀ m ∈ ms, okS m) :
    WebR C (upo S r.ma (.lst (strsD ms))) w a b c (W.setM r.name ms) (rSetM rs r.name ms) := by
  have nd : (rs.map (·.name)).Nodup := h.names ▸ h.ok.nd
  have na : (rAdr rs).Nodup := by
    have := h.nd
    simp only [List.nodup_cons] at this
    exact this.2.2.2.2
  have hma : r.ma ∈ rAdr rs := mem_rAdr.mpr ⟨r, hr, .inl rfl⟩
  have nw : w ≠ r.ma := fun e => by have := h.nd; simp only [List.nodup_cons, List.mem_cons] at this; exact this.1 (.inr (.inr (.inr (e ▸ hma))))
  have nA : a ≠ r.ma := fun e => by have := h.nd; simp only [List.nodup_cons, List.mem_cons] at this; exact this.2.1 (.inr (.inr (e ▸ hma)))
  have nB : b ≠ r.ma := fun e => by have := h.nd; simp only [List.nodup_cons, List.mem_cons] at this; exact this.2.2.1 (.inr (e ▸ hma))
  have nC : c ≠ r.ma := fun e => by have := h.nd; simp only [List.nodup_cons, List.mem_cons] at this; exact this.2.2.2.1 (e ▸ hma)
  refine ⟨?_, ?_, ?_, ?_, ?_, ?_, ?_, ?_, h.ok.setM _ hm⟩
  · show _ = W.ks.map _
    rw [← h.ks, rSetM, List.map_map, List.map_map]
    exact List.map_congr_left fun q _ => by simp only [Function.comp]; split <;> rfl
  · rw [upo_ne nw]; exact h.ins
  · rw [upo_ne nA, h.sm, rMarks, rMarks, rSetM, List.map_map]
    refine congrArg (fun z => some (Ob.dK z)) (List.map_congr_left fun q _ => ?_)
    simp only [Function.comp]; split <;> rfl
  · rw [upo_ne nB]; exact h.st
  · rw [upo_ne nC, h.ss, rSteps, rSteps, rSetM, List.map_map]
    refine congrArg (fun z => some (Ob.dK z)) (List.map_congr_left fun q _ => ?_)
    simp only [Function.comp]; split <;> rfl
  · intro q' hq'
    obtain ⟨q, hq, rfl⟩ := List.mem_map.mp hq'
    split
    · rename_i e
      have := name_inj nd q hq r hr e
      subst this
      exact upo_same
    · rename_i e
      rw [upo_ne fun z => e (by rw [rAdr_ma na q hq r hr z])]
      exact h.rm q hq
  · intro q' hq'
    obtain ⟨q, hq, rfl⟩ := List.mem_map.mp hq'
    have e0 : (if q.name = r.name then { q with marks := ms } else q : WRow).sa = q.sa := by split <;> rfl
    have e1 : (if q.name = r.name then { q with marks := ms } else q : WRow).st = q.st := by split <;> rfl
    have e2 : (if q.name = r.name then { q with marks := ms } else q : WRow).name = q.name := by split <;> rfl
    rw [e0, e1, e2, upo_ne fun z => rAdr_ms na r hr q hq z.symm]
    exact h.rt q hq
  · rw [rSetM_adr]; exact h.nd
section
variable (C : Addr)
def sp_Web_put_mark : DSp := fun ds S Q _ => ∃ (w : Addr) (W : Wb) (F : List Addr) (x m : Str), ds = [.ref w, .str x, .str m] ∧ WebAt C S w W F ∧ x ∈ W.names ∧ m ∉ wMarks W x ∧ (wMarks W x).length < 5 ∧ okS m ∧
  ∀ S', WebAt C S' w (W.setM x (wMarks W x ++ [m])) F → Fr S F S' F → Q .non S'
def sp_Web_take_mark : DSp := fun ds S Q _ => ∃ (w : Addr) (W : Wb) (F : List Addr) (x m : Str), ds = [.ref w, .str x, .str m] ∧ WebAt C S w W F ∧ x ∈ W.names ∧ m ∈ wMarks W x ∧
  ∀ S', WebAt C S' w (W.setM x ((wMarks W x).erase m)) F → Fr S F S' F → Q .non S'
end
def t_Web_put_mark (C_Web : Addr) : DTS := (dSeq (dDrop (dMeth C_Web "ask_knot" (sp_Web_ask_knot C_Web) (dVar 0) (dCons (dVar 1) dNil)))
    (dSeq (dIf (dTest (dOp (dIn false) (dVar 2) (dOp dIxS (dFld C_Web "web_marks" (dVar 0)) (dVar 1))))
      dNever
      dNx)
    (dSeq (dIf (dTest (dOp rGe (dCB cLen (dCons (dOp dIxS (dFld C_Web "web_marks" (dVar 0)) (dVar 1)) dNil)) (dC (.int 5))))
      dNever
      dNx)
    (dDrop (dBM "list" mAppend (dOp dIxS (dFld C_Web "web_marks" (dVar 0)) (dVar 1)) (dCons (dVar 2) dNil))))))
abbrev N_Web_put_mark : List Str := ["self", "knot", "mark"]
def t_Web_take_mark (C_Web : Addr) : DTS := (dSeq (dDrop (dMeth C_Web "ask_knot" (sp_Web_ask_knot C_Web) (dVar 0) (dCons (dVar 1) dNil)))
    (dSeq (dIf (dTest (dOp (dIn true) (dVar 2) (dOp dIxS (dFld C_Web "web_marks" (dVar 0)) (dVar 1))))
      dNever
      dNx)
    (dDrop (dBM "list" mRemove (dOp dIxS (dFld C_Web "web_marks" (dVar 0)) (dVar 1)) (dCons (dVar 2) dNil)))))
abbrev N_Web_take_mark : List Str := ["self", "knot", "mark"]
section
variable {C : Addr}
theorem Fr.row {S : DH} {w a b c : Addr} {rs : List WRow} {r : WRow} (hr : r ∈ rs) {o : Ob} : Fr S (w :: a :: b :: c :: rAdr rs) (upo S r.ma o) (w :: a :: b :: c :: rAdr rs) := fun y u hy e =>
  ⟨hy, by rw [upo_ne fun z => hy (by rw [z]; simp [mem_rAdr]; exact .inr (.inr (.inr (.inr ⟨r, hr, .inl rfl⟩))))]; exact e⟩
end
end Sh
set_option maxRecDepth 100000
set_option maxHeartbeats 4000000
namespace Sh
open PySem PySem.Spec L2 Dt Sh
/-! ties taken out -/
def atKnot (x : Str) (t : T3) : Bool := decide (x = t.1) || decide (x = t.2.2)
section
variable (C : Addr)
def sp_Web_ties_at : DSp := fun ds S Q _ => ∃ (w : Addr) (W : Wb) (F : List Addr) (x : Str), ds = [.ref w, .str x] ∧ WebAt C S w W F ∧ Q (.rol ((W.ts.filter (atKnot x)).map triD)) S
end
def t_Web_ties_at (C_Web : Addr) : DTS := (dRet (dFz (dLcK (dFld C_Web "web_ties" (dVar 0)) (dGN 2) (dTest (dOp (dIn false) (dVar 1) (dTup (dCons (dOp dIxS (dVar 2) (dC (.int 0))) (dCons (dOp dIxS (dVar 2) (dC (.int 2))) dNil))))) (dVar 2) [2])))
abbrev N_Web_ties_at : List Str := ["self", "name", "tie"]
section
variable {C : Addr}
def atD (x : Str) (d : D) : Bool := match d with | .tup [.str u, _, .str v] => decide (x = u) || decide (x = v) | _ => false
end
end Sh
set_option maxRecDepth 100000
set_option maxHeartbeats 4000000
namespace Sh
open PySem PySem.Spec L2 Dt Sh
/-! a tie fewer -/
def rm3 (x : T3) (l : List T3) : List T3 := l.filter fun y => decide (y ≠ x)
theorem mem_rm3 {x y : T3} {l : List T3} : y ∈ rm3 x l ↔ y ∈ l ∧ y ≠ x := by simp [rm3]
theorem rm3_nodup {x : T3} {l : List T3} (h : l.Nodup) : (rm3 x l).Nodup := h.sublist List.filter_sublist
def Wb.cut (W : Wb) (t : T3) : Wb := ⟨W.ks, rm3 t W.ts⟩
theorem OkWb.cut {W : Wb} (h : OkWb W) (t : T3) : OkWb (W.cut t) :=
  ⟨h.nd, rm3_nodup h.nt, fun y hy => h.tn y (mem_rm3.mp hy).1, h.on, h.om, fun y hy => h.ot y (mem_rm3.mp hy).1, h.lk, Nat.le_trans (List.length_filter_le _ _) h.lt⟩
section
variable (C : Addr)
def sp_Web_cut_tie : DSp := fun ds S Q _ => ∃ (w : Addr) (W : Wb) (F : List Addr) (t : T3), ds = [.ref w, triD t] ∧ WebAt C S w W F ∧ t ∈ W.ts ∧ ∀ S', WebAt C S' w (W.cut t) F → Fr S F S' F → Q .non S'
end
def t_Web_cut_tie (C_Web : Addr) : DTS := (dSeq (dAsg (dVar 1) (dGTupA 3 (dGCons (dGN 2) (dGCons (dGN 3) (dGCons (dGN 4) dGNil)))))
    (dSeq (dDrop (dBM "dict" mDPop (dFld C_Web "web_ties" (dVar 0)) (dCons (dVar 1) dNil)))
    (dSeq (dDrop (dBM "dict" mDPop (dOp dIxS (dFld C_Web "web_steps" (dVar 0)) (dVar 2)) (dCons (dTup (dCons (dC (.str "on")) (dCons (dVar 3) (dCons (dVar 4) dNil)))) dNil)))
    (dDrop (dBM "dict" mDPop (dOp dIxS (dFld C_Web "web_steps" (dVar 0)) (dVar 4)) (dCons (dTup (dCons (dC (.str "back")) (dCons (dVar 3) (dCons (dVar 2) dNil)))) dNil))))))
abbrev N_Web_cut_tie : List Str := ["self", "tie", "one", "word", "other"]
section
variable {C : Addr}
end
end Sh
set_option maxRecDepth 100000
set_option maxHeartbeats 4000000
namespace Sh
open PySem PySem.Spec L2 Dt Sh
/-! ShA: rows, webs, steps of the laws k02 to k15 and k90 to k97. -/
def rowsD (R : Wb) : D := .tup [.rol (R.ks.map fun k => .tup [.str k.1, .rol (strsD k.2)]), .rol (R.ts.map triD)]
/-- rows by draws -/
structure DrawnR (ks ws ms : List Str) (m : Nat) (R : Wb) : Prop where
  ok : OkWb R
  k1 : 1 ≤ R.ks.length
  km : R.ks.length ≤ m
  names : R.names = ks.take R.ks.length
  marks : ∀ k ∈ R.ks, ∀ x ∈ k.2, x ∈ ms
  ml : ∀ k ∈ R.ks, k.2.length ≤ ms.length
  mn : ∀ k ∈ R.ks, k.2.Nodup
  words : ∀ t ∈ R.ts, t.2.1 ∈ ws
  tm : R.ts.length ≤ 3 * m
def costR (ms : List Str) (m : Nat) : Nat := 2 + m * (ms.length + 1) + 12 * m
def sp_l_rows : DSp := fun ds S Q _ => ∃ (p : Addr) (ks ws ms : List Str) (m n : Nat) (o : Ob), ds = [.ref p, .rol [.rol (strsD ks), .rol (strsD ws), .rol (strsD ms)], .int m] ∧ (∀ x ∈ ks, Nm x) ∧ ks.Nodup ∧ m ≤ ks.length ∧ 1 ≤ m ∧ m ≤ 1000 ∧ (∀ x ∈ ws, Nm x) ∧ 1 ≤ ws.length ∧ ws.length ≤ 1000 ∧ (∀ x ∈ ms, Nm x) ∧ ms.Nodup ∧ ms.length ≤ 1000 ∧
  S p = some o ∧ FeedOb n o ∧ n + costR ms m < 2 ^ 90 ∧ ∀ R o', DrawnR ks ws ms m R → FeedOb (n + costR ms m) o' → Q (rowsD R) (upo S p o')
section
variable (C : Addr)
def sp_l_web : DSp := fun ds S Q _ => ∃ R : Wb, ds = [rowsD R] ∧ OkWb R ∧ R.ks.length ≤ 40 ∧ R.ts.length ≤ 300 ∧ ∀ w S' F, WebAt C S' w R F → Fr S [] S' F → Q (.ref w) S'
end
def sp_l_steps : DSp := fun ds S Q _ => ∃ (R : Wb) (x : Str), ds = [rowsD R, .str x] ∧ OkWb R ∧ okS x ∧ ∀ st, StepsOf R x st → Q (.rol (st.map triD)) S
def t_l_steps : DTS := (dSeq (dAsg (dFz (dLc (dSeqI (dOp dIxS (dVar 0) (dC (.int 1)))) (dGN 4) (dTest (dOp (dEq false) (dOp dIxS (dVar 4) (dC (.int 0))) (dVar 1))) (dTup (dCons (dC (.str "on")) (dCons (dOp dIxS (dVar 4) (dC (.int 1))) (dCons (dOp dIxS (dVar 4) (dC (.int 2))) dNil)))) [4])) (dGN 2))
    (dSeq (dAsg (dFz (dLc (dSeqI (dOp dIxS (dVar 0) (dC (.int 1)))) (dGN 4) (dTest (dOp (dEq false) (dOp dIxS (dVar 4) (dC (.int 2))) (dVar 1))) (dVar 4) [4])) (dGN 3))
    (dRet (dCB cSortAF (dCons (dOp dAddF (dVar 2) (dFz (dLc (dSeqI (dVar 3)) (dGN 4) dYes (dTup (dCons (dC (.str "back")) (dCons (dOp dIxS (dVar 4) (dC (.int 1))) (dCons (dOp dIxS (dVar 4) (dC (.int 0))) dNil)))) [4]))) dNil)))))
abbrev N_l_steps : List Str := ["_law_rows_here", "_law_knot", "_law_found", "_law_ties", "_law_tie"]
def t_l_rows : DTS := (dSeq (dAsg (dLst dNil) (dGN 3))
    (dSeq (dFor (dRng1 (dCons (dOp dAddF (dC (.int 1)) (dCall sp_l_next (dCons (dVar 0) (dCons (dVar 2) dNil)))) dNil)) (dGN 4)
      (dSeq (dAsg (dFz (dLc (dSeqI (dOp dIxS (dVar 1) (dC (.int 2)))) (dGN 10) (dTest (dOp (dEq false) (dCall sp_l_next (dCons (dVar 0) (dCons (dC (.int 3)) dNil))) (dC (.int 0)))) (dVar 10) [10])) (dGN 5))
    (dDrop (dBM "list" mAppend (dVar 3) (dCons (dTup (dCons (dOp dIxS (dOp dIxS (dVar 1) (dC (.int 0))) (dVar 4)) (dCons (dVar 5) dNil))) dNil)))))
    (dSeq (dAsg (dLst dNil) (dGN 6))
    (dSeq (dFor (dRng1 (dCons (dCall sp_l_next (dCons (dVar 0) (dCons (dOp dMul (dC (.int 3)) (dVar 2)) dNil))) dNil)) (dGN 4)
      (dSeq (dAsg (dOp dIxS (dOp dIxS (dVar 3) (dCall sp_l_next (dCons (dVar 0) (dCons (dCB cLen (dCons (dVar 3) dNil)) dNil)))) (dC (.int 0))) (dGN 7))
    (dSeq (dAsg (dOp dIxS (dOp dIxS (dVar 1) (dC (.int 1))) (dCall sp_l_next (dCons (dVar 0) (dCons (dCB cLen (dCons (dOp dIxS (dVar 1) (dC (.int 1))) dNil)) dNil)))) (dGN 8))
    (dSeq (dAsg (dTup (dCons (dVar 7) (dCons (dVar 8) (dCons (dOp dIxS (dOp dIxS (dVar 3) (dCall sp_l_next (dCons (dVar 0) (dCons (dCB cLen (dCons (dVar 3) dNil)) dNil)))) (dC (.int 0))) dNil)))) (dGN 9))
    (dIf (dTest (dOp (dIn true) (dVar 9) (dVar 6)))
      (dDrop (dBM "list" mAppend (dVar 6) (dCons (dVar 9) dNil)))
      dNx)))))
    (dRet (dTup (dCons (dVar 3) (dCons (dVar 6) dNil))))))))
abbrev N_l_rows : List Str := ["_law_feed_here", "_law_names_here", "_law_most", "_law_knots", "_law_k", "_law_marks", "_law_ties", "_law_one", "_law_word", "_law_tie", "_law_mark"]
def t_l_web (C_Web : Addr) : DTS := (dSeq (dAsg (dMake C_Web (sp_Web_init C_Web) dNil) (dGN 1))
    (dSeq (dFor (dSeqI (dOp dIxS (dVar 0) (dC (.int 0)))) (dGTup 2 (dGCons (dGN 2) (dGCons (dGN 3) dGNil)))
      (dDrop (dMeth C_Web "put_knot" (sp_Web_put_knot C_Web) (dVar 1) (dCons (dVar 2) (dCons (dCB cListAF (dCons (dVar 3) dNil)) dNil)))))
    (dSeq (dFor (dSeqI (dOp dIxS (dVar 0) (dC (.int 1)))) (dGTup 3 (dGCons (dGN 4) (dGCons (dGN 5) (dGCons (dGN 6) dGNil))))
      (dDrop (dMeth C_Web "put_tie" (sp_Web_put_tie C_Web) (dVar 1) (dCons (dVar 4) (dCons (dVar 5) (dCons (dVar 6) dNil))))))
    (dRet (dVar 1)))))
abbrev N_l_web : List Str := ["_law_rows_here", "_law_web_here", "_law_name", "_law_marks", "_law_one", "_law_word", "_law_other"]
theorem OkWb.pre {R : Wb} (ok : OkWb R) (i j : Nat) (h : ∀ t ∈ R.ts.take j, t.1 ∈ (R.ks.take i).map (·.1) ∧ t.2.2 ∈ (R.ks.take i).map (·.1)) : OkWb ⟨R.ks.take i, R.ts.take j⟩ where
  nd := by
    have := ok.nd
    simp only [Wb.names, List.map_take] at this ⊢
    exact this.sublist (List.take_sublist _ _)
  nt := ok.nt.sublist (List.take_sublist _ _)
  tn := h
  on := fun x hx => ok.on x (by
    simp only [Wb.names, List.map_take] at hx ⊢
    exact List.mem_of_mem_take hx)
  om := fun k hk => ok.om k (List.mem_of_mem_take hk)
  ot := fun t ht => ok.ot t (List.mem_of_mem_take ht)
  lk := by have := ok.lk; simp; omega
  lt := by have := ok.lt; simp; omega
section
variable {C : Addr}
end
end Sh
set_option maxRecDepth 100000
set_option maxHeartbeats 4000000
namespace Sh
open PySem PySem.Spec L2 Dt Sh
section
variable (C : Addr)
def sp_Web_take_tie : DSp := fun ds S Q _ => ∃ (w : Addr) (W : Wb) (F : List Addr) (t : T3), ds = [.ref w, .str t.1, .str t.2.1, .str t.2.2] ∧ WebAt C S w W F ∧ t ∈ W.ts ∧ ∀ S', WebAt C S' w (W.cut t) F → Fr S F S' F → Q .non S'
/-- rows as web_of takes them -/
def rowT (W : Wb) : D := .tup [.tup (W.ks.map fun k => .tup [.str k.1, .tup (strsD k.2)]), .tup (W.ts.map triD)]
def sp_web_of : DSp := fun ds S Q _ => ∃ W : Wb, ds = [rowT W] ∧ OkWb W ∧ ∀ w S' F, WebAt C S' w W F → Fr S [] S' F → Q (.ref w) S'
end
def t_Web_take_tie (C_Web : Addr) : DTS := (dSeq (dDrop (dMeth C_Web "ask_knot" (sp_Web_ask_knot C_Web) (dVar 0) (dCons (dVar 1) dNil)))
    (dSeq (dDrop (dMeth C_Web "ask_knot" (sp_Web_ask_knot C_Web) (dVar 0) (dCons (dVar 3) dNil)))
    (dSeq (dIf (dNot (dTest (dMeth C_Web "has_tie" (sp_Web_has_tie C_Web) (dVar 0) (dCons (dVar 1) (dCons (dVar 2) (dCons (dVar 3) dNil))))))
      dNever
      dNx)
    (dDrop (dMeth C_Web "cut_tie" (sp_Web_cut_tie C_Web) (dVar 0) (dCons (dTup (dCons (dVar 1) (dCons (dVar 2) (dCons (dVar 3) dNil)))) dNil))))))
abbrev N_Web_take_tie : List Str := ["self", "one", "word", "other"]
def t_web_of (C_Web : Addr) : DTS := (dSeq (dAsg (dMake C_Web (sp_Web_init C_Web) dNil) (dGN 1))
    (dSeq (dFor (dSeqI (dOp dIxS (dVar 0) (dC (.int 0)))) (dGTup 2 (dGCons (dGN 2) (dGCons (dGN 3) dGNil)))
      (dDrop (dMeth C_Web "lay_knot" (sp_Web_lay_knot C_Web) (dVar 1) (dCons (dVar 2) (dCons (dVar 3) dNil)))))
    (dSeq (dFor (dSeqI (dOp dIxS (dVar 0) (dC (.int 1)))) (dGN 4)
      (dDrop (dMeth C_Web "lay_tie" (sp_Web_lay_tie C_Web) (dVar 1) (dCons (dVar 4) dNil))))
    (dRet (dVar 1)))))
abbrev N_web_of : List Str := ["rows", "web", "name", "marks", "tie"]
section
variable {C : Addr}
end
end Sh
set_option maxRecDepth 100000
set_option maxHeartbeats 4000000
namespace Sh
open PySem PySem.Spec L2 Dt Sh
/-! a web of its own -/
def sortStr (xs : List Str) : List Str := (sortS xs).map fun d => match d with | .str s => s | _ => ""
/-- W2 has the rows of W -/
structure Alike (W W2 : Wb) : Prop where
  names : W2.names.Perm W.names
  ties : W2.ts.Perm W.ts
  rows : RowsOf W (rowT W2)
  ok : OkWb W2
section
variable (C : Addr)
def sp_Web_like : DSp := fun ds S Q _ => ∃ (w : Addr) (W : Wb) (F : List Addr), ds = [.ref w] ∧ WebAt C S w W F ∧ ∀ w2 W2 S' F2, WebAt C S' w2 W2 F2 → Alike W W2 → Fr S [] S' F2 → Q (.ref w2) S'
end
def t_Web_like (C_Web : Addr) : DTS := (dRet (dCall (sp_web_of C_Web) (dCons (dMeth C_Web "rows" (sp_Web_rows C_Web) (dVar 0) dNil) dNil)))
abbrev N_Web_like : List Str := ["self"]
section
variable {C : Addr}
end
end Sh
set_option maxRecDepth 100000
set_option maxHeartbeats 4000000
namespace Sh
open PySem PySem.Spec L2 Dt Sh
/-! a knot fewer -/
def Wb.cuts (W : Wb) : List T3 → Wb
  | [] => W
  | t :: L => (W.cut t).cuts L
def Wb.dropK (W : Wb) (x : Str) : Wb := ⟨W.ks.filter fun k => decide (k.1 ≠ x), W.ts.filter fun t => !atKnot x t⟩
section
variable (C : Addr)
def sp_Web_take_knot : DSp := fun ds S Q _ => ∃ (w : Addr) (W : Wb) (F : List Addr) (x : Str), ds = [.ref w, .str x] ∧ WebAt C S w W F ∧ x ∈ W.names ∧ ∀ S' F', WebAt C S' w (W.dropK x) F' → Fr S F S' F' → Q .non S'
end
def t_Web_take_knot (C_Web : Addr) : DTS := (dSeq (dDrop (dMeth C_Web "ask_knot" (sp_Web_ask_knot C_Web) (dVar 0) (dCons (dVar 1) dNil)))
    (dSeq (dFor (dSeqI (dMeth C_Web "ties_at" (sp_Web_ties_at C_Web) (dVar 0) (dCons (dVar 1) dNil))) (dGN 2)
      (dDrop (dMeth C_Web "cut_tie" (sp_Web_cut_tie C_Web) (dVar 0) (dCons (dVar 2) dNil))))
    (dSeq (dDrop (dBM "dict" mDPop (dFld C_Web "web_marks" (dVar 0)) (dCons (dVar 1) dNil)))
    (dDrop (dBM "dict" mDPop (dFld C_Web "web_steps" (dVar 0)) (dCons (dVar 1) dNil))))))
abbrev N_Web_take_knot : List Str := ["self", "name", "tie"]
section
variable {C : Addr}
theorem OkWb.dropK {W : Wb} (h : OkWb W) (x : Str) : OkWb (W.dropK x) := by
  have en : (W.dropK x).names = W.names.filter fun n => decide (n ≠ x) := by
    simp only [Wb.names, Wb.dropK, List.filter_map]
    rfl
  refine ⟨by rw [en]; exact h.nd.sublist List.filter_sublist, h.nt.sublist List.filter_sublist, fun t ht => ?_, fun n hn => h.on n (by rw [en] at hn; exact (List.mem_filter.mp hn).1), fun k hk => h.om k (List.mem_filter.mp hk).1, fun t ht => h.ot t (List.mem_filter.mp ht).1, Nat.le_trans (List.length_filter_le _ _) h.lk, Nat.le_trans (List.length_filter_le _ _) h.lt⟩
  obtain ⟨h1, h2⟩ := List.mem_filter.mp ht
  have := h.tn t h1
  rw [en]
  simp [atKnot] at h2
  exact ⟨List.mem_filter.mpr ⟨this.1, by simpa using fun e => h2.1 e.symm⟩, List.mem_filter.mpr ⟨this.2, by simpa using fun e => h2.2 e.symm⟩⟩
end
end Sh
set_option maxRecDepth 100000
set_option maxHeartbeats 4000000
/-! DatE: exceptions: made, raised, caught, asked. -/
namespace Dt
open PySem PySem.Spec L2 PyProof.Rows
/-! ### an exception that is being made -/
/-- the base's __init__ is ValueError's -/
structure BaseI (K : PySem.W.Frag) (B : Addr) : Prop where
  rd : PySem.W.readsIn K B (.type "type") = true
  ga : PySem.W.specialIn K (.ref B) "__getattribute__" = some (some (.builtin "type.__getattribute__"))
  ini : PySem.W.findCls K (.ref B) (.type "type") "__init__" = some (.val (.builtin "ValueError.__init__"))
/-- B.__init__(self, ..) -/
@[simp] def dVeI (C : Addr) (t : DTA) : DTE := fun E τ S Q => t E τ S fun ds S1 => match ds with
  | .ref a :: ws => ws.length ≤ 1000 ∧ S1 a = some (.ex0 C) ∧ Q .non S1
  | _ => False
/-- self.f = e -/
def dPutXK (C : Addr) (f : Str) (y : D) (N : DH → Prop) : D → DH → Prop := fun d S2 => match d with
  | .ref a => (match S2 a with
    | some (.ex0 C') => C' = C ∧ newO S2 (.xm [(f, y)]) fun dx S3 => N (upo S3 a (.ex1 C dx))
    | some (.ex1 C' dx) => C' = C ∧ (match S2 dx with | some (.xm fs) => fs.length ≤ 900 ∧ N (upo S2 dx (.xm ((f, y) :: fs))) | _ => False)
    | _ => False)
  | _ => False
@[simp] def dPutX (C : Addr) (f : Str) (to te : DTE) : DTS := fun A τ S => te A.xe τ S fun y S1 => to A.xe τ S1 (dPutXK C f y (A.nx τ))
theorem dPutXK_mono {C : Addr} {f : Str} {y : D} {N N' : DH → Prop} (k : ∀ S', N S' → N' S') (d : D) (S : DH) (h : dPutXK C f y N d S) : dPutXK C f y N' d S := by
  unfold dPutXK at h ⊢
  cases d with
  | ref a =>
    simp only at h ⊢
    split at h
    · exact ⟨h.1, fun p hp => k _ (h.2 p hp)⟩
    · refine ⟨h.1, ?_⟩
      have h2 := h.2
      split at h2
      · exact ⟨h2.1, k _ h2.2⟩
      · exact h2.elim
    · exact h.elim
  | _ => exact h
section
variable {X : Cx} {B C : Addr} {o e : Expr} {es : List Expr} {x f : Str} {t : DTA} {to te : DTE} {p p' p1 p2 pos : Pos}
theorem de_veinit {pl : Sem Bool} (b : BaseI X.K B) (T : OexC X.K C) (hg : Gl X x) (hm : X.mg x = some (.ref B)) (ha : DA X (e :: es) t) (hdb : (x == ("__debug__" : Str)) = false := by decide)
    (hc : eval (.Call (.Attribute (.Name x p1) "__init__" p2) (e :: es) [] pos) X.env = (do let ov ← eval (.Name x p1) X.env; standAt p2.atName; let (f, first) ← holding [ov] (getMethod ov "__init__" pl); callWith pos f first (backTo pos (starEach (e :: es) X.env)) (backToKw pos (keywordEach [] X.env))) := by rfl)
    (he : starEach (e :: es) X.env = (false, eval e X.env) :: starEach es X.env := by rfl) (hpl : (backTo pos (starEach es X.env)).any (·.1) = false := by rfl) :
    DE X (.Call (.Attribute (.Name x p1) "__init__" p2) (e :: es) [] pos) (dVeI C t) := by
  refine ⟨fun E E' τ S Q Q' hE k q => ha.mono _ _ _ _ _ _ hE (fun ds S1 z => ?_) q, ⟨fun pins s σ H Q I ⟨E, τ, S, w, r, q⟩ => ?_⟩⟩
  · match ds, z with
    | .ref a :: ws, z => exact ⟨z.1, z.2.1, k _ _ z.2.2⟩
  refine PySem.W.methodCall_KW (ld_glob I hg hm ?_ hdb) hc
  refine PySem.W.method_cls I.kIn b.ga (PySem.W.cls_value I.kIn b.rd b.ini (by decide +kernel) ?_)
  show wpAny _ _ (callWith pos (Value.builtin "ValueError.__init__") [] (backTo pos (starEach (e :: es) X.env)) []) _ _ _
  refine PyProof.Rows.callWith_method1 (thn (ha.run.run pos pins _ σ H _ (I.tok _) (ha.to w r q fun ds S1 vs H1 le1 w1 r1 rd1 z => (⟨ds, S1, le1, r1.rep, rd1, z⟩ : ∃ ds S1, LeH H H1 ∧ Rep X.w X.K S1 H1 ∧ RDs X.K H1 ds vs ∧ match ds with
    | .ref a :: ws => ws.length ≤ 1000 ∧ S1 a = some (.ex0 C) ∧ ∀ v H', LeH H H' → Rep X.w X.K S1 H' → RD X.K H' .non v → Q v H'
    | _ => False))) fun us s1 ⟨vs, H1, I1, rv, ds, S1, le1, rp1, rd1, z⟩ => ?_) he hpl
  match ds, z, rd1 with
  | .ref a :: ws, ⟨hl, ea, q⟩, rd1 =>
    obtain ⟨v, vr, rfl, r0, r2⟩ := rd1
    obtain rfl : v = V.ref a := r0
    cases rv with
    | @cons _ u0 _ ur ra rw' =>
      obtain rfl : u0 = Value.ref a := ra
      have hlen : ur.length ≤ sizeLine := by
        rw [← Paired.length rw', ← r2.length, sizeLine_eq]
        omega
      exact oinit_ok T I1 (rp1 a _ ea) hlen fun s' J => ⟨.non, H1, J, rfl, q _ H1 le1 rp1 rfl⟩
theorem ex_le {H : Hp} {a : Addr} {φ : Heap → Prop} {o : HO} (h : H a = some (.ext φ)) : LeH H (upd H a o) := LeH.put h trivial
theorem ds_oput (T : OexC X.K C) (no : NoAttr X.K C f) (ho : DE X o to) (he : DE X e te) (hs : swapsWith e (some (.Attribute o f p')) pos.line X.env = pure false := by rfl) : DS X (.Assign [.Attribute o f p'] e pos) (dPutX C f to te) := by
  refine ⟨fun A A' τ S le q => he.mono _ _ _ _ _ _ le.xe (fun y S1 z => ho.mono _ _ _ _ _ _ le.xe (dPutXK_mono fun S' => le.nx _ _) z) q, pS_imp (ps_ost ho.run he.run hs) fun D σ H ⟨E, τ, S, w, r, q⟩ => ?_⟩
  refine he.to w r q fun y S1 u H1 le1 w1 r1 rd1 z0 => ?_
  refine ho.to w1 r1 z0 fun d S2 v H2 le2 w2 r2 rd2 z => ?_
  clear z0
  unfold dPutXK at z
  cases d with
  | ref a =>
    obtain rfl : v = V.ref a := rd2
    simp only at z
    split at z
    · rename_i C' ea
      obtain ⟨rfl, z⟩ := z
      have eh : H2 a = some (exo a C' none) := r2.rep a _ ea
      refine ⟨a, C', rfl, T, no, .inl ⟨eh, fun dx hd ne => ?_⟩⟩
      have l1 : LeH H2 (upd H2 dx (exd dx [(f, u)])) := LeH.new hd
      have ea1 : upd H2 dx (exd dx [(f, u)]) a = some (exo a C' none) := by rw [upd_ne ne.symm]; exact eh
      have l2 := ex_le (o := exo a C' (some dx)) ea1
      have lu := (le2.trans l1).trans l2
      have rp : Rep X.w X.K (upo S2 dx (.xm [(f, y)])) (upd H2 dx (exd dx [(f, u)])) := r2.rep.new hd ⟨[(f, u)], upd_same, u, [], rfl, rd1.le (le2.trans l1), rfl⟩
      exact z dx (r2.rep.free hd) _ _ (le1.trans lu) ⟨r2.st.le (l1.trans l2), rp.put ea1 trivial upd_same⟩
    · rename_i C' dx ea
      obtain ⟨rfl, z⟩ := z
      have eh : H2 a = some (exo a C' (some dx)) := r2.rep a _ ea
      split at z
      · rename_i fs ed
        obtain ⟨ws, ed2, rk⟩ : ∃ ws, H2 dx = some (exd dx ws) ∧ RKs X.K H2 fs ws := r2.rep dx _ ed
        have l1 := ex_le (o := exd dx ((f, u) :: ws)) ed2
        refine ⟨a, C', rfl, T, no, .inr ⟨dx, ws, eh, ed2, by rw [← rk.length]; exact z.1, ?_⟩⟩
        exact z.2 _ _ (le1.trans (le2.trans l1)) ⟨r2.st.le l1, r2.rep.put ed2 trivial ⟨(f, u) :: ws, upd_same, u, ws, rfl, rd1.le (le2.trans l1), rk.le l1⟩⟩
      · exact z.elim
    · exact z.elim
  | _ => exact z.elim
end
/-! ### C(..), an exception -/
section
variable {X : Cx} {pins : List (Addr × Obj)} {σ : L2.St}
/-- the end of its making: its object is let go, its dict stands as a dict of fields -/
theorem mkx_end {H1 H2 : Hp} {hp hp2 h2 : Heap} {g1 g2 : Array GenState} {d1 d2 : Drawn} {t1 t2 : Nat} {os1 os2 : OsState} {a C d : Addr} {fs : List (Str × V)} (I1 : Inv X pins σ H1 ⟨hp, g1, d1, t1, os1⟩) (ha : hp.objs.size ≤ a)
    (k : ∀ b o, hp.get? b = some o → hp2.get? b = some o) (un : Un (frs X.stack) [] (upd H1 a (exo a C none)) H2 hp2 h2) (hok : HOk X.prog X.w H2 h2) (ho : os2 = os1) (hb : AllBare g2) (ea : H2 a = some (exo a C (some d))) (ed : H2 d = some (exd d fs)) :
    ∃ (t0 : Addr) (G : Heap), Inv X pins σ (upd (del H2 a) d (.xd fs)) ⟨G, g2, d2, t2, os2⟩ ∧ (∀ b o, G.get? b = some o → h2.get? b = some o) ∧ G.get? a = none ∧ d ≠ a ∧
      h2.get? a = some ({ cls := .ref C, dict := some d, data := .fields #[.ref t0, .none, .none, .none, .bool false, .none] } : Obj) ∧ (upd (del H2 a) d (.xd fs)) a = none := by
  obtain ⟨t0, oa⟩ := exo_at hok ea
  obtain ⟨mA, od, rel⟩ := exd_at hok ed
  have an : H1 a = none := I1.hok.fresh ha
  have da : d ≠ a := fun z => by
    obtain ⟨o, es, ep, e1, e2, _⟩ := od
    rw [z, oa] at e1
    cases Option.some.inj e1
    cases e2
  obtain ⟨G, gy, gn⟩ := restrict h2 fun b => decide (b ≠ a)
  have same : ∀ b, b ≠ a → G.get? b = h2.get? b := fun b z => gy b (decide_eq_true z)
  have Ga : G.get? a = none := gn a (by simp)
  have old : ∀ {b : Addr} {o : Obj}, hp.get? b = some o → b ≠ a := fun z => Nat.ne_of_lt (Nat.lt_of_lt_of_le (Heap.lt_size z) ha)
  have low : ∀ {b : Addr}, b ≠ a → H1 b = none → upd H1 a (exo a C none) b = none := fun z n => by rw [upd_ne z]; exact n
  have nod : ∀ {b : Addr} {o : Obj}, hp.get? b = some o → H1 b = none → b ≠ d := fun {b o} z n e => by
    have y := un.free b o (k b o z) (low (old z) n) (by simp)
    rw [e, ed] at y
    cases y
  have U : Un (frs X.stack) [] H1 (upd (del H2 a) d (.xd fs)) hp G := by
    refine ⟨fun b o z n hf hx => ?_, fun b o z n hf hx => ?_, fun b o z n hx => ?_, fun b o z hx => ?_, fun b xs z => ?_, fun b o v z => ?_, fun b ps z => ?_⟩
    · rw [same b (old z)]; exact un.keep b o (k b o z) (low (old z) n) hf hx
    · rw [same b (old z)]; exact un.slot b o (k b o z) (low (old z) n) hf hx
    · rw [upd_ne (nod z n), del_ne (old z)]; exact un.free b o (k b o z) (low (old z) n) hx
    · rw [same b (old z)]; exact un.there b o (k b o z) hx
    · have ba := ne_of_none z an
      have y := un.tups b xs (by rw [upd_ne ba]; exact z)
      rw [upd_ne (at_ne ed y exd_tup), del_ne ba]; exact y
    · have ba := ne_of_none z an
      have y := un.frzs b o v (by rw [upd_ne ba]; exact z)
      rw [upd_ne (at_ne ed y fun q => nomatch q), del_ne ba]; exact y
    · have ba := ne_of_none z an
      obtain ⟨m, y⟩ := un.tbls b ps (by rw [upd_ne ba]; exact z)
      exact ⟨m, by rw [upd_ne (at_ne ed y fun q => nomatch q), del_ne ba]; exact y⟩
  have hok3 : HOk X.prog X.w (upd (del H2 a) d (.xd fs)) G := fun b o z => by
    by_cases bd : b = d
    · subst bd
      rw [upd_same] at z
      cases z
      exact ⟨mA, od.at fun o y => (same b da).trans y, rel⟩
    · rw [upd_ne bd] at z
      have ba : b ≠ a := fun e => by
        rw [e, del_same] at z
        cases z
      rw [del_ne ba] at z
      have own : ∀ {c : Addr}, H2 c = some (.own b) → c ≠ a := fun hc => at_ne ea hc exo_own
      refine (hok b o z).stay (fun c v hc y => ?_) (fun c hc => ?_) fun c xs hc => ?_
      · have ca : c ≠ a := hc.elim (fun q => by rw [q]; exact ba) own
        rw [same c ca]; exact y
      · rw [upd_ne (at_ne ed hc exd_own), del_ne (own hc)]; exact hc
      · rw [upd_ne (at_ne ed hc exd_tup), del_ne (at_ne ea hc exo_tup)]; exact hc
  refine ⟨t0, G, I1.call' (ch := []) ho U hok3 hb (fun b z => absurd z (by simp)), fun b o z => ?_, Ga, da, oa, by rw [upd_ne da.symm, del_same]⟩
  by_cases ba : b = a
  · rw [ba, Ga] at z; cases z
  · exact (same b ba).symm.trans z
/-- what is kept where a dict of fields stands in the place of the exception -/
theorem mkx_le {H2 : Hp} {a C d : Addr} {fs : List (Str × V)} (ea : H2 a = some (exo a C (some d))) (ed : H2 d = some (exd d fs)) : LeH H2 (upd (del H2 a) d (.xd fs)) :=
  ⟨fun b xs z => by rw [upd_ne (at_ne ed z exd_tup), del_ne (at_ne ea z exo_tup)]; exact z, fun b o u z => by rw [upd_ne (at_ne ed z fun q => nomatch q), del_ne (at_ne ea z fun q => nomatch q)]; exact z⟩
theorem mkx_rep {w : World} {K : PySem.W.Frag} {S : DH} {H2 : Hp} {a C d : Addr} {fs : List (Str × V)} (r : Rep w K S H2) (ea : H2 a = some (exo a C (some d))) (ed : H2 d = some (exd d fs)) : Rep w K (delo (delo S a) d) (upd (del H2 a) d (.xd fs)) := fun b o e => by
  simp only [delo] at e
  split at e
  · cases e
  · rename_i bd
    split at e
    · cases e
    · rename_i ba
      exact (r b o e).at (mkx_le ea ed) (by rw [upd_ne bd, del_ne ba])
variable {k : Nat} {fI C : Addr} {fd : FuncData} {ps : List Str} {sp : DSp} {s : Shared}
/-- C(..): what it leaves, from the promise of C's __init__ -/
theorem run_dmkx {us : List Value} {vs : List V} {ds : List D} {S : DH} {H : Hp} {Q : Addr → Addr → List (Str × D) → DH → Prop} {R : Value → Shared → Prop} (T : OexC X.K C) (iC : PySem.W.findIn X.K (.ref C) "__init__" = some (some (.ref fI))) (tI : PySem.W.typeIn X.K (.ref fI) = some (.type "function"))
    (F : DFn X.prog X.w X.K X.mg X.base k fI fd ps sp) (hr : Room (k + 1) X.A) (gu : X.A.guards = some []) (hb : Binds X.K fd ps []) (I : Inv X pins σ H s) (rp : Rep X.w X.K S H) (r : Vals vs us) (rd : RDs X.K H ds vs) (hl : ds.length ≤ 1000)
    (h : ∀ a, S a = none → sp (.ref a :: ds) (upo S a (.ex0 C)) (fun d S' => d = .non ∧ ∃ dx fs, dx ≠ a ∧ S' a = some (.ex1 C dx) ∧ S' dx = some (.xm fs) ∧ Q a dx fs (delo (delo S' a) dx)) fun _ _ _ => False)
    (kR : ∀ a dx fs ws t0 S' H3 sI s', Inv X pins σ H3 sI → LeH H H3 → Rep X.w X.K S' H3 → Q a dx fs S' → H3 dx = some (.xd ws) → RKs X.K H3 fs ws → S' dx = none → (∀ b o, sI.heap.get? b = some o → s'.heap.get? b = some o) → sI.heap.get? a = none → dx ≠ a →
      s'.heap.get? a = some ({ cls := .ref C, dict := some dx, data := .fields #[.ref t0, .none, .none, .none, .bool false, .none] } : Obj) → H3 a = none → s'.os = sI.os → AllBare s'.gens → sI.gens = s'.gens → sI.drawn = s'.drawn → R (.ref a) s') :
    wpAny (model X.prog X.w) X.A (call (.ref C) us) R X.xe s := by
  obtain ⟨nm, q, N, bs, bm, sn, sub, ab, col, dd, k0, k1, k2, k3, k5, hC, hbm⟩ := T.cls
  obtain ⟨hp, g, dr, tk, os⟩ := s
  have hsz : hp.objs.size ≤ hp.objs.size + 1 := Nat.le_succ _
  have hn : H (hp.objs.size + 1) = none := I.hok.fresh hsz
  have hq := h (hp.objs.size + 1) (rp.free hn)
  have up : ∀ b o, hp.get? b = some o → ((hp.push (PySem.W.kdv_tup us)).push (PySem.HandSPX.excO C hp.objs.size)).get? b = some o := fun b o e => Heap.get?_push_of_some _ (Heap.get?_push_of_some _ e)
  have got : ((hp.push (PySem.W.kdv_tup us)).push (PySem.HandSPX.excO C hp.objs.size)).get? (hp.objs.size + 1) = some (PySem.HandSPX.excO C hp.objs.size) := by heap_get
  have I2 : Inv X pins σ (upd H (hp.objs.size + 1) (exo (hp.objs.size + 1) C none)) ⟨(hp.push (PySem.W.kdv_tup us)).push (PySem.HandSPX.excO C hp.objs.size), g, dr, tk, os⟩ :=
    I.laid (t' := tk) (h' := (hp.push (PySem.W.kdv_tup us)).push (PySem.HandSPX.excO C hp.objs.size)) up hsz (exo_ok got)
  have le1 : LeH H (upd H (hp.objs.size + 1) (exo (hp.objs.size + 1) C none)) := LeH.new hn
  have rp2 : Rep X.w X.K (upo S (hp.objs.size + 1) (.ex0 C)) (upd H (hp.objs.size + 1) (exo (hp.objs.size + 1) C none)) := rp.new hn upd_same
  have rds2 : RDs X.K (upd H (hp.objs.size + 1) (exo (hp.objs.size + 1) C none)) (.ref (hp.objs.size + 1) :: ds) (V.ref (hp.objs.size + 1) :: vs) := RDs.cons (d := .ref _) rfl (rd.le le1)
  have r2 : Vals (V.ref (hp.objs.size + 1) :: vs) (Value.ref (hp.objs.size + 1) :: us) := .cons rfl r
  have hl2 : ((Value.ref (hp.objs.size + 1) :: us) ++ []).length = ps.length := by
    rw [List.append_nil, ← r2.length, ← rds2.length]
    exact F.len _ _ _ _ hq
  have hbd := hb _ (Value.ref (hp.objs.size + 1) :: us) I2.kIn hl2
  rw [List.append_nil] at hbd
  have hus : us.length ≤ sizeLine := by
    rw [← Paired.length r, ← rd.length, sizeLine_eq]
    omega
  refine wpAny_call (PySem.HandSPX.call_own PySem.F.excBase_ValueError (fun Y => PySem.HandSPX.refsVE_contains Y bm hbm) (I.kIn _ _ hC) (PySem.W.looks_findIn I.kIn iC) (fun self => PySem.W.bind_fn I.kIn self tI) hus
    (codeAny_mono (F.run _ X.stack _ _ ⟨Value.ref (hp.objs.size + 1) :: us, []⟩ (Value.ref (hp.objs.size + 1) :: us) _
      (fun v H2 => v = .non ∧ ∃ dx fs ws S', dx ≠ hp.objs.size + 1 ∧ LeH H H2 ∧ Rep X.w X.K S' H2 ∧ H2 (hp.objs.size + 1) = some (exo (hp.objs.size + 1) C (some dx)) ∧ H2 dx = some (exd dx ws) ∧ RKs X.K H2 fs ws ∧ Q (hp.objs.size + 1) dx fs (delo (delo S' (hp.objs.size + 1)) dx)) (fun _ _ _ => False)
      (hr.make C us []) (guards_make gu) (I2.env0.make C us []) hbd r2 ⟨_, _, rp2, rds2, F.mono _ _ _ _ _ _ (fun d S' q v H' le rp' rv => ?_) (fun _ _ _ z => z.elim) hq⟩) fun r s' hq' => ?_))
  · obtain ⟨rfl, dx, fs, ne, e1, e2, q⟩ := q
    obtain ⟨ws, e3, rk⟩ : ∃ ws, H' dx = some (exd dx ws) ∧ RKs X.K H' fs ws := rp' dx _ e2
    exact ⟨rv, dx, fs, ws, S', ne, le1.trans le, rp', rp' _ _ e1, e3, rk, q⟩
  · cases r with
    | error er =>
      obtain ⟨_, _, _, _, _, _, _, _, _, _, _, _, z⟩ := hq'
      exact z.elim
    | ok fl =>
      cases fl with
      | ret u =>
        obtain ⟨v, H2, os2, bare2, un2, hok2, rv, ev, dx, fs, ws, S', ne, le, rp', ea, ed, rk, q⟩ := hq'
        subst ev
        obtain ⟨h2, g2, d2, t2, os'⟩ := s'
        obtain ⟨t0, G, J, kG, ge, da, oa, na⟩ := mkx_end (d2 := d2) (t2 := t2) I hsz up un2 hok2 os2 bare2 ea ed
        have l3 := mkx_le ea ed
        exact ⟨rv, kR _ dx fs ws t0 _ _ _ _ J (le.trans l3) (mkx_rep rp' ea ed) q upd_same (rk.le l3) (by simp [delo]) kG ge da oa na rfl bare2 rfl rfl⟩
      | next => exact False.elim hq'
      | brk => exact False.elim hq'
      | cont => exact False.elim hq'
end
/-! ### what is known of such a class -/
def xfactB (K : PySem.W.Frag) (C fI : Addr) (fl : List Str) : Bool :=
  decide (PySem.W.findIn K (.ref C) "__setattr__" = some (some (.builtin "object.__setattr__"))) && (decide (PySem.W.subIn K (.ref C) (.type "BaseException") = some true) && (decide (PySem.W.typeIn K (.ref C) = some (.type "type")) && (PySem.W.keepIn K (.ref C) &&
  (decide (PySem.W.findIn K (.ref C) "__init__" = some (some (.ref fI))) && (decide (PySem.W.typeIn K (.ref fI) = some (.type "function")) && (decide (PySem.W.findIn K (.ref C) "__getattribute__" = some (some (.builtin "BaseException.__getattribute__"))) && (decide (PySem.W.findIn K (.ref C) "__getattr__" = some none) &&
  (PySem.W.hasDictIn K C && (decide (PySem.W.findIn K (.ref C) "__class__" = some (some (.builtin "object.__class__"))) && (decide (PySem.W.specialIn K (.builtin "object.__class__") "__get__" = some (some (.builtin "getset_descriptor.__get__"))) && (decide (PySem.W.takesIn K (.builtin "object.__class__") = some true) &&
  (decide (PySem.W.mroIn K C (.type "object") = some true) && fl.all fun f => decide (PySem.W.findIn K (.ref C) f = some none)))))))))))))
/-- an own class of exceptions: fI its __init__, fl its fields -/
structure ExT (K : PySem.W.Frag) (C fI : Addr) (fl : List Str) : Prop where
  oc : OexC K C
  ini : PySem.W.findIn K (.ref C) "__init__" = some (some (.ref fI))
  ty : PySem.W.typeIn K (.ref fI) = some (.type "function")
  xf : XfC K C
  ec : ExcC K C
  no : ∀ f ∈ fl, NoAttr K C f
theorem ext_of {K : PySem.W.Frag} {C fI : Addr} {fl : List Str} {nm q : Str} {N : Addr} {bs bm : List Value} {sn : List Str} {sub : List Value} {ab : Bool} {col : Option Bool} {dd : Option Addr} {k0 k1 k2 k3 k5 : Option Value}
    (l : K.lookup C = some (excClassObj nm q C N bs bm true sn sub ab col dd k0 k1 k2 k3 k5 "ValueError.__new__")) (r : PySem.HandSPX.refsVE bm = true) (h : xfactB K C fI fl = true) : ExT K C fI fl := by
  simp only [xfactB, Bool.and_eq_true, decide_eq_true_eq, List.all_eq_true] at h
  obtain ⟨h1, h2, h3, h4, h5, h6, h7, h8, h9, h10, h11, h12, h13, h14⟩ := h
  exact ⟨⟨⟨nm, q, N, bs, bm, sn, sub, ab, col, dd, k0, k1, k2, k3, k5, l, r⟩, h1, h2, h3, h4⟩, h5, h6, ⟨h7, h8, h2, h9⟩, ⟨h7, h8, h2, h9, h10, h11, h12, h13⟩, h14⟩
def basefB (K : PySem.W.Frag) (B : Addr) : Bool := PySem.W.readsIn K B (.type "type") && (decide (PySem.W.specialIn K (.ref B) "__getattribute__" = some (some (.builtin "type.__getattribute__"))) && decide (PySem.W.findIn K (.ref B) "__init__" = some (some (.builtin "ValueError.__init__"))))
/-- isinstance of such exceptions: the answers by their class -/
def kitfB (K : PySem.W.Frag) (c : Value) (subs : List (Addr × Bool)) : Bool := subs.all fun p => decide (PySem.W.kitOne K (.ref p.1) c = some p.2)
theorem kitf_of {K : PySem.W.Frag} {c : Value} {subs : List (Addr × Bool)} (h : kitfB K c subs = true) : ∀ p ∈ subs, PySem.W.kitOne K (.ref p.1) c = some p.2 := fun p hp => of_decide_eq_true (List.all_eq_true.mp h p hp)
def kitsB (K : PySem.W.Frag) (cs : List Value) (subs : List (Addr × Bool)) : Bool := subs.all fun p => decide (PySem.W.kitAny K (.ref p.1) cs = some p.2)
/-- except c: the answers by their class -/
def exmfB (K : PySem.W.Frag) (c : Value) (subs : List (Addr × Bool)) : Bool := subs.all fun p => decide (PySem.W.exmOne K (.ref p.1) c = some p.2)
theorem exmf_of {K : PySem.W.Frag} {c : Value} {subs : List (Addr × Bool)} (h : exmfB K c subs = true) : ∀ p ∈ subs, PySem.W.exmOne K (.ref p.1) c = some p.2 := fun p hp => of_decide_eq_true (List.all_eq_true.mp h p hp)

/-! ### raise C(..), C(..) as a value -/
@[simp] def dRaise (C : Addr) (sp : DSp) (t : DTA) : DTS := fun A τ S => t A.xe τ S fun ds S1 => ds.length ≤ 1000 ∧ ∀ a, S1 a = none → sp (.ref a :: ds) (upo S1 a (.ex0 C))
  (fun d S' => d = .non ∧ ∃ dx fs, dx ≠ a ∧ S' a = some (.ex1 C dx) ∧ S' dx = some (.xm fs) ∧ A.xe C fs τ (delo (delo S' a) dx)) fun _ _ _ => False
@[simp] def dMakeX (C : Addr) (sp : DSp) (t : DTA) : DTE := fun E τ S Q => t E τ S fun ds S1 => ds.length ≤ 1000 ∧ ∀ a, S1 a = none → sp (.ref a :: ds) (upo S1 a (.ex0 C))
  (fun d S' => d = .non ∧ ∃ dx fs, dx ≠ a ∧ S' a = some (.ex1 C dx) ∧ S' dx = some (.xm fs) ∧ Q (.ref a) (upo (upo (delo (delo S' a) dx) dx (.xd fs)) a (.exc C dx))) fun _ _ _ => False
section
variable {X : Cx} {k : Nat} {fI C : Addr} {fd : FuncData} {ps fl : List Str} {sp : DSp} {x : Str} {e : Expr} {es : List Expr} {t : DTA} {p pos pos' : Pos}
theorem pmk_dx (T : ExT X.K C fI fl) (F : DFn X.prog X.w X.K X.mg X.base k fI fd ps sp) (hr : Room (k + 1) X.A) (gu : X.A.guards = some []) (hb : Binds X.K fd ps []) (hg : Gl X x) (hm : X.mg x = some (.ref C)) (ha : DA X (e :: es) t)
    (hdb : (x == ("__debug__" : Str)) = false := by decide) (he : starEach (e :: es) X.env = (false, eval e X.env) :: starEach es X.env := by rfl) (hpl : (backTo pos (starEach es X.env)).any (·.1) = false := by rfl) :
    PMk X (.Call (.Name x p) (e :: es) [] pos) (fun σ H Q => ∃ E τ S, Wish X E H ∧ Rel X.w X.K τ S σ H ∧ t E τ S fun ds S1 => ds.length ≤ 1000 ∧ ∀ a, S1 a = none → sp (.ref a :: ds) (upo S1 a (.ex0 C))
      (fun d S' => d = .non ∧ ∃ dx fs, dx ≠ a ∧ S' a = some (.ex1 C dx) ∧ S' dx = some (.xm fs) ∧ ∀ ws H', LeH H H' → Rep X.w X.K (delo (delo S' a) dx) H' → H' dx = some (.xd ws) → RKs X.K H' fs ws → delo (delo S' a) dx dx = none → Q (.ref C) (some dx) H') fun _ _ _ => False) := by
  intro pins s σ H Q I ⟨E, τ, S, w, r, q⟩
  refine wpAny_Call_Name_kw (ld_glob I hg hm ?_ hdb)
  refine PySem.W.callWith_K (h₀ := X.base) I.ok.mod.kin T.oc.kC (thn (ha.run.run pos pins s σ H _ I (ha.to w r q fun ds S1 vs H1 le1 w1 r1 rd1 z => (⟨ds, S1, le1, r1.rep, rd1, z⟩ : ∃ ds S1, LeH H H1 ∧ Rep X.w X.K S1 H1 ∧ RDs X.K H1 ds vs ∧ ds.length ≤ 1000 ∧ ∀ a, S1 a = none → sp (.ref a :: ds) (upo S1 a (.ex0 C))
      (fun d S' => d = .non ∧ ∃ dx fs, dx ≠ a ∧ S' a = some (.ex1 C dx) ∧ S' dx = some (.xm fs) ∧ ∀ ws H', LeH H H' → Rep X.w X.K (delo (delo S' a) dx) H' → H' dx = some (.xd ws) → RKs X.K H' fs ws → delo (delo S' a) dx dx = none → Q (.ref C) (some dx) H') fun _ _ _ => False)))
    fun us s1 ⟨vs, H1, I1, rv, ds, S1, le1, rp1, rd1, hl, z⟩ => ⟨I1.kIn, ?_⟩) he hpl
  refine run_dmkx (Q := fun _ dx fs S' => ∀ ws H', LeH H H' → Rep X.w X.K S' H' → H' dx = some (.xd ws) → RKs X.K H' fs ws → S' dx = none → Q (.ref C) (some dx) H') T.oc T.ini T.ty F hr gu hb I1 rp1 rv rd1 hl z fun a dx fs ws t0 S' H3 sI s' J le rp q e1 rk hn kG ge da oa na os ba _ _ => ?_
  exact ⟨a, _, _, sI, H3, .ref C, some dx, rfl, J, kG, ge, oa, ⟨rfl, rfl⟩, rfl, rfl, na, os, ba, raises_own T.oc.exC T.oc.tyC, q ws H3 (le1.trans le) rp e1 rk hn⟩
theorem ds_raise (hc : X.calm = true) (T : ExT X.K C fI fl) (F : DFn X.prog X.w X.K X.mg X.base k fI fd ps sp) (hr : Room (k + 1) X.A) (gu : X.A.guards = some []) (hb : Binds X.K fd ps []) (hg : Gl X x) (hm : X.mg x = some (.ref C)) (ha : DA X (e :: es) t)
    (hdb : (x == ("__debug__" : Str)) = false := by decide) (he : starEach (e :: es) X.env = (false, eval e X.env) :: starEach es X.env := by rfl) (hpl : (backTo pos (starEach es X.env)).any (·.1) = false := by rfl) :
    DS X (.Raise (some (.Call (.Name x p) (e :: es) [] pos)) none pos') (dRaise C sp t) := by
  refine ⟨fun A B τ S le q => ha.mono _ _ _ _ _ _ le.xe (fun ds S1 z => ⟨z.1, fun a ha => F.mono _ _ _ _ _ _ (fun d S' ⟨e1, dx, fs, ne, e2, e3, q⟩ => ⟨e1, dx, fs, ne, e2, e3, le.xe _ _ _ _ q⟩) (fun _ _ _ z => z) (z.2 a ha)⟩) q, ⟨fun pins s σ H D I ⟨E, τ, S, w, r, q⟩ => ?_⟩⟩
  refine (ps_raise hc w (pmk_dx T F hr gu hb hg hm ha hdb he hpl)).run pins s σ H D I ⟨E, τ, S, w, r, ha.mono _ _ _ _ _ _ (fun _ _ _ _ z => z) (fun ds S1 z => ⟨z.1, fun a ha => F.mono _ _ _ _ _ _ (fun d S' ⟨e1, dx, fs, ne, e2, e3, q⟩ => ⟨e1, dx, fs, ne, e2, e3, fun ws H' le rp hx rk hn => ?_⟩) (fun _ _ _ z => z) (z.2 a ha)⟩) q⟩
  exact ⟨C, fs, τ, _, dx, ws, rfl, rfl, le, r.le le rp, hx, rk, hn, q⟩
theorem excx_ok {P : Program} {w : World} {H : Hp} {h : Heap} {C dd a : Addr} {oe : Obj} {vs : Array Value} (e : h.get? a = some oe) (z : Zc (.ref C) (some dd) oe) (hd : oe.data = .fields vs) : ObjOk P w H h a (excHO C dd a) :=
  ⟨⟨oe, vs, e, z.1, z.2, hd⟩, ⟨_, e⟩, fun _ _ ⟨o, v, q, r⟩ k => ⟨o, v, k _ q, r⟩⟩
end
/-! ### asking an exception -/
def dFldXK (Cs : List Addr) (f : Str) (Q : DK) : DK := fun d S1 => match d with
  | .ref a => (match S1 a with
    | some (.exc C dd) => C ∈ Cs ∧ (match S1 dd with | some (.xd fs) => opt (fs.lookup f) fun v => Q v S1 | _ => False)
    | _ => False)
  | _ => False
/-- e.f -/
@[simp] def dFldX (Cs : List Addr) (f : Str) (te : DTE) : DTE := fun E τ S Q => te E τ S (dFldXK Cs f Q)
theorem dFldXK_mono {Cs : List Addr} {f : Str} {Q Q' : DK} (k : ∀ d S', Q d S' → Q' d S') (d : D) (S : DH) (h : dFldXK Cs f Q d S) : dFldXK Cs f Q' d S := by
  unfold dFldXK at h ⊢
  cases d with
  | ref a =>
    simp only at h ⊢
    split at h
    · refine ⟨h.1, ?_⟩
      have h2 := h.2
      split at h2
      · exact opt_mono (fun v z => k _ _ z) h2
      · exact h2.elim
    · exact h.elim
  | _ => exact h
/-- isinstance(e, c): the answers by e's class -/
def dIsEK (subs : List (Addr × Bool)) (Q : DK) : DK := fun d S1 => match d with
  | .ref a => (match S1 a with | some (.exc C dd) => (∃ fs, S1 dd = some (.xd fs)) ∧ ∃ b, (C, b) ∈ subs ∧ Q (.bl b) S1 | _ => False)
  | _ => False
@[simp] def dIsE (subs : List (Addr × Bool)) (te : DTE) : DTE := fun E τ S Q => te E τ S (dIsEK subs Q)
theorem dIsEK_mono {subs : List (Addr × Bool)} {Q Q' : DK} (k : ∀ d S', Q d S' → Q' d S') (d : D) (S : DH) (h : dIsEK subs Q d S) : dIsEK subs Q' d S := by
  unfold dIsEK at h ⊢
  cases d with
  | ref a =>
    simp only at h ⊢
    split at h
    · exact ⟨h.1, h.2.imp fun b z => ⟨z.1, k _ _ z.2⟩⟩
    · exact h.elim
  | _ => exact h
section
variable {X : Cx} {pins : List (Addr × Obj)} {σ : L2.St} {H : Hp} {s : Shared} {a C dd : Addr}
theorem exc_there (I : Inv X pins σ H s) (e : H a = some (excHO C dd a)) : excP C dd a s.heap := by
  have x : ObjOk X.prog X.w H s.heap a (.ext (excP C dd a)) := I.hok a _ e
  exact x.1
theorem exc_inst (I : Inv X pins σ H s) {fs : List (Str × V)} (e : H a = some (excHO C dd a)) (ed : H dd = some (.xd fs)) : ∃ oe od, PySem.W.InstAt s.heap a oe C (some od) ∧ ∃ mA : Str → Option Value, (∀ f, RelO (fs.lookup f) (mA f)) ∧ ∀ f, PySem.W.lookIn f od = some (mA f) := by
  obtain ⟨oe, vs, ho, hc, hdd, hdt⟩ := exc_there I e
  have hx : ObjOk X.prog X.w H s.heap dd (.xd fs) := I.hok dd _ ed
  obtain ⟨mA, hns, hr⟩ := hx
  obtain ⟨od, hd, hl⟩ := lookIn_ns hns
  exact ⟨oe, od, ⟨ho, hc, by unfold PySem.W.notCls; rw [hdt] <;> rfl, by rw [hdd]; exact hd⟩, mA, hr, hl⟩
end
section
variable {X : Cx} {e : Expr} {te : DTE} {f x : Str} {p p2 pos : Pos} {Cs : List Addr} {subs : List (Addr × Bool)} {C : Addr}
theorem de_fldx (hx : ∀ C ∈ Cs, XfC X.K C ∧ NoAttr X.K C f) (he : DE X e te) (hb : attributeBase e f X.env (eval e X.env) = eval e X.env := by rfl) : DE X (.Attribute e f pos) (dFldX Cs f te) := by
  refine ⟨fun E E' τ S Q Q' hE k q => he.mono _ _ _ _ _ _ hE (dFldXK_mono k) q, ⟨fun pins s σ H Q I ⟨E, τ, S, w, r, q⟩ => ?_⟩⟩
  refine attr_of hb (thn (he.run.run pins s σ H _ I (he.to w r q fun d S1 v H1 le1 w1 r1 rd1 z => (⟨d, S1, le1, r1.rep, rd1, z⟩ : ∃ d S1, LeH H H1 ∧ Rep X.w X.K S1 H1 ∧ RD X.K H1 d v ∧ dFldXK Cs f (fun d S' => ∀ v H', LeH H H' → Rep X.w X.K S' H' → RD X.K H' d v → Q v H') d S1))) fun u s1 ⟨v, H1, I1, rv, d, S1, le1, rp1, rd1, z⟩ => ?_)
  unfold dFldXK at z
  cases d with
  | ref a =>
    obtain rfl : v = V.ref a := rd1
    obtain rfl : u = Value.ref a := rv
    simp only at z
    split at z
    · rename_i C dd ea
      obtain ⟨hC, z⟩ := z
      split at z
      · rename_i fs ed
        obtain ⟨y, hy, z⟩ := opt_ex z
        obtain ⟨ws, ed2, rk⟩ : ∃ ws, H1 dd = some (.xd ws) ∧ RKs X.K H1 fs ws := rp1 dd _ ed
        obtain ⟨oe, od, J, mA, hr, hl⟩ := exc_inst I1 (rp1 a _ ea) ed2
        obtain ⟨T, no⟩ := hx C hC
        obtain ⟨v, hv, rd⟩ := rk.lookup_some hy
        obtain ⟨u, hu, ru⟩ := RelO.some_of (v := v) (o := mA f) (by rw [← hv]; exact hr f)
        exact PySem.HandSPX.exc_get I1.kIn J T.ga T.gg T.exC (PySem.W.findObj_own T.hdC no rfl (by rw [hl, hu])) (handed_of ru) ⟨v, H1, I1.tok _, ru, z v H1 le1 rp1 rd⟩
      · exact z.elim
    · exact z.elim
  | _ => exact z.elim
/-- isinstance of an exception, at the true heap -/
theorem ise_at {pins : List (Addr × Obj)} {σ : L2.St} {H : Hp} {s : Shared} {Q : Value → Shared → Prop} {c : Value} {a dd : Addr} {b : Bool} (E : ExcC X.K C) (I : Inv X pins σ H s) (ea : H a = some (excHO C dd a)) {fs : List (Str × V)} (ed : H dd = some (.xd fs)) (k : PySem.W.kitOne X.K (.ref C) c = some b)
    (h : ∀ s', Inv X pins σ H s' → Q (.bool b) s') : wpAny (model X.prog X.w) X.A (call (.builtin "isinstance") [.ref a, c]) Q X.xe s := by
  obtain ⟨oe, od, J, _⟩ := exc_inst I ea ed
  have hc : (PySem.W.clsIn X.K C).isSome = true := by
    obtain ⟨cd, hc, _⟩ := PySem.W.any_some E.hd
    rw [hc]; rfl
  exact PySem.W.kia_one (PySem.W.kitx_exc hc E.hg E.hk E.hs E.ha E.hn E.ht E.hm) I.kIn J k (fun z => nomatch z) fun tk => h _ (I.kept (t' := tk) fun _ _ z => z)
def rIsX (K : PySem.W.Frag) (c : V) (cv : Value) : List V → Hp → VK → Prop := fun xs H Q => ∃ (a C dd : Addr) (fs : List (Str × V)) (b : Bool), xs = [.ref a, c] ∧ ExcC K C ∧ H a = some (excHO C dd a) ∧ H dd = some (.xd fs) ∧ PySem.W.kitOne K (.ref C) cv = some b ∧ Q (.bl b) H
theorem call_isx {c : V} {cv : Value} (hcv : ∀ u, RelV c u → u = cv) : CallR X (.builtin "isinstance") (rIsX X.K c cv) := by
  intro pins s σ H xs us Q I r ⟨a, C, dd, fs, b, e, E, ea, ed, k, q⟩
  subst e
  cases r with
  | cons rx rr =>
    cases rr with
    | cons rt rr =>
      cases rr
      cases rx
      obtain rfl := hcv _ rt
      exact ise_at E I ea ed k fun s' I' => ⟨.bl b, H, I', rfl, q⟩
/-- class names, one by one -/
@[simp] def dCs (cs : List Addr) : DTA := fun _ _ S Q => Q (cs.map D.ref) S
def rIsXs (K : PySem.W.Frag) (cs : List Addr) : List V → Hp → VK → Prop := fun xs H Q => ∃ (a C dd : Addr) (fs : List (Str × V)) (b : Bool) (tp : Addr), xs = [.ref a, .ref tp] ∧ ExcC K C ∧ H a = some (excHO C dd a) ∧ H dd = some (.xd fs) ∧ SqT K H tp (cs.map V.ref) ∧ PySem.W.kitAny K (.ref C) (cs.map Value.ref) = some b ∧ Q (.bl b) H
theorem isx_to {σ : L2.St} {H : Hp} {Q : VK} {c : V} {cv : Value} (hx : ∀ p ∈ subs, ExcC X.K p.1) (hk : ∀ p ∈ subs, PySem.W.kitOne X.K (.ref p.1) cv = some p.2) (h : DE X e te) (q : upE X (dIsE subs te) σ H Q) :
    tCB (rIsX X.K c cv) (tCons (upE X te) (tCons (tC c) tNil)) σ H Q := by
  obtain ⟨E, τ, S, w, r, q⟩ := q
  refine h.to w r q fun d S1 v H1 le1 w1 r1 rd1 z => ?_
  unfold dIsEK at z
  cases d with
  | ref a =>
    obtain rfl : v = V.ref a := rd1
    simp only at z
    split at z
    · rename_i C dd ea
      obtain ⟨⟨fs, ed⟩, b, hb, z⟩ := z
      obtain ⟨ws, ed2, rk⟩ : ∃ ws, H1 dd = some (.xd ws) ∧ RKs X.K H1 fs ws := r1.rep dd _ ed
      exact ⟨a, C, dd, ws, b, rfl, hx _ hb, r1.rep a _ ea, ed2, hk _ hb, z _ H1 le1 r1.rep rfl⟩
    · exact z.elim
  | _ => exact z.elim
/-- isinstance(e, C) -/
theorem de_ise {pc : Expr} {c : V} {cv : Value} (hx : ∀ p ∈ subs, ExcC X.K p.1) (hk : ∀ p ∈ subs, PySem.W.kitOne X.K (.ref p.1) cv = some p.2) (hcv : ∀ u, RelV c u → u = cv) (hc : PE X pc (tC c)) (h : DE X e te) (hg : Gl X "isinstance") (hm : X.mg "isinstance" = none)
    (he : starEach (e :: [pc]) X.env = (false, eval e X.env) :: starEach [pc] X.env := by rfl) (he2 : starEach (pc :: []) X.env = (false, eval pc X.env) :: starEach [] X.env := by rfl) (hpl : (backTo pos (starEach [pc] X.env)).any (·.1) = false := by rfl) :
    DE X (.Call (.Name "isinstance" p) [e, pc] [] pos) (dIsE subs te) :=
  ⟨fun E E' τ S Q Q' hE k q => h.mono _ _ _ _ _ _ hE (dIsEK_mono k) q,
    pE_imp (pe_callB (call_isx hcv) hg hm PyProof.Rows.boot_isinstance (pa_cons h.run (pa_cons hc pa_nil he2) he) (by decide) (by decide) he hpl) fun σ H Q q => isx_to hx hk h q⟩
end
/-! ### defs that may be called where an exception is handled -/
structure DFnT (P : Program) (w : World) (K : PySem.W.Frag) (mg : Str → Option Value) (base : Heap) (k : Nat) (f : Addr) (fd : FuncData) (ps : List Str) (sp : DSp) : Prop where
  mono : ∀ ds S (Q Q' : DK) (E E' : DXK), (∀ d S', Q d S' → Q' d S') → (∀ C fs S', E C fs S' → E' C fs S') → sp ds S Q E → sp ds S Q' E'
  len : ∀ ds S Q E, sp ds S Q E → ds.length = ps.length
  run : ∀ (A : Around) (outer : List Env) (s : Shared) (H : Hp) (args : Args) (us : List Value) (vs : List V) (Q : VK) (E : XK), L2H.RoomH k A → A.guards = some [] → Env0 P w K mg base A outer s H → BindsTo s fd args (ps.zip us) → Vals vs us →
    upSp w K sp vs H Q E → codeAny (model P w) A (.call (.ref f) args) (CR (L2.CX P w) outer P w H s Q E) s
/-- the context of a def's body, an exception handled ahead of it or not -/
def cxN (P : Program) (w : World) (K : PySem.W.Frag) (mg : Str → Option Value) (base : Heap) (N : List Str) (qual : Str) (scope : Scope) (f : Addr) (cd : Value) (A : Around) (outer : List Env) (s : Shared) (H : Hp) (E : XK) : Cx :=
  { cxOf (L2.CX P w) P w K mg base N qual scope f cd A outer s H E with calm := false }
section
variable {X : Cx} {k : Nat} {f : Addr} {fd : FuncData} {ps : List Str} {sp : DSp} {x : Str} {p pos : Pos} {e : Expr} {es : List Expr} {t : DTA}
end
/-! ### try: body / except x as n: suite -/
section
variable {X : Cx} {pins : List (Addr × Obj)} {σ : L2.St} {H : Hp} {s : Shared}
/-- an object that was not told yet is told -/
theorem inv_track {a : Addr} {oe : Obj} {vs : Array Value} {o : HO} (J : Inv X pins σ H s) (ha : s.heap.get? a = some oe) (hd : oe.data = .fields vs) (na : H a = none) (n0 : X.s_0.heap.get? a = none) (nL : a ≠ X.env.locals)
    (np : ∀ p ∈ X.pn ++ pins, p.1 ≠ a) (ob : ObjOk X.prog X.w (upd H a o) s.heap a o) : Inv X pins σ (upd H a o) s := by
  have ne : ∀ {b : Addr} {u : HO}, H b = some u → b ≠ a := fun q => ne_of_none q na
  refine ⟨J.ok, J.os, J.bare, ⟨J.base.keep, J.base.slot, fun b o e n hx => ?_, J.base.there, fun b xs q => ?_, fun b o u q => ?_, fun b ps q => ?_⟩, J.loc, J.cell, ?_, fun x c e => ?_, fun p hp => ?_, fun b u e => ?_, J.len⟩
  · have : b ≠ a := fun z => by rw [z, n0] at e; cases e
    rw [upd_ne this]; exact J.base.free b o e n hx
  · have q := J.base.tups b xs q
    rw [upd_ne (ne q)]; exact q
  · have q := J.base.frzs b o u q
    rw [upd_ne (ne q)]; exact q
  · obtain ⟨m, q⟩ := J.base.tbls b ps q
    exact ⟨m, by rw [upd_ne (ne q)]; exact q⟩
  · rw [upd_ne nL.symm]; exact J.free
  · obtain ⟨v, oc, e1, e2⟩ := J.cell x c e
    have : c ≠ a := fun z => by
      rw [z, ha] at e1
      cases e1
      rw [hd] at e2
      cases e2
    rw [upd_ne this]; exact J.freeC x c e
  · obtain ⟨h1, h2, h3, h4, h5⟩ := J.pin p hp
    exact ⟨h1, by rw [upd_ne (np p hp)]; exact h2, h3, h4, h5⟩
  · by_cases hb : b = a
    · subst hb
      rw [upd_same] at e
      cases e
      exact ob
    · rw [upd_ne hb] at e
      exact (J.hok b u e).stay (fun _ _ _ q => q) (fun c q => by rw [upd_ne (ne q)]; exact q) fun c xs q => by rw [upd_ne (ne q)]; exact q
theorem inv_suite {a : Addr} (J : Inv X pins σ H s) : Inv (X.suite a (X.pn ++ pins)) [] σ H s :=
  ⟨J.ok.suite _ _, J.os, J.bare, J.base, J.loc, J.cell, J.free, J.freeC, fun p hp => J.pin p (by rw [List.append_nil] at hp; exact hp), J.hok, J.len⟩
theorem inv_unsuite {a : Addr} (ok : X.Ok) (J : Inv (X.suite a (X.pn ++ pins)) [] σ H s) : Inv X pins σ H s :=
  ⟨ok, J.os, J.bare, J.base, J.loc, J.cell, J.free, J.freeC, fun p hp => J.pin p (by rw [List.append_nil]; exact hp), J.hok, J.len⟩
end
theorem rst_unset {K : PySem.W.Frag} {H : Hp} {τ : DSt} {σ : L2.St} (r : RSt K H τ σ) (i : Nat) : RSt K H (τ.set i none) (σ.set i none) := by
  refine ⟨by simp [r.len], fun j d e => ?_⟩
  rw [List.getElem?_set] at e ⊢
  by_cases z : i = j
  · rw [if_pos z] at e
    split at e <;> cases e
  · rw [if_neg z] at e ⊢
    exact r.get j d e
/-- the ends of a suite that has an exception's name in slot i -/
def sufA (A : DEnds) (i : Nat) : DEnds where
  nx := fun τ S => A.nx (τ.set i none) S
  rt := A.rt
  bk := fun τ S => A.bk (τ.set i none) S
  ct := fun τ S => A.ct (τ.set i none) S
@[simp] theorem sufA_nx (A : DEnds) (i : Nat) (τ : DSt) (S : DH) : (sufA A i).nx τ S = A.nx (τ.set i none) S := rfl
@[simp] theorem sufA_rt (A : DEnds) (i : Nat) : (sufA A i).rt = A.rt := rfl
/-- what a try's body wishes of an exception: subs says which classes the clause takes -/
def tryX (subs : List (Addr × Bool)) (i : Nat) (ts : DTS) (A : DEnds) : DW := fun C fs τ S => ∃ b, (C, b) ∈ subs ∧ (b = true → ∀ a dd, S a = none → S dd = none → a ≠ dd → ts (sufA A i) (τ.set i (some (.ref a))) (upo (upo S dd (.xd fs)) a (.exc C dd))) ∧ (b = false → A.xe C fs τ S)
@[simp] def dTry (subs : List (Addr × Bool)) (i : Nat) (tb ts : DTS) : DTS := fun A τ S => tb { A with xe := tryX subs i ts A } τ S
section
variable {X : Cx} {x n : Str} {c : Value} {i : Nat} {body suite : List Stmt} {b₀ : Stmt} {np pos pos' : Pos} {tb ts : DTS} {subs : List (Addr × Bool)}
theorem sufA_le {A B : DEnds} (le : DEnds.Le A B) : DEnds.Le (sufA A i) (sufA B i) := ⟨fun _ _ z => le.nx _ _ z, le.rt, fun _ _ z => le.bk _ _ z, fun _ _ z => le.ct _ _ z, fun _ _ _ _ z => z⟩
theorem ds_try (hs : X.stack = X.env :: X.outer) (hf : X.env.frame = some X.env.locals) (hex : X.ex = []) (hN : X.N.Nodup) (hi : X.N[i]? = some n) (hln : X.env.kindOf n = some .local) (hc : Names X x c) (hk : ∀ p ∈ subs, PySem.W.exmOne X.K (.ref p.1) c = some p.2)
    (hb : ∀ (pn : List (Addr × Obj)) (xe : Value → Shared → Prop), PassesOwn (model X.prog X.w) X.A X.env xe → DSs (X.tr pn xe) body tb) (hsu : ∀ (a : Addr) (pn : List (Addr × Obj)), DSs (X.suite a pn) (b₀ :: suite) ts) :
    DS X (.Try body [.ExceptHandler (some (.Name x np)) (some n) (b₀ :: suite) pos'] [] [] pos) (dTry subs i tb ts) := by
  have mb := (hb [] (fun _ _ => False) PassesOwn.never).mono
  have ms := (hsu 0 []).mono
  have mx : ∀ A B, DEnds.Le A B → ∀ C fs τ S, tryX subs i ts A C fs τ S → tryX subs i ts B C fs τ S := fun A B le C fs τ S ⟨b, m, y, z⟩ => ⟨b, m, fun e a dd h1 h2 h3 => ms _ _ _ _ (sufA_le le) (y e a dd h1 h2 h3), fun e => le.xe _ _ _ _ (z e)⟩
  refine ⟨fun A B τ S le q => mb { A with xe := tryX subs i ts A } { B with xe := tryX subs i ts B } _ _ ⟨le.nx, le.rt, le.bk, le.ct, mx A B le⟩ q, ⟨fun pins s σ H D I ⟨E, τ, S, w, r, q⟩ => ?_⟩⟩
  have ok := I.ok
  have hfr : X.A.frames = some (X.env :: X.outer) := by rw [ok.frames, hs]
  have hloc : Loc X.env.scope n := .inl hln
  refine wpAny_Try_except ?_
  refine wpAny_mono ((hb (X.pn ++ pins) (fun e s₁ => wpAny (model X.prog X.w) X.A (noteFrame e X.env) (fun _ s₂ => wpAny (model X.prog X.w) X.A (setFlight e none) (fun _ s₃ =>
    wpAny (model X.prog X.w) X.A (handleBy e X.env [.ExceptHandler (some (.Name x np)) (some n) (b₀ :: suite) pos']) (SP X pins D) X.xe s₃) X.xe s₂) X.xe s₁) PassesOwn.looking).run.run [] s σ H D (I.toTry _) ⟨tryX subs i ts (dnE X.w X.K H D E), τ, S, fun u s' xx => ?_, r, q⟩) (fun f s1 hsp => ?_) (fun e s1 he => he)
  · -- an exception of the body comes
    obtain ⟨a, B, sI, pins', σ', H', cls, d, rfl, J', nb, up, sky, na, os, ag, C, fs, τ', S', dd, ws, rfl, rfl, le, rl, hx, rk, hn, b, hm, hyes, hno⟩ := xx
    have hb1 := hk _ hm
    have J : Inv X pins σ' H' sI := J'.ofTry ok
    have sky' : Sky B (X.env :: X.outer) a (Zc (.ref C) (some dd)) X.env.locals s'.heap := by rw [← hs]; exact sky
    show wpAny (model X.prog X.w) X.A (noteFrame (.ref a) X.env) _ _ _
    refine Sky.land Zc.steady hfr hf sky' fun h3 fl3 up3 => ?_
    have J3 : Inv X pins σ' H' { s' with heap := h3 } := J.landed nb fl3.1 (up.trans up3) os ag
    obtain ⟨oe3, vs3, he3, hz3, hd3⟩ := fl3.there
    have nfr : a ∉ frs (X.env :: X.outer) := fun hm => by
      obtain ⟨_, o', e', hnf⟩ := fl3.2.2.1.mem hm
      rw [he3] at e'; cases e'
      exact hnf _ hd3
    have nL : a ≠ X.env.locals := fun z => nfr (List.mem_filterMap.mpr ⟨X.env, List.mem_cons_self, by rw [hf, z]⟩)
    have nI : sI.heap.get? a = none := by
      cases e : sI.heap.get? a with
      | none => rfl
      | some o =>
        have := nb a o e (by rw [hs]; exact nfr)
        rw [fl3.2.1] at this
        cases this
    have n0 : X.s_0.heap.get? a = none := by
      cases e : X.s_0.heap.get? a with
      | none => rfl
      | some o =>
        obtain ⟨o', e'⟩ := J.base.there a o e (by rw [hex]; exact fun z => nomatch z)
        rw [nI] at e'
        cases e'
    have npn : ∀ p ∈ X.pn ++ pins, p.1 ≠ a := fun p hp z => by
      have := (J.pin p hp).1
      rw [z, nI] at this
      cases this
    have S3 := inv_suite (a := a) J3
    refine wpAny_handleBy_cons (codeAny_handlers_test ?_) (by intro q; cases q)
    have LT : PySem.W.Looks (model X.prog X.w) h3 (typeOf (.ref a)) (.ref C) := fun A Q E s k q => wpAny_typeOf_ref (k _ _ he3) (by rw [hz3.1]; exact q)
    have LM := PySem.W.exm_one (M := model X.prog X.w) (J3.kIn) LT hb1
    have test : ∀ {Q : Value → Shared → Prop} {E : Value → Shared → Prop}, Q c { s' with heap := h3 } → wpAny (model X.prog X.w) (X.A.mark (some (.ref a))) (eval (.Name x np) X.env) Q E { s' with heap := h3 } := fun {Q E} q => by
      obtain ⟨hg, hdbg, hm | ⟨hm, hv, hnn⟩⟩ := hc
      · exact ld_glob (X := X.suite a (X.pn ++ pins)) S3 hg hm q hdbg
      · exact ld_blt (X := X.suite a (X.pn ++ pins)) S3 hg hm hv q hnn hdbg
    refine test (LM.here ?_)
    cases b with
    | true =>
      refine codeAny_handlers_suite_as ?_
      refine HandSPX.lands_againZ fl3 fun h4 fl4 up4 => ?_
      have J4 : Inv X pins σ' H' { s' with heap := h4 } := J.landed nb fl4.1 ((up.trans up3).trans up4) os ag
      obtain ⟨oe4, vs4, he4, hz4, hd4⟩ := fl4.there
      have hda : a ≠ dd := fun z => by rw [← z, na] at hx; cases hx
      have oka := excx_ok (P := X.prog) (w := X.w) (H := upd H' a (excHO C dd a)) he4 hz4 hd4
      have J5 := inv_track J4 he4 hd4 na n0 nL npn oka
      have S4 := inv_suite (a := a) J5
      have l5 : LeH H' (upd H' a (excHO C dd a)) := LeH.new na
      have rp5 : Rep X.w X.K (upo S' dd (.xd fs)) H' := fun b o eb => by
        by_cases hb : b = dd
        · subst hb
          rw [upo_same] at eb
          cases eb
          exact ⟨ws, hx, rk⟩
        · rw [upo_ne hb] at eb
          exact rl.rep b o eb
      refine store_ok (X := X.suite a (X.pn ++ pins)) (v := .ref a) S4 hN hi hloc rfl (fun s5 S5 => ?_) (.inr hln)
      refine wpAny_mono ((hsu a (X.pn ++ pins)).run.run [] s5 _ _ { nx := fun σ' H' => D.nx (σ'.set i none) H', rt := D.rt, bk := fun σ' H' => D.bk (σ'.set i none) H', ct := fun σ' H' => D.ct (σ'.set i none) H' } S5 ⟨DW0, _, _, wish0, ⟨(rl.st.le l5).set i (d := .ref a) rfl, rp5.new (o := .exc C dd) na upd_same⟩, ms (sufA (dnE X.w X.K H D E) i) _ _ _ ⟨?_, ?_, ?_, ?_, fun _ _ _ _ z => z.elim⟩ (hyes rfl a dd (rl.rep.free na) hn hda)⟩) (fun f s6 hsp => ?_) (fun _ _ z => False.elim z)
      · exact fun τ6 S6 z σ6 H6 le6 r6 => z _ H6 (le.trans (l5.trans le6)) ⟨rst_unset r6.st i, r6.rep⟩
      · exact fun d S6 z v H6 le6 r6 rd => z v H6 (le.trans (l5.trans le6)) r6 rd
      · exact fun τ6 S6 z σ6 H6 le6 r6 => z _ H6 (le.trans (l5.trans le6)) ⟨rst_unset r6.st i, r6.rep⟩
      · exact fun τ6 S6 z σ6 H6 le6 r6 => z _ H6 (le.trans (l5.trans le6)) ⟨rst_unset r6.st i, r6.rep⟩
      have end_ : ∀ {σ6 : L2.St} {H6 : Hp} {Q : Shared → Prop}, Inv (X.suite a (X.pn ++ pins)) [] σ6 H6 s6 → (∀ s7, Inv X pins (σ6.set i none) H6 s7 → Q s7) →
          wpAny (model X.prog X.w) X.A (do bindName X.env n .none; unbindBehindTheSuite X.env n pos') (fun _ s7 => Q s7) X.xe s6 := fun {σ6 H6 Q} S6 hq => gone_ok (inv_unsuite ok S6) hN hi hln hq
      cases f with
      | next =>
        obtain ⟨σ6, H6, S6, q6⟩ := hsp
        exact end_ S6 fun s7 J7 => ⟨_, _, J7, q6⟩
      | brk =>
        obtain ⟨σ6, H6, S6, q6⟩ := hsp
        exact end_ S6 fun s7 J7 => ⟨_, _, J7, q6⟩
      | cont =>
        obtain ⟨σ6, H6, S6, q6⟩ := hsp
        exact end_ S6 fun s7 J7 => ⟨_, _, J7, q6⟩
      | ret u =>
        obtain ⟨v6, σ6, H6, S6, r6, q6⟩ := hsp
        exact end_ S6 fun s7 J7 => ⟨_, _, _, J7, r6, q6⟩
    | false =>
      show wpAny _ X.A (handleBy (.ref a) X.env []) _ _ _
      refine wpAny_handleBy_nil ?_
      obtain ⟨k1, k2, k3, oe, vs, T, oT, ts', he, hz, hd, h1, hr⟩ := id fl3
      unfold PySem.passOn
      refine wpAny_bind (wpAny_field he hd h1 ?_)
      rw [if_neg (show ¬ ((Value.ref T == Value.none) = true) from by simp)]
      have fin : wpAny (model X.prog X.w) X.A (setFlight (.ref a) X.env.frame) (fun _ s4 => wpAny (model X.prog X.w) X.A (throw (.ref a) : Sem Flow) (SP X pins D) X.xe s4) X.xe { s' with heap := h3 } := by
        rw [hf]
        refine HandSPX.setFlight_upZ fl3 fun h4 hh4 up4 => wpAny_throw (w _ _ ?_)
        exact ⟨a, B, sI, pins, σ', H', _, _, rfl, J, nb, (up.trans up3).trans up4, .inr (.inr (by rw [hs]; exact hh4)), na, os, ag, C, fs, τ', S', dd, ws, rfl, rfl, le, rl, hx, rk, hn, hno rfl⟩
      first
        | exact wpAny_bind (wpAny_pure (wpAny_bind fin))
        | exact wpAny_bind fin
  · cases f with
    | next =>
      obtain ⟨σ', H', J', q⟩ := hsp
      exact wpAny_execs_nil ⟨σ', H', J'.ofTry ok, q⟩
    | brk =>
      obtain ⟨σ', H', J', q⟩ := hsp
      exact ⟨σ', H', J'.ofTry ok, q⟩
    | cont =>
      obtain ⟨σ', H', J', q⟩ := hsp
      exact ⟨σ', H', J'.ofTry ok, q⟩
    | ret u =>
      obtain ⟨v, σ', H', J', r, q⟩ := hsp
      exact ⟨v, σ', H', J'.ofTry ok, r, q⟩
end
/-! ### small things -/
theorem _root_.L2H.RoomH.units {A : Around} {k : Nat} (hr : L2H.RoomH k A) : A.units + 64 < cLine := by
  have := hr.un
  omega
def basexB (K : PySem.W.Frag) (B : Addr) : Bool := PySem.W.readsIn K B (.type "type") && (decide (PySem.W.specialIn K (.ref B) "__getattribute__" = some (some (.builtin "type.__getattribute__"))) &&
  match PySem.W.findCls K (.ref B) (.type "type") "__init__" with | some (.val v) => decide (v = .builtin "ValueError.__init__") | _ => false)
theorem base_of {K : PySem.W.Frag} {B : Addr} (h : basexB K B = true) : BaseI K B := by
  simp only [basexB, Bool.and_eq_true, decide_eq_true_eq] at h
  refine ⟨h.1, h.2.1, ?_⟩
  have h3 := h.2.2
  split at h3
  · rename_i v e
    rw [e, of_decide_eq_true h3]
  · cases h3
section
variable {K : PySem.W.Frag} {f : Str} {C fI : Addr} {fl : List Str} {Cs : List Addr} {b : Bool} {subs : List (Addr × Bool)}
theorem fx_nil : ∀ C ∈ ([] : List Addr), XfC K C ∧ NoAttr K C f := fun _ h => nomatch h
theorem fx_cons (x : ExT K C fI fl) (h : f ∈ fl) (r : ∀ C ∈ Cs, XfC K C ∧ NoAttr K C f) : ∀ D ∈ C :: Cs, XfC K D ∧ NoAttr K D f := fun D hD => (List.mem_cons.mp hD).elim (fun e => e ▸ ⟨x.xf, x.no f h⟩) (r D)
theorem xc_nil : ∀ p ∈ ([] : List (Addr × Bool)), ExcC K p.1 := fun _ h => nomatch h
theorem xc_cons (x : ExT K C fI fl) (r : ∀ p ∈ subs, ExcC K p.1) : ∀ p ∈ (C, b) :: subs, ExcC K p.1 := fun p hp => (List.mem_cons.mp hp).elim (fun e => e ▸ x.ec) (r p)
end
/-- d[k] of a written dict of texts' -/
def dKixK (tbl : List (Str × D)) (Q : DK) : DK := fun d S => match d with | .str z => opt (tbl.lookup z) fun y => Q y S | _ => False
@[simp] def dKix (tbl : List (Str × D)) (tk : DTE) : DTE := fun E τ S Q => tk E τ S (dKixK tbl Q)
/-- what a written dict holds -/
structure KTbl (K : PySem.W.Frag) (w : World) (a : Addr) (tbl : List (Str × D)) : Prop where
  at_ : ∀ z y, tbl.lookup z = some y → ∃ v, KDct K w a z v ∧ ∀ H, RD K H y v
section
variable {X : Cx} {x : Str} {a : Addr} {tbl : List (Str × D)} {b : Expr} {tb : DTE} {p pos : Pos}
end
/-! count, index of truths in a list of truths -/
def mCountB : RMD := fun d ds S Q => ∃ (y : Bool) (xs : List Bool), ds = [.bl y] ∧ seqD S d = some (xs.map .bl) ∧ Q (.int (xs.count y : Nat)) S
def mIndexB : RMD := fun d ds S Q => ∃ (y : Bool) (xs : List Bool) (j : Nat), ds = [.bl y] ∧ seqD S d = some (xs.map .bl) ∧ xs[j]? = some y ∧ (∀ m, m < j → xs[m]? ≠ some y) ∧ Q (.int j) S
theorem bls_pd {S : DH} {d : D} {xs : List Bool} (e : seqD S d = some (xs.map .bl)) : Pd S d (.list (xs.map PyData.bool)) := by
  have all : ∀ xs : List Bool, PdA S (xs.map D.bl) (xs.map PyData.bool) := fun xs => by
    induction xs with
    | nil => exact .nil
    | cons x xs ih => exact .cons (.bl x) ih
  cases d with
  | rol ys => cases e; exact .rol (all xs)
  | ref a =>
    simp only [seqD_ref] at e
    split at e
    · rename_i ys ea
      cases e
      exact .lst ea (all xs)
    · cases e
  | _ => simp at e
theorem bls_shaped (xs : List Bool) : SeqAt.shaped (.list (xs.map PyData.bool)) = true := by
  have h1 : ∀ xs : List Bool, PyData.canLayAll0 (xs.map PyData.bool) = true ∧ PyData.depthAll (xs.map PyData.bool) ≤ 0 := fun xs => by
    induction xs with
    | nil => exact ⟨rfl, Nat.le_refl _⟩
    | cons x xs ih =>
      refine ⟨?_, ?_⟩
      · show ((PyData.bool x).canLay0 && PyData.canLayAll0 (xs.map PyData.bool)) = true
        rw [ih.1]; rfl
      · show max (PyData.bool x).depth (PyData.depthAll (xs.map PyData.bool)) ≤ 0
        exact Nat.max_le.mpr ⟨Nat.le_refl _, ih.2⟩
  unfold SeqAt.shaped
  have h2 : (PyData.list (xs.map PyData.bool)).depth ≤ 64 := by
    show PyData.depthAll (xs.map PyData.bool) + 1 ≤ 64
    have := (h1 xs).2
    omega
  have h3 : (PyData.list (xs.map PyData.bool)).canLay0 = true := (h1 xs).1
  rw [h3, decide_eq_true h2]; rfl
theorem eqv_bl (a b : Bool) : PyData.eqv (.bool a) (.bool b) = (a == b) := by cases a <;> cases b <;> decide +kernel
theorem countB (y : Bool) : ∀ xs : List Bool, ((xs.map PyData.bool).countP fun z => PyData.eqv z (.bool y)) = xs.count y
  | [] => rfl
  | x :: xs => by
    have ih := countB y xs
    rw [List.map_cons, List.countP_cons, List.count_cons, ih, eqv_bl]
section
variable {X : Cx}
theorem md_countB (hu : X.A.units + 65 < cLine) : MtD X "list.count" mCountB := by
  refine ⟨fun d ds S Q Q' k ⟨y, xs, h1, h2, h⟩ => ⟨y, xs, h1, h2, k _ _ h⟩, fun pins s σ H x vs v us Q I rx rv ⟨d, ds, S, rep, rd, rds, y, xs, h1, h2, h⟩ => ?_⟩
  subst h1
  obtain ⟨u, rfl, ru⟩ := rds1 rds
  cases ru
  cases rv with
  | cons ry rt =>
  cases rt
  have hp := bls_pd h2
  have sh := bls_shaped xs
  have dp := Pd.dp rep _ _ _ hp rd
  cases dp with
  | @lst a ys _ hl ha =>
    obtain ⟨its, rvs, p, hz⟩ := I.list hl
    obtain ⟨as, h4⟩ := Dp.readsAll I _ _ its ha rvs
    cases rx
    obtain ⟨bs, r1⟩ := Dp.reads I (.bool y) (.bl y) _ (.bl y) ry
    have sy : SeqAt.shaped (.bool y) = true := by cases y <;> decide +kernel
    refine SeqAt.count_list_data p.isList (by simpa using h4) r1 (plainAll_of (SeqAt.canLay_of_shaped sh)) (PyData.plain_of_canLay0 _ (SeqAt.canLay_of_shaped sy)) (room_in_shaped sy hu) ?_
    rw [countB]
    exact ⟨.int _, H, I.tok _, ⟨_, rfl⟩, h _ H (LeH.refl H) rep rfl⟩
theorem md_indexB (hu : X.A.units + 65 < cLine) : MtD X "list.index" mIndexB := by
  refine ⟨fun d ds S Q Q' k ⟨y, xs, j, h1, h2, h5, h6, h⟩ => ⟨y, xs, j, h1, h2, h5, h6, k _ _ h⟩, fun pins s σ H x vs v us Q I rx rv ⟨d, ds, S, rep, rd, rds, y, xs, j, h1, h2, h5, h6, h⟩ => ?_⟩
  subst h1
  obtain ⟨u, rfl, ru⟩ := rds1 rds
  have dp := Pd.dp rep _ _ _ (bls_pd h2) rd
  obtain ⟨a, xs', ea, _, _⟩ := seqD_rd rep rd h2
  subst ea
  have sy : SeqAt.shaped (.bool y) = true := by cases y <;> decide +kernel
  refine mt_indexD hu pins s σ H _ _ v us Q I rx rv ⟨a, u, .bool y, xs.map PyData.bool, j, .bool y, rfl, rfl, dp, Pd.dp rep _ _ _ (.bl y) ru, bls_shaped xs, sy, ?_, ?_, ?_, h _ H (LeH.refl H) rep rfl⟩
  · rw [List.getElem?_map, h5]; rfl
  · rw [eqv_bl]; simp
  · intro m z hm hz
    rw [List.getElem?_map] at hz
    obtain ⟨b, hb, rfl⟩ := Option.map_eq_some_iff.mp hz
    rw [eqv_bl]
    exact beq_eq_false_iff_ne.mpr fun e => h6 m hm (e ▸ hb)
/-- str(x), x an int, a text or a tuple of data -/
@[simp] def cStrG : RCD := fun ds S Q => match ds with
  | [.int i] => i.natAbs.log2 < 1920 ∧ Q (.str (toString i)) S
  | [.str a] => Q (.str a) S
  | [.tup xs] => cRepr [.tup xs] S Q
  | _ => False
theorem cRepr_mono {ds : List D} {S : DH} {Q Q' : DK} (k : ∀ d S', Q d S' → Q' d S') (h : cRepr ds S Q) : cRepr ds S Q' := by
  match ds, h with
  | [d], ⟨p, h1, h2, h3, h4, q⟩ => exact ⟨p, h1, h2, h3, h4, k _ _ q⟩
theorem cd_strG (hu : X.A.units + 120 < cLine) (hg : X.A.guards = some []) : CallD X (.type "str") cStrG := by
  refine ⟨fun ds S Q Q' k h => ?_, fun pins s σ H vs us Q I rv ⟨ds, S, rep, rd, h⟩ => ?_⟩
  · match ds, h with
    | [.int i], h => exact ⟨h.1, k _ _ h.2⟩
    | [.str i], h => exact k _ _ h
    | [.tup i], h => exact cRepr_mono (ds := [.tup i]) (S := S) k h
  · match ds, h with
    | [.int i], h => exact cd_str.run pins s σ H vs us Q I rv ⟨[.int i], S, rep, rd, h⟩
    | [.str i], h => exact cd_str.run pins s σ H vs us Q I rv ⟨[.str i], S, rep, rd, h⟩
    | [.tup xs], ⟨p, h1, h2, h3, h4, q⟩ =>
      obtain ⟨v, rfl, rd1⟩ := rds1 rd
      obtain ⟨u, rfl, ru⟩ := Vals.one rv
      have dp := h1.dp rep p _ v rd1
      have q1 := q (.str p.shown) H (LeH.refl H) rep rfl
      obtain ⟨as, rr⟩ := Dp.reads I p v u dp ru
      cases h1 with
      | tup hs =>
        obtain ⟨a, ys, rfl, _⟩ : ∃ p ys, v = V.ref p ∧ SqTn X.K H p ys ∧ RDs X.K H xs ys := rd1
        cases ru
        exact PySem.str_of_reads rr h2 (fun z => by rw [noDict_pd _ _ (.tup hs)] at z; cases z) hg (by omega) (fun _ _ e => e) (fun h' u tk hk => ⟨.str _, H, I.kept hk, ⟨_, rfl⟩, q1⟩) h4
end
end Dt
set_option maxRecDepth 100000
set_option maxHeartbeats 4000000
namespace Sh
open PySem PySem.Spec L2 Dt Sh
/-! ShX: the refusals: what each one's __init__ does. -/
/-- what may be borne: a text, a whole number, a tuple of data -/
def Brn (d : D) : Prop := match d with
  | .str x => x.length ≤ 100000
  | .int i => i.natAbs.log2 < 1900
  | .tup xs => Rp (.tup xs) ∧ (toP (.tup xs)).shown.length ≤ 1000000
  | _ => False
/-- an __init__ that keeps one thing -/
def spX1 (C : Addr) (f : Str) : DSp := fun ds S Q _ => ∃ (a : Addr) (d : D), ds = [.ref a, d] ∧ S a = some (.ex0 C) ∧ Brn d ∧ ∀ dx, S dx = none → dx ≠ a → Q .non (upo (upo S dx (.xm [(f, d)])) a (.ex1 C dx))
theorem spX1_mono (C : Addr) (f : Str) : SpMono (spX1 C f) := fun ds S Q Q' E E' k _ ⟨a, d, h1, h2, h3, h⟩ => ⟨a, d, h1, h2, h3, fun dx x y => k _ _ (h dx x y)⟩
def tX1 (C : Addr) (f m : Str) : DTS := (dSeq (dDrop (dVeI C (dCons (dVar 0) (dCons (dOp dAddF (dC (.str m)) (dCB cStrG (dCons (dVar 1) dNil))) dNil)))) (dPutX C f (dVar 0) (dVar 1)))
theorem nat_short {n : Nat} (h : n.log2 < 1900) : (Str.ofString n.repr).length ≤ 600 := by
  have h1 : n < 10 ^ 600 := by
    have : n < 2 ^ 1900 := by
      by_cases e : n = 0
      · subst e; exact Nat.two_pow_pos _
      · exact (Nat.log2_lt e).mp h
    exact Nat.lt_of_lt_of_le this (by decide +kernel)
  have := PyProof.Rows.toString_length_le (v := (n : Int)) (by omega) (k := 600) (by decide) (by exact_mod_cast h1)
  exact this
theorem int_short {i : Int} (h : i.natAbs.log2 < 1900) : (Str.ofString i.repr).length ≤ 2000 := by
  cases i with
  | ofNat n =>
    have := nat_short (n := n) h
    exact Nat.le_trans this (by decide)
  | negSucc m =>
    have := nat_short (n := m + 1) h
    rw [PyProof.Rows.ofString_length] at this ⊢
    have e : (Int.repr (.negSucc m)).toList = '-' :: (Nat.repr (m + 1)).toList := by
      show ("-" ++ Nat.repr (m + 1)).toList = _
      simp
    rw [e, List.length_cons]
    omega
theorem r_X1 (C : Addr) (f m n : Str) (hm : m.length ≤ 1000) (ds S Q E) (h : spX1 C f ds S Q E) : tX1 C f m (dEnd Q E) (dstart ["self", n] ds) S := by
  obtain ⟨a, d, rfl, ea, hb, h⟩ := h
  unfold tX1
  refine dSeq_gen fun R hR => ?_
  have go : ∀ x : Str, x.length ≤ 2000000 → m.length + x.length ≤ sizeLine := fun x hx => by rw [sizeLine_eq]; omega
  have fin : R (dEnd Q E) [some (.ref a), some d] S := by
    subst hR
    simp [dPutXK, ea]
    intro p hp
    have pa : p ≠ a := fun e => by rw [e, ea] at hp; cases hp
    exact .same (h p hp pa)
  cases d with
  | str x =>
    simp [dstart, ea]
    exact ⟨go x (by have : x.length ≤ 100000 := hb; omega), fin⟩
  | int i =>
    have hi : i.natAbs.log2 < 1900 := hb
    simp [dstart, ea]
    exact ⟨by omega, go _ (by have := int_short hi; omega), fin⟩
  | tup xs =>
    obtain ⟨h1, h2⟩ : Rp (.tup xs) ∧ (toP (.tup xs)).shown.length ≤ 1000000 := hb
    simp [dstart, ea]
    refine cRepr_rp h1 ?_
    simp [ea]
    exact ⟨go _ (by omega), fin⟩
  | _ => exact hb.elim
abbrev sp_NoKnot_init (C : Addr) : DSp := spX1 C "name"
def t_NoKnot_init (C_NoKnot : Addr) : DTS := (dSeq (dDrop (dVeI C_NoKnot (dCons (dVar 0) (dCons (dOp dAddF (dC (.str "no such knot: ")) (dCB cStrG (dCons (dVar 1) dNil))) dNil))))
    (dPutX C_NoKnot "name" (dVar 0) (dVar 1)))
abbrev N_NoKnot_init : List Str := ["self", "name"]
abbrev sp_NoMark_init (C : Addr) : DSp := spX1 C "name"
def t_NoMark_init (C_NoMark : Addr) : DTS := (dSeq (dDrop (dVeI C_NoMark (dCons (dVar 0) (dCons (dOp dAddF (dC (.str "no such mark: ")) (dCB cStrG (dCons (dVar 1) dNil))) dNil))))
    (dPutX C_NoMark "name" (dVar 0) (dVar 1)))
abbrev N_NoMark_init : List Str := ["self", "name"]
abbrev sp_NoName_init (C : Addr) : DSp := spX1 C "name"
def t_NoName_init (C_NoName : Addr) : DTS := (dSeq (dDrop (dVeI C_NoName (dCons (dVar 0) (dCons (dOp dAddF (dC (.str "no pattern of that name: ")) (dCB cStrG (dCons (dVar 1) dNil))) dNil))))
    (dPutX C_NoName "name" (dVar 0) (dVar 1)))
abbrev N_NoName_init : List Str := ["self", "name"]
abbrev sp_Twice_init (C : Addr) : DSp := spX1 C "name"
def t_Twice_init (C_Twice : Addr) : DTS := (dSeq (dDrop (dVeI C_Twice (dCons (dVar 0) (dCons (dOp dAddF (dC (.str "there already: ")) (dCB cStrG (dCons (dVar 1) dNil))) dNil))))
    (dPutX C_Twice "name" (dVar 0) (dVar 1)))
abbrev N_Twice_init : List Str := ["self", "name"]
abbrev sp_TooMany_init (C : Addr) : DSp := spX1 C "word"
def t_TooMany_init (C_TooMany : Addr) : DTS := (dSeq (dDrop (dVeI C_TooMany (dCons (dVar 0) (dCons (dOp dAddF (dC (.str "too many ")) (dCB cStrG (dCons (dVar 1) dNil))) dNil))))
    (dPutX C_TooMany "word" (dVar 0) (dVar 1)))
abbrev N_TooMany_init : List Str := ["self", "word"]
abbrev sp_NoTie_init (C : Addr) : DSp := spX1 C "tie"
def t_NoTie_init (C_NoTie : Addr) : DTS := (dSeq (dDrop (dVeI C_NoTie (dCons (dVar 0) (dCons (dOp dAddF (dC (.str "no such tie: ")) (dCB cStrG (dCons (dVar 1) dNil))) dNil))))
    (dPutX C_NoTie "tie" (dVar 0) (dVar 1)))
abbrev N_NoTie_init : List Str := ["self", "tie"]
abbrev sp_NoMeet_init (C : Addr) : DSp := spX1 C "knot"
def t_NoMeet_init (C_NoMeet : Addr) : DTS := (dSeq (dDrop (dVeI C_NoMeet (dCons (dVar 0) (dCons (dOp dAddF (dC (.str "the way ahead does not end at ")) (dCB cStrG (dCons (dVar 1) dNil))) dNil))))
    (dPutX C_NoMeet "knot" (dVar 0) (dVar 1)))
abbrev N_NoMeet_init : List Str := ["self", "knot"]
abbrev sp_NoText_init (C : Addr) : DSp := spX1 C "at"
theorem sp_NoText_init_mono (C : Addr) : SpMono (sp_NoText_init C) := spX1_mono C _
def t_NoText_init (C_NoText : Addr) : DTS := (dSeq (dDrop (dVeI C_NoText (dCons (dVar 0) (dCons (dOp dAddF (dC (.str "wrong from word ")) (dCB cStrG (dCons (dVar 1) dNil))) dNil))))
    (dPutX C_NoText "at" (dVar 0) (dVar 1)))
abbrev N_NoText_init : List Str := ["self", "at"]
theorem r_NoText_init {C : Addr} (ds S Q E) (h : sp_NoText_init C ds S Q E) : t_NoText_init C (dEnd Q E) (dstart N_NoText_init ds) S := r_X1 C _ _ _ (by decide +kernel) ds S Q E h
abbrev sp_NoLine_init (C : Addr) : DSp := spX1 C "at"
def t_NoLine_init (C_NoLine : Addr) : DTS := (dSeq (dDrop (dVeI C_NoLine (dCons (dVar 0) (dCons (dOp dAddF (dC (.str "no line: ")) (dCB cStrG (dCons (dVar 1) dNil))) dNil))))
    (dPutX C_NoLine "at" (dVar 0) (dVar 1)))
abbrev N_NoLine_init : List Str := ["self", "at"]
abbrev sp_NoWay_init (C : Addr) : DSp := spX1 C "count"
def t_NoWay_init (C_NoWay : Addr) : DTS := (dSeq (dDrop (dVeI C_NoWay (dCons (dVar 0) (dCons (dOp dAddF (dC (.str "there are so many ways: ")) (dCB cStrG (dCons (dVar 1) dNil))) dNil))))
    (dPutX C_NoWay "count" (dVar 0) (dVar 1)))
abbrev N_NoWay_init : List Str := ["self", "count"]
abbrev sp_TooLong_init (C : Addr) : DSp := spX1 C "count"
def t_TooLong_init (C_TooLong : Addr) : DTS := (dSeq (dDrop (dVeI C_TooLong (dCons (dVar 0) (dCons (dOp dAddF (dC (.str "too many steps: ")) (dCB cStrG (dCons (dVar 1) dNil))) dNil))))
    (dPutX C_TooLong "count" (dVar 0) (dVar 1)))
abbrev N_TooLong_init : List Str := ["self", "count"]
abbrev sp_NoSuch_init (C : Addr) : DSp := spX1 C "number"
def t_NoSuch_init (C_NoSuch : Addr) : DTS := (dSeq (dDrop (dVeI C_NoSuch (dCons (dVar 0) (dCons (dOp dAddF (dC (.str "no pattern of that number: ")) (dCB cStrG (dCons (dVar 1) dNil))) dNil))))
    (dPutX C_NoSuch "number" (dVar 0) (dVar 1)))
abbrev N_NoSuch_init : List Str := ["self", "number"]
end Sh
set_option maxRecDepth 100000
set_option maxHeartbeats 4000000
namespace Sh
open PySem PySem.Spec L2 Dt Sh
/-! an exception as a value -/
def HasX (S : DH) (a C : Addr) (fs : List (Str × D)) : Prop := ∃ dx, S a = some (.exc C dx) ∧ S dx = some (.xd fs)
theorem HasX.ext {S S' : DH} {a C : Addr} {fs : List (Str × D)} (h : HasX S a C fs) (e : Ext S S') : HasX S' a C fs := let ⟨dx, h1, h2⟩ := h; ⟨dx, e _ _ h1, e _ _ h2⟩
def mkXK (C : Addr) (sp : DSp) (Q : DK) (ds : List D) (S1 : DH) : Prop := ds.length ≤ 1000 ∧ ∀ a, S1 a = none → sp (.ref a :: ds) (upo S1 a (.ex0 C))
  (fun d S' => d = .non ∧ ∃ dx fs, dx ≠ a ∧ S' a = some (.ex1 C dx) ∧ S' dx = some (.xm fs) ∧ Q (.ref a) (upo (upo (delo (delo S' a) dx) dx (.xd fs)) a (.exc C dx))) fun _ _ _ => False
theorem dMakeX_eq (C : Addr) (sp : DSp) (t : DTA) : dMakeX C sp t = fun E τ S Q => t E τ S (mkXK C sp Q) := rfl
def sp_GoesRound_init (C : Addr) : DSp := fun ds S Q _ => ∃ (a : Addr) (d : D) (xs : List Str), ds = [.ref a, d] ∧ S a = some (.ex0 C) ∧ seqD S d = some (xs.map .str) ∧ xs.length ≤ 1000 ∧ (∀ x ∈ xs, x.length ≤ 100) ∧
  ∀ dx, S dx = none → dx ≠ a → Q .non (upo (upo S dx (.xm [("ring", .rol (xs.map .str))])) a (.ex1 C dx))
def t_GoesRound_init (C_GoesRound : Addr) : DTS := (dSeq (dDrop (dVeI C_GoesRound (dCons (dVar 0) (dCons (dOp dAddF (dC (.str "the rules go round: ")) (dBM "str" mJoin (dC (.str " ")) (dCons (dVar 1) dNil))) dNil))))
    (dPutX C_GoesRound "ring" (dVar 0) (dCB cListAF (dCons (dVar 1) dNil))))
abbrev N_GoesRound_init : List Str := ["self", "ring"]
theorem sum_short : ∀ xs : List Str, (∀ x ∈ xs, x.length ≤ 100) → (xs.map (·.length)).sum ≤ 100 * xs.length
  | [], _ => by simp
  | x :: xs, h => by
    have := sum_short xs fun y hy => h y (List.mem_cons_of_mem _ hy)
    have := h x List.mem_cons_self
    simp only [List.map_cons, List.sum_cons, List.length_cons]
    omega
def sp_NoPair_init (C : Addr) : DSp := fun ds S Q _ => ∃ (a : Addr) (x y : Str), ds = [.ref a, .str x, .str y] ∧ S a = some (.ex0 C) ∧ x.length ≤ 1000 ∧ y.length ≤ 1000 ∧
  ∀ dx, S dx = none → dx ≠ a → Q .non (upo (upo (upo S dx (.xm [("one", .str x)])) a (.ex1 C dx)) dx (.xm [("other", .str y), ("one", .str x)]))
def t_NoPair_init (C_NoPair : Addr) : DTS := (dSeq (dDrop (dVeI C_NoPair (dCons (dVar 0) (dCons (dOp dAddF (dOp dAddF (dOp dAddF (dC (.str "no way from ")) (dCB cStrG (dCons (dVar 1) dNil))) (dC (.str " to "))) (dCB cStrG (dCons (dVar 2) dNil))) dNil))))
    (dSeq (dPutX C_NoPair "one" (dVar 0) (dVar 1))
    (dPutX C_NoPair "other" (dVar 0) (dVar 2))))
abbrev N_NoPair_init : List Str := ["self", "one", "other"]
theorem dFldXK_at {Cs : List Addr} {f : Str} {Q : DK} {S : DH} {a C : Addr} {fs : List (Str × D)} {v : D} (i : Nat) (h : HasX S a C fs) (e : Cs[i]? = some C) (l : fs.lookup f = some v) (q : Q v S) : dFldXK Cs f Q (.ref a) S := by
  obtain ⟨dx, h1, h2⟩ := h
  unfold dFldXK
  simp only [h1, h2, l]
  exact ⟨List.mem_of_getElem? e, q⟩
end Sh
set_option maxRecDepth 100000
set_option maxHeartbeats 4000000
namespace Sh
open PySem PySem.Spec L2 Dt Sh
end Sh
namespace Dt
open PySem PySem.Spec L2
/-- a number as a text -/
def numS (n : Nat) : Str := toString (n : Int)
mutual
/-- a pattern's words -/
def Pt.wds : Pt → List Str
  | .stay => ["stay"]
  | .step b w => [if b then "on" else "back", w]
  | .mark b m => [if b then "at" else "off", m]
  | .seq b ps => (if b then "then" else "either") :: numS ps.length :: Pt.wdss ps
  | .many p => "many" :: Pt.wds p
def Pt.wdss : List Pt → List Str
  | [] => []
  | p :: ps => Pt.wds p ++ Pt.wdss ps
end
namespace Pt
theorem wdss_nil : wdss [] = [] := rfl
theorem wdss_cons (p : Pt) (ps : List Pt) : wdss (p :: ps) = wds p ++ wdss ps := rfl
theorem wdss_app (ps qs : List Pt) : wdss (ps ++ qs) = wdss ps ++ wdss qs := by
  induction ps with
  | nil => rfl
  | cons p ps ih => rw [List.cons_append, wdss_cons, wdss_cons, ih, List.append_assoc]
theorem wdss_succ {ps : List Pt} {i : Nat} (h : i < ps.length) : wdss (ps.take (i + 1)) = wdss (ps.take i) ++ (ps[i]).wds := by
  rw [List.take_succ, List.getElem?_eq_getElem h, wdss_app]
  simp [wdss]
mutual
theorem wds_len : ∀ p : Pt, 1 ≤ (wds p).length ∧ (wds p).length ≤ 2 * (all p).length
  | .stay => by simp [wds, all]
  | .step b w => by simp [wds, all]
  | .mark b m => by simp [wds, all]
  | .seq b ps => by
    have := wdss_len ps
    simp [wds, all]
    omega
  | .many p => by
    have := wds_len p
    simp [wds, all]
    omega
theorem wdss_len : ∀ ps : List Pt, (wdss ps).length ≤ 2 * (alls ps).length
  | [] => by simp [wdss, alls]
  | p :: ps => by
    have := wds_len p
    have := wdss_len ps
    simp [wdss, alls]
    omega
end
theorem seq_len {b : Bool} {ps : List Pt} : ps.length + 1 ≤ (Pt.seq b ps).all.length := by
  have := flat_all_len ps
  rw [all_seq, List.length_cons, alls_flat]
  omega
end Pt
/-- a word of a text: short, no blank in it -/
def Wo (x : Str) : Prop := x.length ≤ 8 ∧ ∀ c ∈ x.cps.toList, c ≠ 32
theorem Nm.wo {x : Str} (h : Nm x) : Wo x := ⟨h.2.1, fun c hc => by have := h.2.2 c hc; omega⟩
theorem num_facts : ∀ n : Nat, n < 41 → (numS n).length ≤ 2 ∧ 1 ≤ (numS n).length ∧ (∀ c ∈ (numS n).cps.toList, 48 ≤ c ∧ c ≤ 57) ∧ PySem.intText? (numS n) = some (n : Int) ∧ ((numS n).cps.toList.head? = some 48 → numS n = "0") ∧ (n : Int).natAbs.log2 < 1920 := by decide +kernel
theorem num_wo {n : Nat} (h : n < 41) : Wo (numS n) := by
  obtain ⟨h1, h2, h3, -⟩ := num_facts n h
  exact ⟨by omega, fun c hc => by have := h3 c hc; omega⟩
theorem wds_wo (p : Pt) : p.okP Nm → p.all.length ≤ 40 → ∀ x ∈ p.wds, Wo x := fun h1 h2 => go p h1 h2
where
  go : ∀ p : Pt, p.okP Nm → p.all.length ≤ 40 → ∀ x ∈ p.wds, Wo x
  | .stay, h1, h2 => by
    intro x hx
    simp [Pt.wds] at hx
    subst hx
    exact ⟨by decide, by decide +kernel⟩
  | .step b w, h1, h2 => by
    intro x hx
    have hw := h1 _ (Pt.self_all _)
    simp [Pt.wds] at hx
    rcases hx with rfl | rfl
    · cases b <;> exact ⟨by decide, by decide +kernel⟩
    · rcases hw with rfl | hw
      · exact ⟨by decide, by decide +kernel⟩
      · exact hw.wo
  | .mark b m, h1, h2 => by
    intro x hx
    have hw : Nm m := h1 _ (Pt.self_all _)
    simp [Pt.wds] at hx
    rcases hx with rfl | rfl
    · cases b <;> exact ⟨by decide, by decide +kernel⟩
    · exact hw.wo
  | .seq b ps, h1, h2 => by
    intro x hx
    have hl := Pt.seq_len (b := b) (ps := ps)
    simp [Pt.wds] at hx
    rcases hx with rfl | rfl | hx
    · cases b <;> exact ⟨by decide, by decide +kernel⟩
    · exact num_wo (by omega)
    · exact gos ps (fun p hp => okP_kids h1 hp) (by rw [Pt.all_seq, List.length_cons] at h2; omega) x hx
  | .many p, h1, h2 => by
    intro x hx
    simp [Pt.wds] at hx
    rcases hx with rfl | hx
    · exact ⟨by decide, by decide +kernel⟩
    · exact go p (okP_kids h1 (by simp [Pt.kids])) (by rw [Pt.all_many, List.length_cons] at h2; omega) x hx
  gos : ∀ ps : List Pt, (∀ p ∈ ps, p.okP Nm) → (Pt.alls ps).length ≤ 40 → ∀ x ∈ Pt.wdss ps, Wo x
  | [], _, _ => fun x hx => by cases hx
  | p :: ps, h1, h2 => fun x hx => by
    rw [Pt.alls_cons, List.length_append] at h2
    rw [Pt.wdss_cons] at hx
    rcases List.mem_append.mp hx with z | z
    · exact go p (h1 p (List.mem_cons_self ..)) (by omega) x z
    · exact gos ps (fun q hq => h1 q (List.mem_cons_of_mem _ hq)) (by omega) x z
/-! a text taken apart at blanks -/
def SP : Str := ⟨#[32]⟩
theorem wo_sum {ws : List Str} (hw : ∀ w ∈ ws, Wo w) : (ws.map (·.length)).sum ≤ 8 * ws.length := by
  have := PySem.StrLaws.sumLen_le ws (B := 8) fun y hy => (hw y hy).1
  omega
end Dt
namespace Sh
open PySem PySem.Spec L2 Dt
end Sh
set_option maxRecDepth 100000
set_option maxHeartbeats 4000000
namespace Sh
open PySem PySem.Spec L2 Dt Sh
/-! K12: ways written and read: the plain law. -/
abbrev LETc : List Nat := (Str.ofString "abcdefghijklmnopqrstuvwxyz").cps.toList
def nmB (w : Str) : Bool := decide (1 ≤ w.length) && decide (w.length ≤ 8) && w.cps.toList.all fun c => decide (c ∈ LETc)
theorem nmB_nm {w : Str} (h : nmB w = true) : Nm w := by
  simp only [nmB, Bool.and_eq_true, decide_eq_true_eq, List.all_eq_true] at h
  have : ∀ c ∈ LETc, 97 ≤ c ∧ c ≤ 122 := by decide +kernel
  exact ⟨h.1.1, h.1.2, fun c hc => this c (h.2 c hc)⟩
def sdB (w : Str) : Bool := decide (w = "on") || decide (w = "back")
def bad (i : Nat) (w : Str) : Bool := if i % 3 = 1 then !sdB w || decide (180 < i) else !nmB w
/-- all words before the i-th are good -/
def Gd (ws : List Str) (i : Nat) : Prop := ∀ j, j < i → ∀ u, ws[j]? = some u → bad j u = false
theorem Gd.next {ws : List Str} {i : Nat} {w : Str} (h : Gd ws i) (e : ws[i]? = some w) (b : bad i w = false) : Gd ws (i + 1) := fun j hj u hu => by
  by_cases c : j = i
  · subst c; rw [e] at hu; cases hu; exact b
  · exact h j (by omega) u hu
/-- where a text of words is wrong first -/
def Wr (ws : List Str) : Option Nat → Prop
  | some j => Gd ws j ∧ ((∃ w, ws[j]? = some w ∧ bad j w = true) ∨ (j = ws.length ∧ ws.length % 3 ≠ 1))
  | none => Gd ws ws.length ∧ ws.length % 3 = 1
def wayD (x : Str) (ss : List T3) : D := .tup [.str x, .tup (ss.map triD)]
def flat (ss : List T3) : List Str := ss.flatMap fun t => [t.1, t.2.1, t.2.2]
/-- a step that is read -/
def StN (t : T3) : Prop := sdB t.1 = true ∧ Nm t.2.1 ∧ Nm t.2.2
end Sh
set_option maxRecDepth 100000
set_option maxHeartbeats 4000000
namespace Sh
open PySem PySem.Spec L2 Dt Sh
def sp_is_name : DSp := fun ds S Q _ => ∃ w : Str, ds = [.str w] ∧ w.length ≤ 1000000 ∧ Q (.bl (nmB w)) S
theorem sp_is_name_mono : SpMono sp_is_name := fun ds S Q Q' E E' k _ ⟨d, h1, h2, h⟩ => ⟨d, h1, h2, k _ _ h⟩
section
variable (N C : Addr)
/-- a Reader that is at word i, having read n parts -/
abbrev rdO (l : Addr) (i n : Nat) : Ob := .ins C [("words_read", .ref l), ("at_word", .int (i : Nat)), ("parts_read", .int (n : Nat))]
def Rd (S : DH) (r l : Addr) (ws : List Str) (i n : Nat) : Prop := S r = some (rdO C l i n) ∧ S l = some (.lst (ws.map D.str)) ∧ ws.length ≤ 1000000 ∧ i ≤ ws.length ∧ ∀ w ∈ ws, w.length ≤ 1000000
variable {C : Addr}
theorem Rd.ne {S r l ws i n} (h : Rd C S r l ws i n) : l ≠ r := fun e => by have h1 := h.1; have h2 := h.2.1; rw [e, h1] at h2; cases h2
theorem Rd.go {S r l ws i n j m} (h : Rd C S r l ws i n) (hj : j ≤ ws.length) : Rd C (upo S r (rdO C l j m)) r l ws j m := ⟨upo_same, (upo_ne h.ne).trans h.2.1, h.2.2.1, hj, h.2.2.2.2⟩
theorem Rd.ext {S S' r l ws i n} (h : Rd C S r l ws i n) (e : Ext S S') : Rd C S' r l ws i n := ⟨e _ _ h.1, e _ _ h.2.1, h.2.2⟩
variable (C : Addr)
def sp_Reader_init : DSp := fun ds S Q _ => ∃ (r l : Addr), ds = [.ref r, .ref l, .int 0] ∧ S r = some (.ins C []) ∧ Q .non (upo S r (rdO C l 0 0))
theorem sp_Reader_init_mono : SpMono (sp_Reader_init C) := fun ds S Q Q' E E' k _ ⟨r, l, h1, h2, h⟩ => ⟨r, l, h1, h2, k _ _ h⟩
def sp_Reader_next_word : DSp := fun ds S Q E => ∃ (r l : Addr) (ws : List Str) (i n : Nat), ds = [.ref r] ∧ Rd C S r l ws i n ∧ (∀ w, ws[i]? = some w → Q (.str w) (upo S r (rdO C l (i + 1) n))) ∧ (i = ws.length → E N [("at", .int (i : Nat))] S)
theorem sp_Reader_next_word_mono : SpMono (sp_Reader_next_word N C) := fun ds S Q Q' E E' k kE ⟨r, l, ws, i, n, h1, h2, h3, h⟩ => ⟨r, l, ws, i, n, h1, h2, fun w e => k _ _ (h3 w e), fun e => kE _ _ _ (h e)⟩
def sp_Reader_ask_last : DSp := fun ds S Q E => ∃ (r l : Addr) (ws : List Str) (i n : Nat) (b : Bool), ds = [.ref r, .bl b] ∧ Rd C S r l ws (i + 1) n ∧ (b = true → Q .non S) ∧ (b = false → E N [("at", .int (i : Nat))] S)
theorem sp_Reader_ask_last_mono : SpMono (sp_Reader_ask_last N C) := fun ds S Q Q' E E' k kE ⟨r, l, ws, i, n, b, h1, h2, h3, h⟩ => ⟨r, l, ws, i, n, b, h1, h2, fun e => k _ _ (h3 e), fun e => kE _ _ _ (h e)⟩
def sp_Reader_name_next : DSp := fun ds S Q E => ∃ (r l : Addr) (ws : List Str) (i n : Nat), ds = [.ref r] ∧ Rd C S r l ws i n ∧
  (∀ w, ws[i]? = some w → nmB w = true → Q (.str w) (upo S r (rdO C l (i + 1) n))) ∧ (∀ w, ws[i]? = some w → nmB w = false → E N [("at", .int (i : Nat))] (upo S r (rdO C l (i + 1) n))) ∧ (i = ws.length → E N [("at", .int (i : Nat))] S)
theorem sp_Reader_name_next_mono : SpMono (sp_Reader_name_next N C) := fun ds S Q Q' E E' k kE ⟨r, l, ws, i, n, h1, h2, h3, h4, h⟩ => ⟨r, l, ws, i, n, h1, h2, fun w e b => k _ _ (h3 w e b), fun w e b => kE _ _ _ (h4 w e b), fun e => kE _ _ _ (h e)⟩
def sp_Reader_way : DSp := fun ds S Q E => ∃ (r l : Addr) (ws : List Str) (n : Nat), ds = [.ref r] ∧ Rd C S r l ws 0 n ∧
  (∀ k ss, ws = k :: flat ss → Nm k → (∀ t ∈ ss, StN t) → ss.length ≤ 60 → Q (wayD k ss) (upo S r (rdO C l ws.length n))) ∧ (∀ j i, Wr ws (some j) → E N [("at", .int (j : Nat))] (upo S r (rdO C l i n)))
end
def sp_read_way (N _ : Addr) : DSp := fun ds S Q E => ∃ z : Str, ds = [.str z] ∧ z.length ≤ 500000 ∧
  (∀ k ss, Txt.split z (Str.ofString " ") = k :: flat ss → Nm k → (∀ t ∈ ss, StN t) → ss.length ≤ 60 → Q (wayD k ss) S) ∧ (∀ j, Wr (Txt.split z (Str.ofString " ")) (some j) → E N [("at", .int (j : Nat))] S)
def sp_shown_way : DSp := fun ds S Q _ => ∃ (k : Str) (ss : List T3), ds = [wayD k ss] ∧ Nm k ∧ (∀ t ∈ ss, StN t) ∧ ss.length ≤ 60 ∧ Q (.str (Txt.join (Str.ofString " ") (k :: flat ss))) S
def t_is_name : DTS := (dSeq (dIf (dOr (dNot (dTest (dIsi "str" (dVar 0)))) (dOr (dTest (dOp rLt (dCB cLen (dCons (dVar 0) dNil)) (dC (.int 1)))) (dTest (dOp rGt (dCB cLen (dCons (dVar 0) dNil)) (dC (.int 8))))))
      (dRet (dC (.bl false)))
      dNx)
    (dRet (dCB cAll (dCons (dFz (dLc (dSeqI (dVar 0)) (dGN 1) dYes (dOp (dInS false) (dVar 1) (dC (.str "abcdefghijklmnopqrstuvwxyz"))) [1])) dNil))))
abbrev N_is_name : List Str := ["thing", "sign"]
def t_Reader_init (C_Reader : Addr) : DTS := (dSeq (dPutF C_Reader "words_read" (dVar 0) (dVar 1))
    (dSeq (dPutF C_Reader "at_word" (dVar 0) (dVar 2))
    (dPutF C_Reader "parts_read" (dVar 0) (dC (.int 0)))))
abbrev N_Reader_init : List Str := ["self", "words", "at"]
def t_shown_way : DTS := (dRet (dBM "str" mJoin (dC (.str " ")) (dCons (dOp dAddF (dLstF (dCons (dOp dIxS (dVar 0) (dC (.int 0))) dNil)) (dFz (dLc (dSeqI (dOp dIxS (dVar 0) (dC (.int 1)))) (dGN 1) dYes (dBM "str" mJoin (dC (.str " ")) (dCons (dVar 1) dNil)) [1]))) dNil)))
abbrev N_shown_way : List Str := ["way", "step"]
def t_Reader_next_word (C_NoText : Addr) (C_Reader : Addr) : DTS := (dSeq (dIf (dTest (dOp (dEq false) (dFld C_Reader "at_word" (dVar 0)) (dCB cLen (dCons (dFld C_Reader "words_read" (dVar 0)) dNil))))
      (dRaise C_NoText (sp_NoText_init C_NoText) (dCons (dFld C_Reader "at_word" (dVar 0)) dNil))
      dNx)
    (dSeq (dPutF C_Reader "at_word" (dVar 0) (dOp dAddF (dFld C_Reader "at_word" (dVar 0)) (dC (.int 1))))
    (dRet (dOp dIxS (dFld C_Reader "words_read" (dVar 0)) (dOp rSub (dFld C_Reader "at_word" (dVar 0)) (dC (.int 1)))))))
abbrev N_Reader_next_word : List Str := ["self"]
def t_Reader_ask_last (C_NoText : Addr) (C_Reader : Addr) : DTS := (dIf (dNot (dTest (dVar 1)))
      (dRaise C_NoText (sp_NoText_init C_NoText) (dCons (dOp rSub (dFld C_Reader "at_word" (dVar 0)) (dC (.int 1))) dNil))
      dNx)
abbrev N_Reader_ask_last : List Str := ["self", "good"]
def t_Reader_name_next (C_NoText : Addr) (C_Reader : Addr) : DTS := (dSeq (dAsg (dMeth C_Reader "next_word" (sp_Reader_next_word C_NoText C_Reader) (dVar 0) dNil) (dGN 1))
    (dSeq (dDrop (dMeth C_Reader "ask_last" (sp_Reader_ask_last C_NoText C_Reader) (dVar 0) (dCons (dCall sp_is_name (dCons (dVar 1) dNil)) dNil)))
    (dRet (dVar 1))))
abbrev N_Reader_name_next : List Str := ["self", "word"]
def t_Reader_way (C_NoText : Addr) (C_Reader : Addr) : DTS := (dSeq (dAsg (dMeth C_Reader "name_next" (sp_Reader_name_next C_NoText C_Reader) (dVar 0) dNil) (dGN 1))
    (dSeq (dAsg (dLst dNil) (dGN 2))
    (dSeq (dWhile (dTest (dOp rLt (dFld C_Reader "at_word" (dVar 0)) (dCB cLen (dCons (dFld C_Reader "words_read" (dVar 0)) dNil))))
      (dSeq (dAsg (dMeth C_Reader "next_word" (sp_Reader_next_word C_NoText C_Reader) (dVar 0) dNil) (dGN 3))
    (dSeq (dDrop (dMeth C_Reader "ask_last" (sp_Reader_ask_last C_NoText C_Reader) (dVar 0) (dCons (dAndV (dOp (dIn false) (dVar 3) (dC (.tup [.str "on", .str "back"]))) (dOp rLt (dCB cLen (dCons (dVar 2) dNil)) (dC (.int 60)))) dNil)))
    (dSeq (dAsg (dMeth C_Reader "name_next" (sp_Reader_name_next C_NoText C_Reader) (dVar 0) dNil) (dGN 4))
    (dDrop (dBM "list" mAppend (dVar 2) (dCons (dTup (dCons (dVar 3) (dCons (dVar 4) (dCons (dMeth C_Reader "name_next" (sp_Reader_name_next C_NoText C_Reader) (dVar 0) dNil) dNil)))) dNil)))))))
    (dRet (dTup (dCons (dVar 1) (dCons (dCB cTuple (dCons (dVar 2) dNil)) dNil)))))))
abbrev N_Reader_way : List Str := ["self", "knot", "steps", "side", "word"]
def t_read_way (C_NoText : Addr) (C_Reader : Addr) : DTS := (dRet (dMeth C_Reader "way" (sp_Reader_way C_NoText C_Reader) (dMake C_Reader (sp_Reader_init C_Reader) (dCons (dBM "str" mSplit (dVar 0) (dCons (dC (.str " ")) dNil)) (dCons (dC (.int 0)) dNil))) dNil))
abbrev N_read_way : List Str := ["text"]
theorem all_in2 {al x : Str} {E : DW} {a b : Option D} {S : DH} {Q : DK} {G : DH → Prop} (hG : ∀ S, G S) (hx : x.length ≤ 100) (h : Q (.bl (x.cps.toList.all fun c => decide (c ∈ al.cps.toList))) S) :
    newO S (.lst []) fun p S1 => dLcL (dGN 1) dYes (dOp (dInS false) (dVar 1) (dC (.str al))) E [a, b] G p (fzK (fun d S1 => cAll [d] S1 Q) (.ref p)) (x.cps.toList.map signD) S1 := by
  have hs : x.cps.toList.length = x.length := by simp [Str.length]
  refine lcF_map (fun d => match d with | .str s => .bl (!(Builtin.Str.occurrences al s 0 al.length 1).isEmpty) | _ => .non) (fun _ _ _ => hG _) (fun d hd acc p N hp hl hN => ?_) (by rw [List.length_map, hs]; exact Nat.lt_of_le_of_lt hx (by decide)) ?_
  · obtain ⟨c, hc, rfl⟩ := List.mem_map.mp hd
    simp [signD]
    exact ⟨hl, hN⟩
  · refine ⟨_, x.cps.toList.map fun c => decide (c ∈ al.cps.toList), rfl, ?_, ?_⟩
    · simp only [seqD_rol, List.map_map]
      refine congrArg some (List.map_congr_left fun c _ => ?_)
      simp only [Function.comp, signD]
      rw [PySem.StrLaws.found_one]
    · rw [List.all_map]
      exact h
theorem r_is_name (ds S Q E) (h : sp_is_name ds S Q E) : t_is_name (dEnd Q E) (dstart N_is_name ds) S := by
  obtain ⟨x, rfl, hx, h⟩ := h
  simp [t_is_name, dstart]
  refine ⟨by omega, ?_⟩
  by_cases c1 : x.length < 1
  · rw [if_pos (by omega)]
    have : nmB x = false := by simp [nmB]; omega
    rw [this] at h
    exact .same h
  rw [if_neg (by omega)]
  refine ⟨by omega, ?_⟩
  by_cases c2 : 8 < x.length
  · rw [if_pos (by omega)]
    have : nmB x = false := by simp [nmB]; omega
    rw [this] at h
    exact .same h
  rw [if_neg (by omega)]
  refine all_in2 (fun _ => trivial) (by omega) (.same ?_)
  have e : (x.cps.toList.all fun c => decide (c ∈ (Str.ofString "abcdefghijklmnopqrstuvwxyz").cps.toList)) = nmB x := by
    have a1 : 1 ≤ x.length := by omega
    have a2 : x.length ≤ 8 := by omega
    simp only [nmB, a1, a2, decide_true, Bool.true_and]
  rw [e]
  exact h
section
variable {N C : Addr}
@[simp] theorem fr1 (a b c : D) : List.lookup (Str.ofString "words_read") [(Str.ofString "words_read", a), (Str.ofString "at_word", b), (Str.ofString "parts_read", c)] = some a := by simp [List.lookup]
@[simp] theorem fr2 (a b c : D) : List.lookup (Str.ofString "at_word") [(Str.ofString "words_read", a), (Str.ofString "at_word", b), (Str.ofString "parts_read", c)] = some b := by
  rw [List.lookup, show (Str.ofString "at_word" == Str.ofString "words_read") = false from by decide +kernel]; simp [List.lookup]
theorem r_Reader_init (ds S Q E) (h : sp_Reader_init C ds S Q E) : t_Reader_init C (dEnd Q E) (dstart N_Reader_init ds) S := by
  obtain ⟨r, l, rfl, hr, h⟩ := h
  simp [t_Reader_init, dstart, hr, putFD]
  exact .same h
theorem put_at (a b c d : D) : putFD (Str.ofString "at_word") d [(Str.ofString "words_read", a), (Str.ofString "at_word", b), (Str.ofString "parts_read", c)] = [(Str.ofString "words_read", a), (Str.ofString "at_word", d), (Str.ofString "parts_read", c)] := by
  simp [putFD]
theorem brn_nat {i : Nat} (h : i ≤ 10000000) : Brn (.int (i : Int)) := by
  show (i : Int).natAbs.log2 < 1900
  rw [Int.natAbs_natCast]
  by_cases e : i = 0
  · subst e; decide
  · rw [Nat.log2_lt e]
    have : (10000000 : Nat) < 2 ^ 1900 := by decide +kernel
    omega
/-- a refusal, as it is raised -/
theorem raise_ok {S : DH} {f : Str} {d : D} {E : DXK} (hb : Brn d) (w : E N [(f, d)] S) : ∀ a, S a = none → spX1 N f [.ref a, d] (upo S a (.ex0 N)) (fun d' S' => d' = .non ∧ ∃ dx, ¬dx = a ∧ S' a = some (.ex1 N dx) ∧ ∃ x, S' dx = some (.xm x) ∧ ∃ S'', Dt.Sub S'' (delo (delo S' a) dx) ∧ E N x S'') (fun _ _ _ => False) := by
  refine fun a ha => ⟨a, d, rfl, upo_same, hb, fun dx hd ne => ⟨rfl, dx, ne, upo_same, [(f, d)], by rw [upo_ne ne, upo_same], S, fun b o hb => ?_, w⟩⟩
  rw [upo_ne ne] at hd
  have ba : b ≠ a := fun z => by rw [z, ha] at hb; cases hb
  have bd : b ≠ dx := fun z => by rw [z, hd] at hb; cases hb
  simp [delo, ba, bd]
  rw [upo_ne ba, upo_ne bd, upo_ne ba, hb]
theorem r_Reader_next_word (ds S Q E) (h : sp_Reader_next_word N C ds S Q E) : t_Reader_next_word N C (dEnd Q E) (dstart N_Reader_next_word ds) S := by
  obtain ⟨r, l, ws, i, n, rfl, hr, hq, hx⟩ := h
  obtain ⟨h1, h2, h3, h4, h5⟩ := id hr
  have ne := hr.ne
  have hl : ∀ o, upo S r o l = some (.lst (ws.map D.str)) := fun o => (upo_ne ne).trans h2
  unfold t_Reader_next_word
  refine dSeqIf_gen fun R1 R2 R e1 e2 e3 => ?_
  simp [dstart, h1, h2]
  by_cases c : i = ws.length
  · rw [if_pos (by omega)]
    subst e1
    simp [h1]
    exact raise_ok (brn_nat (by omega)) (hx c)
  · rw [if_neg (by omega)]
    subst e2 e3
    simp [h1, put_at, hl]
    obtain ⟨w, hw⟩ : ∃ w, ws[i]? = some w := ⟨_, List.getElem?_eq_getElem (by omega)⟩
    rw [atI_nat (xs := ws.map D.str) (j := i) (v := .str w) (by rw [List.getElem?_map, hw]; rfl), opt_some]
    exact .same (hq w hw)
theorem r_Reader_ask_last (ds S Q E) (h : sp_Reader_ask_last N C ds S Q E) : t_Reader_ask_last N C (dEnd Q E) (dstart N_Reader_ask_last ds) S := by
  obtain ⟨r, l, ws, i, n, b, rfl, hr, hq, hx⟩ := h
  obtain ⟨h1, h2, h3, h4, h5⟩ := id hr
  unfold t_Reader_ask_last
  refine dIf_gen fun R1 R2 e1 e2 => ?_
  simp [dstart]
  cases b with
  | true => simp; subst e2; simp; exact .same (hq rfl)
  | false =>
    simp
    subst e1
    simp [h1]
    exact raise_ok (brn_nat (by omega)) (hx rfl)
theorem r_Reader_name_next (ds S Q E) (h : sp_Reader_name_next N C ds S Q E) : t_Reader_name_next N C (dEnd Q E) (dstart N_Reader_name_next ds) S := by
  obtain ⟨r, l, ws, i, n, rfl, hr, hq, hb, hx⟩ := h
  obtain ⟨h1, h2, h3, h4, h5⟩ := id hr
  unfold t_Reader_name_next
  refine dSeq_gen fun R hR => ?_
  simp [dstart, h1]
  refine ⟨r, l, ws, i, n, rfl, hr, fun w hw => ?_, fun e => ⟨S, fun _ _ h => h, hx e⟩⟩
  have hi := (List.getElem?_eq_some_iff.mp hw).1
  have hr2 : Rd C (upo S r (rdO C l (i + 1) n)) r l ws (i + 1) n := hr.go (by omega)
  simp
  subst hR
  refine dSeq_gen fun R hR => ?_
  simp
  refine ⟨w, rfl, h5 w (List.mem_of_getElem? hw), ?_⟩
  simp
  refine ⟨r, l, ws, i, n, nmB w, rfl, hr2, fun e => ?_, fun e => ⟨_, fun _ _ h => h, hb w hw e⟩⟩
  subst hR
  simp
  exact .same (hq w hw e)
theorem split_sz (z : Str) : (Txt.split z (Str.ofString " ")).length ≤ z.length + 1 ∧ ∀ w ∈ Txt.split z (Str.ofString " "), w.length ≤ z.length := by
  have e := PySem.StrLaws.join_split z (Str.ofString " ")
  have s : (Str.join (Str.ofString " ") (Txt.split z (Str.ofString " "))).length = ((Txt.split z (Str.ofString " ")).map (·.length)).sum + ((Txt.split z (Str.ofString " ")).length - 1) * (Str.ofString " ").length := by rw [← PySem.StrLaws.glued_eq_join]; exact PySem.size_glued _ _
  rw [e, show (Str.ofString " ").length = 1 from rfl] at s
  refine ⟨by omega, fun w hw => ?_⟩
  have := PySem.join_mem_le (Str.ofString " ") _ w hw
  rwa [e] at this
end
end Sh
set_option maxRecDepth 100000
set_option maxHeartbeats 4000000
namespace Sh
open PySem PySem.Spec L2 Dt Sh
/-! K11: texts that write no pattern: the plain law. -/
inductive Srt where | part | word | mark | number
deriving DecidableEq
def hdB (w : Str) : Bool := decide (w = "stay") || decide (w = "on") || decide (w = "back") || decide (w = "at") || decide (w = "off") || decide (w = "then") || decide (w = "either") || decide (w = "many")
def numN (w : Str) : Option Nat := (List.range 40).find? fun n => decide (numS n = w)
theorem numN_some {w : Str} {n : Nat} (h : numN w = some n) : n < 40 ∧ numS n = w := by
  have h1 := List.find?_some h
  have h2 := List.mem_of_find?_eq_some h
  exact ⟨List.mem_range.mp h2, by simpa using h1⟩
def wdB (w : Str) : Bool := decide (w = "*") || nmB w
def fitS : Srt → Str → Bool
  | .word, w => wdB w
  | .mark, w => nmB w
  | _, w => hdB w
def wantS (w : Str) (d : Nat) : List (Srt × Nat) := if w = "on" ∨ w = "back" then [(.word, d)] else if w = "at" ∨ w = "off" then [(.mark, d)] else if w = "many" then [(.part, d + 1)] else if w = "stay" then [] else [(.number, d)]
/-- where words are wrong first: what is wanted, the parts so far, the place -/
def run : List (Srt × Nat) → Nat → Nat → List Str → Option Nat
  | [], _, _, [] => none
  | [], _, i, _ :: _ => some i
  | _ :: _, _, i, [] => some i
  | (.number, d) :: k, n, i, w :: r => match numN w with | none => some i | some m => run (List.replicate m (.part, d + 1) ++ k) n (i + 1) r
  | (.part, d) :: k, n, i, w :: r => if hdB w = true ∧ d ≤ 10 ∧ n + 1 ≤ 40 then run (wantS w d ++ k) (n + 1) (i + 1) r else some i
  | (.word, d) :: k, n, i, w :: r => if wdB w = true then run k n (i + 1) r else some i
  | (.mark, d) :: k, n, i, w :: r => if nmB w = true then run k n (i + 1) r else some i
/-- reading goes on -/
def Ct (ws : List Str) (pre : List (Srt × Nat)) (n i n' i' : Nat) : Prop := ∀ k, run (pre ++ k) n i (ws.drop i) = run k n' i' (ws.drop i')
/-- reading ends at j -/
def Fl (ws : List Str) (pre : List (Srt × Nat)) (n i j : Nat) : Prop := ∀ k, run (pre ++ k) n i (ws.drop i) = some j
section
variable {ws : List Str} {a b : List (Srt × Nat)} {n i n1 i1 n2 i2 j d : Nat} {w : Str}
theorem Ct.refl : Ct ws [] n i n i := fun _ => rfl
theorem Ct.then (h : Ct ws a n i n1 i1) (g : Ct ws b n1 i1 n2 i2) : Ct ws (a ++ b) n i n2 i2 := fun k => by rw [List.append_assoc, h, g]
theorem Ct.fl (h : Ct ws a n i n1 i1) (g : Fl ws b n1 i1 j) : Fl ws (a ++ b) n i j := fun k => by rw [List.append_assoc, h, g]
theorem Fl.more (h : Fl ws a n i j) : Fl ws (a ++ b) n i j := fun k => by rw [List.append_assoc, h]
theorem drop_cons (e : ws[i]? = some w) : ws.drop i = w :: ws.drop (i + 1) := by
  obtain ⟨h, rfl⟩ := List.getElem?_eq_some_iff.mp e
  exact List.drop_eq_getElem_cons h
theorem Fl.out {s : Srt} (e : i = ws.length) : Fl ws [(s, d)] n i i := fun k => by
  rw [List.drop_of_length_le (by omega)]
  cases s <;> rfl
theorem ct_part (e : ws[i]? = some w) (h1 : hdB w = true) (h2 : d ≤ 10) (h3 : n + 1 ≤ 40) (g : Ct ws (wantS w d) (n + 1) (i + 1) n2 i2) : Ct ws [(.part, d)] n i n2 i2 := fun k => by
  rw [drop_cons e, ← g k]
  show (if _ then _ else _) = _
  rw [if_pos ⟨h1, h2, h3⟩]; rfl
theorem fl_part (e : ws[i]? = some w) (h1 : hdB w = true) (h2 : d ≤ 10) (h3 : n + 1 ≤ 40) (g : Fl ws (wantS w d) (n + 1) (i + 1) j) : Fl ws [(.part, d)] n i j := fun k => by
  rw [drop_cons e, ← g k]
  show (if _ then _ else _) = _
  rw [if_pos ⟨h1, h2, h3⟩]; rfl
theorem fl_part0 (e : ws[i]? = some w) (h : ¬(hdB w = true ∧ d ≤ 10 ∧ n + 1 ≤ 40)) : Fl ws [(.part, d)] n i i := fun k => by
  rw [drop_cons e]
  show (if _ then _ else _) = _
  rw [if_neg h]
theorem ct_word (e : ws[i]? = some w) (h : wdB w = true) : Ct ws [(.word, d)] n i n (i + 1) := fun k => by
  rw [drop_cons e]
  show (if _ then _ else _) = _
  rw [if_pos h]; rfl
theorem fl_word (e : ws[i]? = some w) (h : wdB w = false) : Fl ws [(.word, d)] n i i := fun k => by
  rw [drop_cons e]
  show (if _ then _ else _) = _
  rw [if_neg (by simp [h])]
theorem ct_mark (e : ws[i]? = some w) (h : nmB w = true) : Ct ws [(.mark, d)] n i n (i + 1) := fun k => by
  rw [drop_cons e]
  show (if _ then _ else _) = _
  rw [if_pos h]; rfl
theorem fl_mark (e : ws[i]? = some w) (h : nmB w = false) : Fl ws [(.mark, d)] n i i := fun k => by
  rw [drop_cons e]
  show (if _ then _ else _) = _
  rw [if_neg (by simp [h])]
theorem ct_num {m : Nat} (e : ws[i]? = some w) (h : numN w = some m) (g : Ct ws (List.replicate m (.part, d + 1)) n (i + 1) n2 i2) : Ct ws [(.number, d)] n i n2 i2 := fun k => by
  rw [drop_cons e, ← g k]
  show (match numN w with | none => _ | some m => _) = _
  rw [h]; rfl
theorem fl_num {m : Nat} (e : ws[i]? = some w) (h : numN w = some m) (g : Fl ws (List.replicate m (.part, d + 1)) n (i + 1) j) : Fl ws [(.number, d)] n i j := fun k => by
  rw [drop_cons e, ← g k]
  show (match numN w with | none => _ | some m => _) = _
  rw [h]; rfl
theorem fl_num0 (e : ws[i]? = some w) (h : numN w = none) : Fl ws [(.number, d)] n i i := fun k => by
  rw [drop_cons e]
  show (match numN w with | none => _ | some m => _) = _
  rw [h]
end
theorem want_side {w : Str} (h : sdB w = true) (d : Nat) : wantS w d = [(.word, d)] := by
  simp only [sdB, Bool.or_eq_true, decide_eq_true_eq] at h
  simp [wantS, h]
def moB (w : Str) : Bool := decide (w = "at") || decide (w = "off")
theorem want_mark {w : Str} (h : moB w = true) (d : Nat) : wantS w d = [(.mark, d)] := by
  simp only [moB, Bool.or_eq_true, decide_eq_true_eq] at h
  rcases h with rfl | rfl
  · simp [wantS]
  · simp [wantS]
theorem want_many (d : Nat) : wantS "many" d = [(.part, d + 1)] := by simp [wantS]
theorem want_stay (d : Nat) : wantS "stay" d = [] := by simp [wantS]
theorem want_num {w : Str} (h1 : sdB w = false) (h2 : moB w = false) (h3 : w ≠ "many") (h4 : w ≠ "stay") (d : Nat) : wantS w d = [(.number, d)] := by
  simp only [sdB, moB, Bool.or_eq_false_iff, decide_eq_false_iff_not] at h1 h2
  simp [wantS, h1, h2, h3, h4]
theorem hd_num {w : Str} (h : hdB w = true) (h1 : sdB w = false) (h2 : moB w = false) (h3 : w ≠ "many") (h4 : w ≠ "stay") : ∃ b : Bool, w = if b then "then" else "either" := by
  simp only [hdB, sdB, moB, Bool.or_eq_true, Bool.or_eq_false_iff, decide_eq_true_eq, decide_eq_false_iff_not] at h h1 h2
  rcases h with ((((((h | h) | h) | h) | h) | h) | h) | h
  · exact absurd h h4
  · exact absurd h h1.1
  · exact absurd h h1.2
  · exact absurd h h2.1
  · exact absurd h h2.2
  · exact ⟨true, h⟩
  · exact ⟨false, h⟩
  · exact absurd h h3
end Sh
set_option maxRecDepth 100000
set_option maxHeartbeats 4000000
namespace Dt
open PySem PySem.Spec L2 PySem.W PyProof.Rows
open HandSPX (TracedZ FlyingZ HeldZ Steady looks_onZ look_newZ againZ setFlight_onZ wpAny_entryZ)
/-! DatLx: a def that raises within a list comprehension. -/
section
variable {M : Model} {A : Around} {E : Value → Shared → Prop} {s : Shared} {Z : Obj → Prop} {base : Heap} {env : Env} {outer : List Env} {L e : Addr}
/-- noted by a frame that does not hold it yet, whatever flight it has -/
theorem looks_onV {fl : Value} {Q : Unit → Shared → Prop} (sz : Steady Z) (ha : A.frames = some (env :: outer)) (hf : env.frame = some L) (hv : (fl == rawInt L) = false) (st : base.StaysIn s.heap) (nb : base.get? e = none) (ff : s.heap.FunFrames base (env :: outer)) (tr : TracedZ s.heap base e Z fl)
    (k : ∀ h', HeldZ base (env :: outer) e Z L h' → s.heap.UpToSlots h' → Q () { s with heap := h' }) : wpAny M A (noteFrame (.ref e) env) Q E s := by
  obtain ⟨xo, fv, t, to, tv, g1, g2, g3, g4, g5, g6, g7, g8, g9⟩ := tr
  unfold noteFrame
  simp only [hf]
  refine wpAny_bind (wpAny_field g1 g3 g4 ?_)
  rw [if_pos (by simp : (Value.ref t != Value.none) = true)]
  refine wpAny_bind (wpAny_field g7 g8 g9 ?_)
  rw [if_neg (by rw [hv]; decide)]
  refine wpAny_bind (wpAny_setField g7 g8 (Array.getElem?_eq_some_iff.mp g9).1 ?_)
  generalize hU : s.heap.update t (Obj.mapFields (·.setIfInBounds 3 Value.none)) = U
  have away : ∀ b, b ≠ t → U.get? b = s.heap.get? b := fun b q => by rw [← hU]; exact Heap.get?_update_other _ _ (Ne.symm q)
  have rc0 : ∀ b o, s.heap.get? b = some o → (∀ vs, o.data ≠ .fields vs) → U.get? b = some o := fun b o q r => (away b fun z => by
    subst z
    rw [g7] at q
    cases q
    exact r tv g8).trans q
  have f2 : U.FunFrames base (env :: outer) := ff.of_keeps fun b o q r => ⟨o, rc0 b o q r, rfl⟩
  have s2 : base.StaysIn U := fun b o q => (away b fun z => by subst z; rw [g5] at q; cases q).trans (st b o q)
  refine wpAny_entryZ (s := { s with heap := U }) sz ha f2 hf ((away e (Ne.symm g6)).trans g1) s2 nb g3 (Array.getElem?_eq_some_iff.mp g4).1 g2 fun h' n => ?_
  exact k h' ⟨n.1, nb, n.2.1, n.2.2.1⟩ fun b o q r => n.2.2.2 b o (rc0 b o q r) r
end
section
variable {X : Cx} {pins : List (Addr × Obj)} {σ : L2.St} {H : Hp} {s : Shared}
/-- an exception out of a block's element is held by the def's own frame -/
theorem blk_flee {scope : Scope} {ce : Env} {fp : List Addr} {W WB : WX} (hs : X.stack = X.env :: X.outer) (hf : X.env.frame = some X.env.locals) (I : Inv X pins σ H s) (f3 : ∀ b ∈ fp, FpOk X pins H b ∧ b < s.heap.objs.size) (tk : Takes X W)
    (hW : ∀ cls d σ' H', WB cls d σ' H' → W cls d σ H') (cf : ce.frame = X.env.frame) (cL : ce.locals = s.heap.objs.size) {u : Value} {s' : Shared} (x : XE (X.blk s H scope ce fp) WB u s') : notedBy (model X.prog X.w) X.A ce (CompFails (model X.prog X.w) X.A X.xe ce) u s' := by
  obtain ⟨a, B, sI, pins', σ', H', cls, d, rfl, J, nb, up, sky, na, os, ag, w⟩ := x
  have nb : ∀ b o, sI.heap.get? b = some o → b ∉ frs X.stack → B.get? b = some o := nb
  have sky : Sky B X.stack a (Zc cls d) ce.locals s'.heap := sky
  rw [cL] at sky
  generalize hC : s.heap.objs.size = C at sky
  have cC : ce.locals = C := cL.trans hC
  -- the state, as the def knows it
  have J7 : Inv X pins σ H' sI := I.call' (ch := fp) J.os J.base J.hok J.bare fun b hb => ⟨(f3 b hb).1.2.2.2.1, (f3 b hb).1.2.1, (f3 b hb).1.2.2.2.2.1, (f3 b hb).1.2.2.2.2.2⟩
  have hC' : H' C = none := by
    have z : H' ce.locals = none := J.free
    rw [cC] at z
    exact z
  obtain ⟨m, hn, _⟩ := J.loc
  have hn : sI.heap.Ns C m := by
    have z : sI.heap.Ns ce.locals m := hn
    rw [cC] at z
    exact z
  have fpC : FpOk X pins H' C := I.fpOk (Nat.le_of_eq hC) hC'
  have nL : C ≠ X.env.locals := fpC.2.1
  have nF : C ∉ frs X.stack := by
    rw [hs]
    intro hm
    obtain ⟨e, he, q⟩ := List.mem_filterMap.mp hm
    rcases List.mem_cons.mp he with rfl | he
    · rw [hf] at q
      cases q
      exact nL rfl
    · exact fpC.2.2.1 (List.mem_filterMap.mpr ⟨e, he, q⟩)
  obtain ⟨B2, b1, b2⟩ := restrict B fun b => decide (b ≠ C)
  obtain ⟨G, g1, g2⟩ := restrict sI.heap fun b => decide (b ≠ C)
  have b1 : ∀ b, b ≠ C → B2.get? b = B.get? b := fun b q => b1 b (decide_eq_true q)
  have b2 : B2.get? C = none := b2 C (decide_eq_false fun q => q rfl)
  have g1 : ∀ b, b ≠ C → G.get? b = sI.heap.get? b := fun b q => g1 b (decide_eq_true q)
  have g2 : G.get? C = none := g2 C (decide_eq_false fun q => q rfl)
  have sub : ∀ b o, B2.get? b = some o → B.get? b = some o ∧ b ≠ C := fun b o q => by
    have ne : b ≠ C := fun z => by rw [z, b2] at q; cases q
    exact ⟨(b1 b ne).symm.trans q, ne⟩
  have noB : ∀ b, B.get? b = none → B2.get? b = none := fun b q => by
    by_cases z : b = C
    · rw [z]; exact b2
    · rw [b1 b z]; exact q
  have J8 : Inv X pins σ H' { sI with heap := G } := J7.turned (t' := sI.toks) (fun b o hb q => (g1 b hb).trans q) fpC.1 fpC.2.1 fpC.2.2.2.1 fpC.2.2.2.2.1 fpC.2.2.2.2.2
  -- the exception is noted
  show wpAny _ _ (noteFrame (.ref a) ce) _ _ s'
  rw [noteFrame_env _ cf]
  have hfr : X.A.frames = some (X.env :: X.outer) := by rw [I.ok.frames, hs]
  have kk : ∀ h1, HeldZ B2 (X.env :: X.outer) a (Zc cls d) X.env.locals h1 → s'.heap.UpToSlots h1 → CompFails (model X.prog X.w) X.A X.xe ce (.ref a) { s' with heap := h1 } := fun h1 hh up1 => by
    have hn1 : h1.Ns C m := (hn.upToSlots up).upToSlots up1
    refine ⟨m, by rw [cC]; exact hn1, fun h2 m2 hn2 sb => ?_⟩
    rw [cC] at hn2 sb
    obtain ⟨k1, k2, k3, xo, fv, t, to, tv, e1, e2, e3, e4, e5, e6, e7, e8, e9⟩ := hh
    have isD : ∀ b o vs, h1.get? b = some o → o.data = .fields vs → b ≠ C := fun b o vs q r z => by
      obtain ⟨oL, es, ep, hoL, hdL, _⟩ := hn1
      rw [z, hoL] at q
      cases q
      rw [hdL] at r
      cases r
    have keep : ∀ b o, b ≠ C → h1.get? b = some o → h2.get? b = some o := fun b o q r => (sb.2 b q).trans r
    have held2 : HeldZ B2 (X.env :: X.outer) a (Zc cls d) X.env.locals h2 :=
      ⟨fun b o q => keep b o (sub b o q).2 (k1 b o q), k2, Heap.FunFrames.sameBut sb hn2 k3, xo, fv, t, to, tv, keep a xo (isD a xo fv e1 e3) e1, e2, e3, e4, e5, e6, keep t to (isD t to tv e7 e8) e7, e8, e9⟩
    unfold PySem.passOn
    refine wpAny_bind (wpAny_field (s := { s' with heap := h2 }) (keep a xo (isD a xo fv e1 e3) e1) e3 e4 ?_)
    rw [if_neg (by simp : ¬ ((Value.ref t == Value.none) = true)), cf, hf]
    refine wpAny_bind (setFlight_onZ (s := { s' with heap := h2 }) held2 fun h4 held4 up4 => wpAny_throw ?_)
    refine tk _ _ ⟨a, B2, { sI with heap := G }, pins, σ, H', cls, d, rfl, J8, fun b o q r => ?_, fun b o q r => ?_, .inr (.inr (by rw [hs]; exact held4)), na, os, ag, hW _ _ _ _ w⟩
    · have ne : b ≠ C := fun z => by rw [z] at q; have q : G.get? C = some o := q; rw [g2] at q; cases q
      exact (b1 b ne).trans (nb b o ((g1 b ne).symm.trans q) r)
    · have q : G.get? b = some o := q
      have ne : b ≠ C := fun z => by rw [z, g2] at q; cases q
      obtain ⟨s1, q1⟩ := up b o ((g1 b ne).symm.trans q) r
      obtain ⟨s2, q2⟩ := up1 b _ q1 r
      obtain ⟨s3, q3⟩ := up4 b _ (keep b _ ne q2) r
      exact ⟨s3, q3⟩
  have st : ∀ h1 : Heap, B.StaysIn h1 → B2.StaysIn h1 := fun h1 q b o r => q b o (sub b o r).1
  have fu : ∀ h1 : Heap, h1.FunFrames B X.stack → h1.FunFrames B2 (X.env :: X.outer) := fun h1 q => by
    rw [← hs]
    exact funFrames_none q fun L hL => noB L (q.mem hL).1
  rcases sky with ⟨hB, hnn, hl, oe, vs, he, hz, hd, h1⟩ | ⟨hB, hnn, hl, xo, fv, t, to, tv, e1, e2, e3, e4, e5, e6⟩ | ⟨hB, hnn, hl, xo, fv, t, to, tv, e1, e2, e3, e4, e5, e6⟩
  · exact look_newZ Zc.steady hfr (fu _ hl) hf he (st _ hB) (noB a hnn) hd h1 hz kk
  · exact looks_onV Zc.steady hfr hf (fl := .none) (by simp [rawInt]) (st _ hB) (noB a hnn) (fu _ hl) ⟨xo, fv, t, to, tv, e1, e2, e3, e4, noB t e5, e6⟩ kk
  · refine looks_onV Zc.steady hfr hf (fl := rawInt C) ?_ (st _ hB) (noB a hnn) (fu _ hl) ⟨xo, fv, t, to, tv, e1, e2, e3, e4, noB t e5, e6⟩ kk
    have nL : (C == X.env.locals) = false := by simpa using nL
    simp [rawInt]
    omega
/-- the context of a block that may raise -/
abbrev blkX (X : Cx) (s : Shared) (H : Hp) (scope : Scope) (ce : Env) (fp : List Addr) (WB : WX) : Cx := (X.blk s H scope ce fp).wish (XE (X.blk s H scope ce fp) WB)
/-- [elt for target in iter], the element may raise -/
def tLcX (X : Cx) (wi : TI) (g : TG) (te : WX → TE) (vs : List Nat) : TE := fun σ H Q => ∃ W WB : WX, Takes X W ∧ (∀ cls d σ' H', WB cls d σ' H' → W cls d σ H') ∧ tLc wi g tYes (te WB) vs σ H Q
theorem pe_lcX {elt tg iter : Expr} {scope : Scope} {own : List (Str × Nat)} {pos : Pos} {wi : TI} {g : TG} {te : WX → TE} (hst : X.stack = X.env :: X.outer) (hf : X.env.frame = some X.env.locals) (hc : X.calm = true) (hN : X.N.Nodup) (hi : PI X tg iter wi) (ok : BlkOk X.N X.env.scope scope own)
    (hg : ∀ (s : Shared) (H : Hp) (C : Addr) (cl : List (Str × Addr)) (fp : List Addr) (WB : WX), PG (blkX X s H scope (compEnvC scope cl C X.env) fp WB) tg g)
    (he : ∀ (s : Shared) (H : Hp) (C : Addr) (cl : List (Str × Addr)) (fp : List Addr) (WB : WX), PE (blkX X s H scope (compEnvC scope cl C X.env) fp WB) elt (te WB)) (hs : ∀ x, foldedSetIterable iter X.env x = pure x := by intro _; rfl) :
    PE X (.ListComp elt [⟨tg, iter, [], 0⟩] scope pos) (tLcX X wi g te (own.map (·.2))) := by
  refine ⟨fun pins s σ H Q I ⟨W, WB, tk, hW, h⟩ => ?_⟩
  rw [eval_ListComp]
  have hfree : ∀ y ∈ scope.names, y.2 = .free → ∃ c, X.env.cells.lookup y.1 = some c := fun y hy e => (ok.free y hy e).elim (fun k => I.ok.has _ (.inl k)) fun k => I.ok.has _ (.inr k)
  refine comprehension_at (use := none) rfl hs (closure_ok hfree) ok.kind (fun y hy e => by rw [ok.uniq y hy, e]) (thn (hi.run pins s σ H _ I h) fun xv s1 hx => thn hx fun itv s2 ⟨it, fp, tn, J, H2, ei, I2, T, st2, f2, q⟩ => ?_)
  subst ei
  refine wpAny_newObj_type (newEnv_comp ?_) (by show 0 ≤ sizeLine; decide)
  generalize hD : s2.heap.objs.size = D
  have hDn : H2 D = none := I2.hok.fresh (Nat.le_of_eq hD)
  obtain ⟨Wd, ⟨m0, w0⟩, turn⟩ := q D hDn
  generalize hs3 : ({ s2 with heap := s2.heap.push { cls := .type "list", data := .seq ([] : List Value).toArray } } : Shared) = s3
  have h3 : s3.heap = s2.heap.push { cls := .type "list", data := .seq ([] : List Value).toArray } := by rw [← hs3]
  have I3 : Inv X pins σ (upd H2 D (.lst [])) s3 := by
    rw [← hs3]
    refine I2.laid (t' := s2.toks) (fun b o e => Heap.get?_push_of_some _ e) (Nat.le_of_eq hD) ⟨Nat.zero_le _, [], 0, .nil, ?_⟩
    rw [← hD]
    exact Heap.get?_push_size _ rfl
  have f3 : ∀ b ∈ fp, FpOk X pins (upd H2 D (.lst [])) b ∧ b < s3.heap.objs.size := fun b hb => by
    obtain ⟨o, e, _⟩ := T.obj _ _ st2 b hb
    have hlt := Heap.lt_size e
    refine ⟨⟨?_, (f2 b hb).2⟩, by rw [h3, Heap.size_push]; exact Nat.lt_succ_of_lt hlt⟩
    rw [upd_ne (by rw [← hD]; exact Nat.ne_of_lt hlt)]
    exact (f2 b hb).1
  have st3 : tn 0 s3.heap := T.keep _ _ _ st2 fun b _ o e => by rw [h3]; exact Heap.get?_push_of_some _ e
  have I4 := block_start I3 ok hN f3
  have pg := hg s3 (upd H2 D (.lst [])) s3.heap.objs.size (cellsFrom (s3.heap.objs.size + 1) scope.names (cloFrom X.env.cells scope.names [])) fp WB
  have pe := he s3 (upd H2 D (.lst [])) s3.heap.objs.size (cellsFrom (s3.heap.objs.size + 1) scope.names (cloFrom X.env.cells scope.names [])) fp WB
  have nfp : ∀ b ∈ fp, (upd H2 D (.lst [])) b = none := fun b hb => (f3 b hb).1.1
  show codeAny _ _ (.compStart (.ListComp elt [⟨tg, iter, [], 0⟩] scope pos) 0 (.ref it) (.ref D) (compEnvC scope (cellsFrom (s3.heap.objs.size + 1) scope.names (cloFrom X.env.cells scope.names [])) s3.heap.objs.size X.env))
    (compEnds (model X.prog X.w) X.A X.xe none (EP X pins σ Q) (.ref D) (compEnvC scope (cellsFrom (s3.heap.objs.size + 1) scope.names (cloFrom X.env.cells scope.names [])) s3.heap.objs.size X.env)) { s3 with heap := pushCells (s3.heap.push { cls := .type "dict", data := .dict #[] }) scope.names }
  generalize hce : compEnvC scope (cellsFrom (s3.heap.objs.size + 1) scope.names (cloFrom X.env.cells scope.names [])) s3.heap.objs.size X.env = ce at I4 pg pe ⊢
  have cL : ce.locals = s3.heap.objs.size := by subst hce; rfl
  have cf : ce.frame = X.env.frame := by subst hce; rfl
  generalize hH3 : upd H2 D (.lst []) = H3 at I3 I4 pg pe w0 nfp f3
  generalize hs4 : ({ s3 with heap := pushCells (s3.heap.push { cls := .type "dict", data := .dict #[] }) scope.names } : Shared) = s4 at I4 ⊢
  have st4 : tn 0 s4.heap := T.keep _ _ _ st3 fun b _ o e => by rw [← hs4]; exact pushCells_keeps _ _ _ _ (Heap.get?_push_of_some _ e)
  have stat : ∀ {σ' : L2.St} {H' : Hp} {s' : Shared}, Inv (X.blk s3 H3 scope ce fp) [] σ' H' s' → (∀ b ∈ fp, H' b = none) → ∀ b ∈ fp, FpOk (X.blk s3 H3 scope ce fp) [] H' b := fun {σ' H' s'} I' hn b hb =>
    ⟨hn b hb, (I'.ok.exf b hb).1, I'.ok.exfs b hb, .inl hb, fun x c e => (I'.ok.exf b hb).2 x c e, fun p hp => absurd (show p ∈ ([] : List (Addr × Obj)) ++ [] from hp) (by simp)⟩
  -- what leaves the block
  have flee : ∀ e s', XE (X.blk s3 H3 scope ce fp) WB e s' → notedBy (model X.prog X.w) X.A ce (CompFails (model X.prog X.w) X.A X.xe ce) e s' := fun e s' x => blk_flee hst hf I3 f3 tk hW cf cL x
  have loop : codeAny (model X.prog X.w) X.A (.compLoop (.ListComp elt [⟨tg, iter, [], 0⟩] scope pos) 0 (.ref it) (.ref D) ce) (compEnds (model X.prog X.w) X.A X.xe none (EP X pins σ Q) (.ref D) ce) s4 := by
    refine compLoop_any (fun n s' => ∃ i H', Inv (X.blk s3 H3 scope ce fp) [] (L2.wipe σ (own.map (·.2))) H' s' ∧ tn i s'.heap ∧ (∀ b ∈ fp, H' b = none) ∧ Wd i n H') ?_ m0 ⟨0, H3, I4, st4, nfp, w0⟩
    rintro n s5 ⟨i, H5, I5, st5, n5, w5⟩
    rcases turn i n H5 w5 with ⟨stop, qq⟩ | ⟨go, Nx, hNx, step⟩
    · refine thnF (T.done (X.blk s3 H3 scope ce fp) rfl rfl rfl hc i [] s5 _ H5 (fun _ _ => False) I5 (stat I5 n5) st5 stop) fun r s6 ⟨hr, I6⟩ => ?_
      subst hr
      have I7 : Inv X pins σ H5 s6 := I3.call' (ch := fp) I6.os I6.base I6.hok I6.bare fun b hb => ⟨(f3 b hb).1.2.2.2.1, (f3 b hb).1.2.1, (f3 b hb).1.2.2.2.2.1, (f3 b hb).1.2.2.2.2.2⟩
      have nC : H5 s3.heap.objs.size = none := by
        have z : H5 ce.locals = none := I6.free
        rwa [cL] at z
      obtain ⟨m, hn, _⟩ := I6.loc
      have fC := I3.fpOk (Nat.le_refl _) nC
      refine ⟨m, hn, fun h'' sb => ⟨.ref D, H5, ?_, rfl, qq⟩⟩
      rw [cL] at sb
      exact I7.turned (t' := s6.toks) (fun b o hb e => (sb.2 b hb).trans e) fC.1 fC.2.1 fC.2.2.2.1 fC.2.2.2.2.1 fC.2.2.2.2.2
    · refine thnF (T.item (X.blk s3 H3 scope ce fp) rfl rfl rfl hc i [] s5 _ H5 (fun _ _ => False) I5 (stat I5 n5) st5 go) fun r s6 ⟨u, hr, h6⟩ => ?_
      subst hr
      refine thnF h6 fun _ s7 ⟨x, H7, I7, r7, y7, st7, n7⟩ => ?_
      have I7' := I7.pinned (stat I7 n7) (T.obj _ _ st7)
      refine wpAny_mono (pg.run _ s7 _ H7 x u _ (I7'.wish _) r7 (step x H7 y7)) (fun _ s8 ⟨σ8, H8, I8, hw8, q8⟩ => ?_) flee
      refine wpAny_tests_nil ?_
      rw [if_pos rfl]
      refine wpAny_mono (pe.run _ s8 σ8 H8 _ I8 q8) (fun z s10 ⟨yv, H10, I10, r10, acc, hD10, hz10, nx⟩ => app_ok (X := X.blk s3 H3 scope ce fp) I10.unwish hD10 hz10 r10 fun s11 I11 => ?_) flee
      obtain ⟨m', hm, w'⟩ := hNx _ nx
      have pin' : ∀ b ∈ fp, ∀ o, s7.heap.get? b = some o → s11.heap.get? b = some o ∧ upd H10 D (.lst (acc ++ [yv])) b = none := fun b hb o e =>
        let z := I11.pin (b, o) (List.mem_append_right _ (List.mem_append_right _ (mem_pinsAt hb e)))
        ⟨z.1, z.2.1⟩
      refine ⟨m', hm, i + 1, _, (I11.unpinned (pins := [])).weak (by rw [← hw8, wipe_length]) (fun j v e => ?_), T.keep _ _ _ st7 fun b hb o e => (pin' b hb o e).1, fun b hb => ?_, w'⟩
      · rw [← hw8] at e
        exact (wipe_some e).1
      · obtain ⟨o, e, _⟩ := T.obj _ _ st7 b hb
        exact (pin' b hb o e).2
  exact codeAny_compStart_list loop (T.self X.A 0 _ _ _ st4 loop)
end
/-- the element, what it raises told with the def's own names as they stand -/
def upEX (w : World) (K : PySem.W.Frag) (t : DTE) (WB : WX) : TE := fun σ H Q => ∃ (EB : DW) (H0 : Hp), WB = upW w K EB H0 ∧ LeH H0 H ∧ ∃ τ S, Rel w K τ S σ H ∧ t EB τ S fun d S' => ∀ v H', LeH H H' → Rep w K S' H' → RD K H' d v → Q v H'
theorem DE.runX {X : Cx} {s : Shared} {H : Hp} {scope : Scope} {ce : Env} {fp : List Addr} {WB : WX} {e : Expr} {t : DTE} (h : DE (blkX X s H scope ce fp WB) e t) : PE (blkX X s H scope ce fp WB) e (upEX X.w X.K t WB) := pE_imp h.run fun σ H1 Q ⟨EB, H0, ew, le, τ, S, r, q⟩ => by
  refine ⟨EB, τ, S, fun u s' x => ?_, r, q⟩
  obtain ⟨a, B, sI, pins, σ', H', cls, d, e, I, nb, up, sky, na, os, ag, w⟩ := x
  subst ew
  exact ⟨a, B, sI, pins, σ', H', cls, d, e, I.unwish, nb, up, sky, na, os, ag, upW.imp le (fun _ _ _ _ z => z) w⟩
structure BlkX (X : Cx) (scope : Scope) (vs : List Nat) (elt tg : Expr) (g : DTG) (te : DTE) : Prop where
  hg : ∀ (s : Shared) (H : Hp) (C : Addr) (cl : List (Str × Addr)) (fp : List Addr) (WB : WX), DGw (blkX X s H scope (compEnvC scope cl C X.env) fp WB) vs tg g
  he : ∀ (s : Shared) (H : Hp) (C : Addr) (cl : List (Str × Addr)) (fp : List Addr) (WB : WX), DE (blkX X s H scope (compEnvC scope cl C X.env) fp WB) elt te
/-- [elt for target in iter], the element may raise -/
@[simp] def dLcX (ti : DTI) (g : DTG) (te : DTE) (vs : List Nat) : DTE := fun E τ S Q => ti E τ S fun G ds S' => ∀ p, S' p = none → dLcL g dYes te (fun C fs _ S => E C fs τ S) (wipeD τ vs) G p (fun S => Q (.ref p) S) ds (upo S' p (.lst []))
theorem dLcX_monoL {g : DTG} {te : DTE} (hg : ∀ d τ S (Q Q' : DSt → DH → Prop), (∀ τ S, Q τ S → Q' τ S) → g d τ S Q → g d τ S Q') (he : ∀ (E E' : DW) τ S (Q Q' : DK), (∀ C fs τ S, E C fs τ S → E' C fs τ S) → (∀ d S', Q d S' → Q' d S') → te E τ S Q → te E' τ S Q')
    {E E' : DW} {τ : DSt} {G : DH → Prop} {p : Addr} {Q Q' : DH → Prop} (kE : ∀ C fs τ S, E C fs τ S → E' C fs τ S) (k : ∀ S, Q S → Q' S) : ∀ (ds : List D) (S : DH), dLcL g dYes te E τ G p Q ds S → dLcL g dYes te E' τ G p Q' ds S
  | [], _, q => ⟨q.1, k _ q.2⟩
  | d :: ds, S, q => ⟨q.1, hg _ _ _ _ _ (fun τ1 S1 z => he _ _ _ _ _ _ kE (fun y S3 z => by
      split at z
      · exact ⟨z.1, dLcX_monoL hg he kE k ds _ z.2⟩
      · exact z) z) q.2⟩
section
variable {X : Cx} {elt tg iter : Expr} {scope : Scope} {own : List (Str × Nat)} {pos spos py : Pos} {ti : DTI} {g : DTG} {te : DTE}
theorem dLcX_up {vs : List Nat} (hi : DI X tg iter ti) (B : BlkX X scope vs elt tg g te) {σ : L2.St} {H : Hp} {Q : VK} (h : upE X (dLcX ti g te vs) σ H Q) : tLcX X (upI X ti) (upGw X.w X.K vs g) (upEX X.w X.K te) vs σ H Q := by
  obtain ⟨E, τ, S, w, r, q⟩ := h
  have gm := (B.hg X.s_0 (fun _ => none) 0 [] [] (fun _ _ _ _ => False)).mono
  have em := (B.he X.s_0 (fun _ => none) 0 [] [] (fun _ _ _ _ => False)).mono
  refine ⟨upW X.w X.K E H, upW X.w X.K (fun C fs _ S => E C fs τ S) H, w, fun cls d σ' H' ⟨C, fs, τ', S', dd, ws, e1, e2, le, r', e3, e4, e5, e6⟩ => ⟨C, fs, τ, S', dd, ws, e1, e2, le, ⟨r.st.le le, r'.rep⟩, e3, e4, e5, e6⟩, ?_⟩
  refine hi.to w r q fun G ds S0 J H0 le0 w0 r0 f z => fun p hp => ?_
  have z1 := z p (r0.rep.free hp)
  let P : DH → Prop := fun S => ∀ v H', LeH H H' → Rep X.w X.K S H' → RD X.K H' (.ref p) v → Q v H'
  let EB : DW := fun C fs _ S => E C fs τ S
  refine ⟨fun i m H' => m = ds.length - i ∧ i ≤ ds.length ∧ LeH H0 H' ∧ ∃ S', Rep X.w X.K S' H' ∧ dLcL g dYes te EB (wipeD τ vs) G p P (ds.drop i) S', ⟨ds.length, by omega, Nat.zero_le _, LeH.new hp, _, r0.rep.new hp (o := .lst []) ⟨[], upd_same, rfl⟩, z1⟩, ?_⟩
  rintro i m H1 ⟨rfl, hle, le1, S1, r1, q1⟩
  have st1 : RSt X.K H1 (wipeD τ vs) (L2.wipe σ vs) := (r0.st.wipe vs).le le1
  by_cases hlt : i < ds.length
  · have e0 : ds[i]? = some ds[i] := List.getElem?_eq_getElem hlt
    rw [drop_at e0] at q1
    obtain ⟨hG, q1⟩ := q1
    refine .inr ⟨f.go i S1 H1 le1 r1 hG hlt, _, fun H2 y => ⟨ds.length - (i + 1), by omega, rfl, hlt, y⟩, fun x H2 hy => ?_⟩
    obtain ⟨le2, rp2, d, ed, rd⟩ := f.yld i S1 H1 x H2 le1 r1 hG hlt hy
    rw [e0] at ed
    cases ed
    refine ⟨ds[i], wipeD τ vs, S1, ⟨st1.le le2, rp2⟩, rd, gm _ _ _ _ _ (fun τ3 S3 q3 σ3 H3 le3 r3 hw => ?_) q1⟩
    refine ⟨hw.trans (wipe_wipe σ vs), EB, H, rfl, le0.trans (le1.trans (le2.trans le3)), τ3, S3, r3, em _ _ _ _ _ _ (fun _ _ _ _ y => y) (fun y S5 q5 v H5 le5 r5 rv => ?_) q3⟩
    split at q5
    · rename_i acc ea
      obtain ⟨xs, hx, rxs⟩ : ∃ xs, H5 p = some (.lst xs) ∧ RDs X.K H5 acc xs := r5 p _ ea
      have le6 : LeH H5 (upd H5 p (.lst (xs ++ [v]))) := LeH.put hx trivial
      exact ⟨xs, hx, by rw [← rxs.length]; exact q5.1, le1.trans (le2.trans (le3.trans (le5.trans le6))), _, r5.put hx trivial (o := .lst (acc ++ [y])) ⟨_, upd_same, (rxs.snoc rv).le le6⟩, q5.2⟩
    · exact q5.elim
  · have e : i = ds.length := by omega
    subst e
    rw [List.drop_length] at q1
    exact .inl ⟨f.stop S1 H1 le1 r1 q1.1, q1.2 _ H1 (le0.trans le1) r1 rfl⟩
theorem de_lcX (hst : X.stack = X.env :: X.outer) (hf : X.env.frame = some X.env.locals) (hc : X.calm = true) (hN : X.N.Nodup) (hi : DI X tg iter ti) (ok : BlkOk X.N X.env.scope scope own) (B : BlkX X scope (own.map (·.2)) elt tg g te) (hs : ∀ x, foldedSetIterable iter X.env x = pure x := by intro _; rfl) :
    DE X (.ListComp elt [⟨tg, iter, [], 0⟩] scope pos) (dLcX ti g te (own.map (·.2))) := by
  have gm := (B.hg X.s_0 (fun _ => none) 0 [] [] (fun _ _ _ _ => False)).mono
  have em := (B.he X.s_0 (fun _ => none) 0 [] [] (fun _ _ _ _ => False)).mono
  exact ⟨fun E E' τ S Q Q' hE k q => hi.mono _ _ _ _ _ _ hE (fun G ds S' z p hp => dLcX_monoL gm em (fun C fs _ S e => hE _ _ _ _ e) (fun S h => k _ _ h) ds _ (z p hp)) q,
    pE_imp (pe_lcX (g := upGw X.w X.K (own.map (·.2)) g) (te := upEX X.w X.K te) hst hf hc hN hi.run ok (fun s H C cl fp WB => (B.hg s H C cl fp WB).run) (fun s H C cl fp WB => (B.he s H C cl fp WB).runX) hs) fun σ H Q h => dLcX_up hi B h⟩
end
end Dt
set_option maxRecDepth 100000
set_option maxHeartbeats 4000000
namespace Sh
open PySem PySem.Spec L2 Dt Sh
def sp_is_word : DSp := fun ds S Q _ => ∃ w : Str, ds = [.str w] ∧ w.length ≤ 1000000 ∧ Q (.bl (wdB w)) S
theorem sp_is_word_mono : SpMono sp_is_word := fun ds S Q Q' E E' k _ ⟨d, h1, h2, h⟩ => ⟨d, h1, h2, k _ _ h⟩
def sp_number_of : DSp := fun ds S Q _ => ∃ w : Str, ds = [.str w] ∧ w.length ≤ 1000000 ∧ (∀ n, numN w = some n → Q (.int (n : Nat)) S) ∧ (numN w = none → Q .non S ∧ ∀ m : Nat, 40 ≤ m → Q (.int (m : Nat)) S)
theorem sp_number_of_mono : SpMono sp_number_of := fun ds S Q Q' E E' k _ ⟨d, h1, h2, h3, h⟩ => ⟨d, h1, h2, fun n e => k _ _ (h3 n e), fun e => ⟨k _ _ (h e).1, fun m l => k _ _ ((h e).2 m l)⟩⟩
section
variable (N C : Addr)
def sp_Reader_pattern (k : Nat) : DSp := fun ds S Q E => ∃ (r l : Addr) (ws : List Str) (i n d : Nat), ds = [.ref r, .int (d : Nat)] ∧ Rd C S r l ws i n ∧ 12 ≤ d + k ∧ n ≤ 40 ∧
  (∀ p n' i', Ct ws [(.part, d)] n i n' i' → ws.drop i = p.wds ++ ws.drop i' → i' ≤ ws.length → p.okP Nm → p.deep + d ≤ 11 → n' = n + p.all.length → n' ≤ 40 → Q (ptD p) (upo S r (rdO C l i' n'))) ∧
  (∀ j i' n', Fl ws [(.part, d)] n i j → E N [("at", .int (j : Nat))] (upo S r (rdO C l i' n')))
theorem sp_Reader_pattern_mono (k : Nat) : SpMono (sp_Reader_pattern N C k) := fun ds S Q Q' E E' kk kE ⟨r, l, ws, i, n, d, h1, h2, h3, h4, h5, h⟩ => ⟨r, l, ws, i, n, d, h1, h2, h3, h4, fun p n' i' a b c e f g u => kk _ _ (h5 p n' i' a b c e f g u), fun j i' n' e => kE _ _ _ (h j i' n' e)⟩
def sp_Reader_ask_end : DSp := fun ds S Q E => ∃ (r l : Addr) (ws : List Str) (i n : Nat), ds = [.ref r] ∧ Rd C S r l ws i n ∧ (i = ws.length → Q .non S) ∧ (i < ws.length → E N [("at", .int (i : Nat))] S)
theorem sp_Reader_ask_end_mono : SpMono (sp_Reader_ask_end N C) := fun ds S Q Q' E E' k kE ⟨r, l, ws, i, n, h1, h2, h3, h⟩ => ⟨r, l, ws, i, n, h1, h2, fun e => k _ _ (h3 e), fun e => kE _ _ _ (h e)⟩
end
def sp_read_pattern (N _ : Addr) : DSp := fun ds S Q E => ∃ z : Str, ds = [.str z] ∧ z.length ≤ 500000 ∧
  (∀ p, Txt.split z (Str.ofString " ") = p.wds → p.okP Nm → p.deep ≤ 10 → p.all.length ≤ 40 → run [(.part, 1)] 0 0 (Txt.split z (Str.ofString " ")) = none → Q (ptD p) S) ∧ (∀ j, run [(.part, 1)] 0 0 (Txt.split z (Str.ofString " ")) = some j → E N [("at", .int (j : Nat))] S)
theorem sp_read_pattern_mono (N C : Addr) : SpMono (sp_read_pattern N C) := fun ds S Q Q' E E' k kE ⟨z, h1, h2, h3, h⟩ => ⟨z, h1, h2, fun p a b c d e => k _ _ (h3 p a b c d e), fun j w => kE _ _ _ (h j w)⟩
def t_number_of : DTS := (dSeq (dIf (dOr (dTest (dOp rLt (dCB cLen (dCons (dVar 0) dNil)) (dC (.int 1)))) (dOr (dTest (dOp rGt (dCB cLen (dCons (dVar 0) dNil)) (dC (.int 2)))) (dNot (dTest (dCB cAll (dCons (dFz (dLc (dSeqI (dVar 0)) (dGN 1) dYes (dOp (dInS false) (dVar 1) (dC (.str "0123456789"))) [1])) dNil))))))
      (dRet (dC .non))
      dNx)
    (dSeq (dIf (dAnd (dTest (dOp (dEq false) (dOp dIxS (dVar 0) (dC (.int 0))) (dC (.str "0")))) (dTest (dOp (dEq true) (dVar 0) (dC (.str "0")))))
      (dRet (dC .non))
      dNx)
    (dRet (dCB cIntS (dCons (dVar 0) dNil)))))
abbrev N_number_of : List Str := ["word", "sign"]
def t_is_word : DTS := (dRet (dOrV (dCall sp_is_name (dCons (dVar 0) dNil)) (dAndV (dIsi "str" (dVar 0)) (dOp (dEq false) (dVar 0) (dC (.str "*"))))))
abbrev N_is_word : List Str := ["thing"]
def t_Reader_ask_end (C_NoText : Addr) (C_Reader : Addr) : DTS := (dIf (dTest (dOp rLt (dFld C_Reader "at_word" (dVar 0)) (dCB cLen (dCons (dFld C_Reader "words_read" (dVar 0)) dNil))))
      (dRaise C_NoText (sp_NoText_init C_NoText) (dCons (dFld C_Reader "at_word" (dVar 0)) dNil))
      dNx)
abbrev N_Reader_ask_end : List Str := ["self"]
def t_Reader_pattern (C_NoText : Addr) (C_Reader : Addr) (spR : DSp) : DTS := (dSeq (dAsg (dMeth C_Reader "next_word" (sp_Reader_next_word C_NoText C_Reader) (dVar 0) dNil) (dGN 2))
    (dSeq (dPutF C_Reader "parts_read" (dVar 0) (dOp dAddF (dFld C_Reader "parts_read" (dVar 0)) (dC (.int 1))))
    (dSeq (dDrop (dMeth C_Reader "ask_last" (sp_Reader_ask_last C_NoText C_Reader) (dVar 0) (dCons (dAndV (dOp (dIn false) (dVar 2) (dC (.tup [.str "stay", .str "on", .str "back", .str "at", .str "off", .str "then", .str "either", .str "many"]))) (dAndV (dOp rLe (dVar 1) (dC (.int 10))) (dOp rLe (dFld C_Reader "parts_read" (dVar 0)) (dC (.int 40))))) dNil)))
    (dSeq (dIf (dTest (dOp (dIn false) (dVar 2) (dC (.tup [.str "on", .str "back"]))))
      (dSeq (dAsg (dMeth C_Reader "next_word" (sp_Reader_next_word C_NoText C_Reader) (dVar 0) dNil) (dGN 3))
    (dSeq (dDrop (dMeth C_Reader "ask_last" (sp_Reader_ask_last C_NoText C_Reader) (dVar 0) (dCons (dCall sp_is_word (dCons (dVar 3) dNil)) dNil)))
    (dRet (dTup (dCons (dC (.str "step")) (dCons (dVar 2) (dCons (dVar 3) dNil)))))))
      dNx)
    (dSeq (dIf (dTest (dOp (dIn false) (dVar 2) (dTup (dCons (dC (.str "at")) (dCons (dC (.str "off")) dNil)))))
      (dRet (dTup (dCons (dVar 2) (dCons (dMeth C_Reader "name_next" (sp_Reader_name_next C_NoText C_Reader) (dVar 0) dNil) dNil))))
      dNx)
    (dSeq (dIf (dTest (dOp (dEq false) (dVar 2) (dC (.str "many"))))
      (dRet (dTup (dCons (dVar 2) (dCons (dMeth C_Reader "pattern" spR (dVar 0) (dCons (dOp dAddF (dVar 1) (dC (.int 1))) dNil)) dNil))))
      dNx)
    (dSeq (dIf (dTest (dOp (dEq false) (dVar 2) (dC (.str "stay"))))
      (dRet (dTup (dCons (dVar 2) dNil)))
      dNx)
    (dSeq (dAsg (dCall sp_number_of (dCons (dMeth C_Reader "next_word" (sp_Reader_next_word C_NoText C_Reader) (dVar 0) dNil) dNil)) (dGN 4))
    (dSeq (dDrop (dMeth C_Reader "ask_last" (sp_Reader_ask_last C_NoText C_Reader) (dVar 0) (dCons (dAndV (dOp (dIsN true) (dVar 4) (dC .non)) (dOp rLe (dVar 4) (dC (.int 39)))) dNil)))
    (dRet (dTup (dCons (dVar 2) (dCons (dCB cTuple (dCons (dFz (dLcX (dRng1 (dCons (dVar 4) dNil)) (dGN 5) (dMeth C_Reader "pattern" spR (dVar 0) (dCons (dOp dAddF (dVar 1) (dC (.int 1))) dNil)) [5])) dNil)) dNil)))))))))))))
abbrev N_Reader_pattern : List Str := ["self", "deep", "head", "word", "many", "k"]
theorem r_is_word (ds S Q E) (h : sp_is_word ds S Q E) : t_is_word (dEnd Q E) (dstart N_is_word ds) S := by
  obtain ⟨x, rfl, hw, h⟩ := h
  simp [t_is_word, dstart]
  refine ⟨x, rfl, hw, ?_⟩
  unfold wdB at h
  cases e : nmB x with
  | true => rw [e, Bool.or_true] at h; simp; exact .same h
  | false => rw [e, Bool.or_false] at h; simp; exact .same h
theorem one_chr {w : Str} (h : w.length = 1) : ∃ a, w = ⟨#[a]⟩ := by
  obtain ⟨⟨l⟩⟩ := w
  match l, h with
  | [a], _ => exact ⟨a, rfl⟩
theorem two_chr {w : Str} (h : w.length = 2) : ∃ a b, w = ⟨#[a, b]⟩ := by
  obtain ⟨⟨l⟩⟩ := w
  match l, h with
  | [a, b], _ => exact ⟨a, b, rfl⟩
abbrev FIGc : List Nat := (Str.ofString "0123456789").cps.toList
theorem num_fig {w : Str} {n : Nat} (h : numN w = some n) : 1 ≤ w.length ∧ w.length ≤ 2 ∧ (w.cps.toList.all fun c => decide (c ∈ FIGc)) = true := by
  obtain ⟨h1, rfl⟩ := numN_some h
  have : ∀ n : Nat, n < 40 → 1 ≤ (numS n).length ∧ (numS n).length ≤ 2 ∧ ((numS n).cps.toList.all fun c => decide (c ∈ FIGc)) = true := by decide +kernel
  exact this n h1
theorem fig_get {c : Nat} (h : c ∈ FIGc) : ∃ k, k < 10 ∧ c = 48 + k := by
  have : ∀ c ∈ FIGc, 48 ≤ c ∧ c < 58 := by decide +kernel
  obtain ⟨h1, h2⟩ := this c h
  exact ⟨c - 48, by omega, by omega⟩
theorem num1 : ∀ a : Nat, a < 10 → PySem.intText? ⟨#[48 + a]⟩ = some (a : Int) ∧ numN ⟨#[48 + a]⟩ = some a ∧ (a = 0 → (⟨#[48 + a]⟩ : Str) = "0") := by decide +kernel
theorem num2a : ∀ a : Nat, a < 10 → ∀ b : Nat, b < 10 → PySem.intText? ⟨#[48 + a, 48 + b]⟩ = some ((10 * a + b : Nat) : Int) := by decide +kernel
theorem num2b : ∀ a : Nat, a < 10 → ∀ b : Nat, b < 10 → numN ⟨#[48 + a, 48 + b]⟩ = if a = 0 ∨ 40 ≤ 10 * a + b then none else some (10 * a + b) := by decide +kernel
theorem r_number_of (ds S Q E) (h : sp_number_of ds S Q E) : t_number_of (dEnd Q E) (dstart N_number_of ds) S := by
  obtain ⟨w, rfl, hw, hs, hn⟩ := h
  unfold t_number_of
  refine dSeqIf_gen fun R1 R2 R e1 e2 e3 => ?_
  simp [dstart]
  have no : ¬(1 ≤ w.length ∧ w.length ≤ 2 ∧ (w.cps.toList.all fun c => decide (c ∈ FIGc)) = true) → R1 { nx := R (dEnd Q E), rt := Rt Q, xe := fun C fs x S' => ∃ S'', Dt.Sub S'' S' ∧ E C fs S'' } [some (D.str w), none] S := fun hc => by
    subst e1
    simp
    refine .same (hn ?_).1
    cases e : numN w with
    | none => rfl
    | some n => exact absurd (num_fig e) hc
  refine ⟨by omega, ?_⟩
  by_cases c1 : w.length < 1
  · rw [if_pos (by omega)]; exact no (by omega)
  rw [if_neg (by omega)]
  refine ⟨by omega, ?_⟩
  by_cases c2 : 2 < w.length
  · rw [if_pos (by omega)]; exact no (by omega)
  rw [if_neg (by omega)]
  refine all_in2 (fun _ => trivial) (by omega) ?_
  simp only
  by_cases c3 : (w.cps.toList.all fun c => decide (c ∈ FIGc)) = true
  · rw [if_pos c3]
    subst e2 e3
    simp only [dNx]
    refine dSeqIf_gen fun R3 R4 R5 e3 e4 e5 => ?_
    rw [List.all_eq_true] at c3
    obtain c | c : w.length = 1 ∨ w.length = 2 := by omega
    · obtain ⟨x, rfl⟩ := one_chr c
      obtain ⟨a, ha, rfl⟩ := fig_get (by simpa using c3 x (by simp))
      obtain ⟨f1, f2, f3⟩ := num1 a ha
      have r4 : R4 { nx := R5 (dEnd Q E), rt := Rt Q, xe := fun C fs x S' => ∃ S'', Dt.Sub S'' S' ∧ E C fs S'' } [some (D.str ⟨#[48 + a]⟩), none] S := by
        subst e4 e5
        simp [f1]
        exact ⟨by show 1 ≤ _; decide, .same (hs a f2)⟩
      simp
      refine ⟨by show 1 ≤ _; decide, ?_⟩
      by_cases h0 : (⟨#[48 + a]⟩ : Str) = Str.ofString "0"
      · rw [if_pos h0, if_pos h0]; exact r4
      · rw [if_neg h0]; exact r4
    · obtain ⟨x, y, rfl⟩ := two_chr c
      obtain ⟨a, ha, rfl⟩ := fig_get (by simpa using c3 x (by simp))
      obtain ⟨b, hb, rfl⟩ := fig_get (by simpa using c3 y (by simp))
      have f1 := num2a a ha b hb
      have f2 := num2b a ha b hb
      have ne0 : (⟨#[48 + a, 48 + b]⟩ : Str) ≠ Str.ofString "0" := fun e => by
        have := congrArg Str.length e
        rw [show (Str.ofString "0").length = 1 from rfl] at this
        exact absurd (show (2 : Nat) = 1 from this) (by decide)
      simp
      refine ⟨by show 2 ≤ _; decide, ?_⟩
      by_cases h0 : (⟨#[48 + a]⟩ : Str) = Str.ofString "0"
      · rw [if_pos h0, if_neg ne0]
        have a0 : a = 0 := by
          have : (Str.ofString "0") = ⟨#[48]⟩ := by decide +kernel
          rw [this] at h0
          simp at h0
          exact h0
        subst e3
        simp
        exact .same (hn (by rw [f2, if_pos (.inl a0)])).1
      · rw [if_neg h0]
        have a0 : a ≠ 0 := fun e => h0 (by rw [e]; decide +kernel)
        subst e4 e5
        simp [f1]
        refine ⟨by show 2 ≤ _; decide, .same ?_⟩
        by_cases c4 : 40 ≤ 10 * a + b
        · exact_mod_cast (hn (by rw [f2, if_pos (.inr c4)])).2 _ c4
        · exact_mod_cast hs _ (by rw [f2, if_neg (by omega)])
  · rw [if_neg c3]
    exact no fun z => c3 z.2.2
theorem seq_hd (b : Bool) (ps : List Pt) : ptD (.seq b ps) = .tup [.str (if b then "then" else "either"), .tup (ptDs ps)] := rfl
theorem rgN_get {n i : Nat} {d : D} (h : (rngD 0 n)[i]? = some d) : i < n ∧ d = .int (i : Nat) := by
  obtain ⟨h1, h2⟩ := List.getElem?_eq_some_iff.mp h
  have h3 : i < n := by simpa [rngD] using h1
  refine ⟨h3, ?_⟩
  simp [rngD] at h2
  exact h2.symm
theorem rgN_len (lo : Int) (n : Nat) : (rngD lo n).length = n := by simp [rngD]
section
variable {N C : Addr}
theorem put_pr (a b c d : D) : putFD (Str.ofString "parts_read") d [(Str.ofString "words_read", a), (Str.ofString "at_word", b), (Str.ofString "parts_read", c)] = [(Str.ofString "words_read", a), (Str.ofString "at_word", b), (Str.ofString "parts_read", d)] := by
  simp [putFD]
@[simp] theorem fr3 (a b c : D) : List.lookup (Str.ofString "parts_read") [(Str.ofString "words_read", a), (Str.ofString "at_word", b), (Str.ofString "parts_read", c)] = some c := by
  rw [List.lookup, show (Str.ofString "parts_read" == Str.ofString "words_read") = false from by decide +kernel]
  simp only
  rw [List.lookup, show (Str.ofString "parts_read" == Str.ofString "at_word") = false from by decide +kernel]; simp [List.lookup]
theorem r_Reader_ask_end (ds S Q E) (h : sp_Reader_ask_end N C ds S Q E) : t_Reader_ask_end N C (dEnd Q E) (dstart N_Reader_ask_end ds) S := by
  obtain ⟨r, l, ws, i, n, rfl, hr, hq, hx⟩ := h
  obtain ⟨h1, h2, h3, h4, h5⟩ := id hr
  unfold t_Reader_ask_end
  refine dIf_gen fun R1 R2 e1 e2 => ?_
  simp [dstart, h1, h2]
  by_cases c : i < ws.length
  · rw [if_pos (by omega)]
    subst e1
    simp [h1]
    exact raise_ok (brn_nat (by omega)) (hx c)
  · rw [if_neg (by omega)]
    subst e2
    simp
    exact .same (hq (by omega))
theorem r_Reader_pattern (k : Nat) (ds S Q E) (h : sp_Reader_pattern N C k ds S Q E) : t_Reader_pattern N C (prevSp (sp_Reader_pattern N C) k) (dEnd Q E) (dstart N_Reader_pattern ds) S := by
  obtain ⟨r, l, ws, i, n, d, rfl, hr, hk, hn, hq, hx⟩ := h
  obtain ⟨h1, h2, h3, h4, h5⟩ := id hr
  have nn : ∀ x, Dt.Sub x x := fun _ _ _ h => h
  unfold t_Reader_pattern
  refine dSeq_gen fun R hR => ?_
  simp [dstart, h1]
  refine ⟨r, l, ws, i, n, rfl, hr, fun hd w0 => ?_, fun e => ⟨upo S r (rdO C l i n), by rw [upo_id h1]; exact nn _, hx _ _ _ (Fl.out e)⟩⟩
  have i0 := (List.getElem?_eq_some_iff.mp w0).1
  subst hR
  refine dSeq_gen fun R hR => ?_
  simp [put_pr]
  have er : Ob.ins C [(Str.ofString "words_read", .ref l), (Str.ofString "at_word", .int ((i : Int) + 1)), (Str.ofString "parts_read", .int ((n : Int) + 1))] = rdO C l (i + 1) (n + 1) := rfl
  rw [er]
  subst hR
  refine dSeq_gen fun R hR => ?_
  simp
  have ei : inF (D.str hd) [D.str "stay", D.str "on", D.str "back", D.str "at", D.str "off", D.str "then", D.str "either", D.str "many"] = hdB hd := by unfold inF hdB; simp [eqF, @eq_comm _ hd]; rw [Bool.eq_iff_iff]; simp [or_assoc]
  rw [ei]
  have rd1 : Rd C (upo S r (rdO C l (i + 1) (n + 1))) r l ws (i + 1) (n + 1) := hr.go (by omega)
  have J : ∀ b, (b = true → hdB hd = true ∧ d ≤ 10 ∧ n + 1 ≤ 40) → (b = false → ¬ (hdB hd = true ∧ d ≤ 10 ∧ n + 1 ≤ 40)) → sp_Reader_ask_last N C [D.ref r, D.bl b] (upo S r (rdO C l (i + 1) (n + 1)))
      (fun x S' => R (dEnd Q E) [some (D.ref r), some (D.int d), some (D.str hd), none, none, none] S') fun C fs S' => ∃ S'', Dt.Sub S'' S' ∧ E C fs S'' := by
    intro b hb1 hb0
    refine ⟨r, l, ws, i, n + 1, b, rfl, rd1, fun e => ?_, fun e => ⟨_, nn _, hx _ _ _ (fl_part0 w0 (hb0 e))⟩⟩
    obtain ⟨g1, g2, g3⟩ := hb1 e
    subst hR
    have cp : ∀ {n2 i2}, Ct ws (wantS hd d) (n + 1) (i + 1) n2 i2 → Ct ws [(.part, d)] n i n2 i2 := fun g => ct_part w0 g1 g2 g3 g
    have fp : ∀ {j}, Fl ws (wantS hd d) (n + 1) (i + 1) j → Fl ws [(.part, d)] n i j := fun g => fl_part w0 g1 g2 g3 g
    have dr1 := drop_cons w0
    have go2 : ∀ a b, upo (upo S r (rdO C l (i + 1) (n + 1))) r (rdO C l a b) = upo S r (rdO C l a b) := fun a b => upo_upo
    have rd2 : i + 1 < ws.length → Rd C (upo S r (rdO C l (i + 1 + 1) (n + 1))) r l ws (i + 1 + 1) (n + 1) := fun h => hr.go (by omega)
    refine dSeqIf_gen fun R3 R4 R e3 e4 e5 => ?_
    have ei2 : inF (D.str hd) [D.str "on", D.str "back"] = sdB hd := by unfold inF sdB; simp [eqF, @eq_comm _ hd]; rw [Bool.eq_iff_iff]; simp
    have ei3 : inF (D.str hd) [D.str "at", D.str "off"] = moB hd := by unfold inF moB; simp [eqF, @eq_comm _ hd]; rw [Bool.eq_iff_iff]; simp
    simp
    rw [ei2]
    by_cases s1 : sdB hd = true
    · rw [if_pos s1]
      subst e3
      refine dSeq_gen fun R hR => ?_
      simp
      refine ⟨r, l, ws, i + 1, n + 1, rfl, rd1, fun w hw => ?_, fun e => ⟨_, nn _, hx _ _ _ (fp (by rw [want_side s1]; exact Fl.out e))⟩⟩
      have hi1 := (List.getElem?_eq_some_iff.mp hw).1
      rw [go2]
      subst hR
      refine dSeq_gen fun R hR => ?_
      simp
      refine ⟨w, rfl, h5 w (List.mem_of_getElem? hw), ?_⟩
      simp
      refine ⟨r, l, ws, i + 1, n + 1, wdB w, rfl, rd2 hi1, fun e => ?_, fun e => ⟨_, nn _, hx _ _ _ (fp (by rw [want_side s1]; exact fl_word hw e))⟩⟩
      subst hR
      simp
      obtain ⟨b, eb⟩ : ∃ b : Bool, hd = if b then ("on" : Str) else ("back" : Str) := by
        simp only [sdB, Bool.or_eq_true, decide_eq_true_eq] at s1
        rcases s1 with h | h
        · exact ⟨true, h⟩
        · exact ⟨false, h⟩
      have ow : w = "*" ∨ Nm w := by
        simp only [wdB, Bool.or_eq_true, decide_eq_true_eq] at e
        exact e.imp id nmB_nm
      refine .same ?_
      have := hq (.step b w) (n + 1) (i + 1 + 1) (cp (by rw [want_side s1]; exact ct_word hw e)) (by rw [dr1, drop_cons hw, eb]; rfl) (by omega) (fun q hq => by
        have : q = .step b w := by simpa [Pt.all] using hq
        subst this; exact ow) (by simp [Pt.deep]; omega) rfl (by omega)
      rw [eb]
      exact this
    · rw [if_neg s1]
      subst e4 e5
      simp only [dNx]
      refine dSeqIf_gen fun R3 R4 R e3 e4 e5 => ?_
      simp
      rw [ei3]
      by_cases s2 : moB hd = true
      · rw [if_pos s2]
        subst e3
        simp
        obtain ⟨b, eb⟩ : ∃ b : Bool, hd = if b then ("at" : Str) else ("off" : Str) := by
          simp only [moB, Bool.or_eq_true, decide_eq_true_eq] at s2
          rcases s2 with h | h
          · exact ⟨true, h⟩
          · exact ⟨false, h⟩
        refine ⟨r, l, ws, i + 1, n + 1, rfl, rd1, fun w hw nw => ?_, fun w hw nw => ⟨_, nn _, by rw [go2]; exact hx _ _ _ (fp (by rw [want_mark s2]; exact fl_mark hw nw))⟩, fun e => ⟨_, nn _, hx _ _ _ (fp (by rw [want_mark s2]; exact Fl.out e))⟩⟩
        have hi1 := (List.getElem?_eq_some_iff.mp hw).1
        rw [go2]
        refine .same ?_
        have := hq (.mark b w) (n + 1) (i + 1 + 1) (cp (by rw [want_mark s2]; exact ct_mark hw nw)) (by rw [dr1, drop_cons hw, eb]; rfl) (by omega) (fun q hq => by
          have : q = .mark b w := by simpa [Pt.all] using hq
          subst this; exact nmB_nm nw) (by simp [Pt.deep]; omega) rfl (by omega)
        rw [eb]
        exact this
      · rw [if_neg s2]
        subst e4 e5
        simp only [dNx]
        refine dSeqIf_gen fun R3 R4 R e3 e4 e5 => ?_
        simp
        obtain ⟨k, rfl⟩ : ∃ m, k = m + 1 := ⟨k - 1, by omega⟩
        by_cases s3 : hd = "many"
        · rw [if_pos s3]
          subst e3
          subst s3
          simp
          refine ⟨r, l, ws, i + 1, n + 1, d + 1, by simp, rd1, by omega, by omega, fun q n' i' c hw hl ok dp hn' h40 => ?_, fun j i' n' f => ⟨_, nn _, by rw [go2]; exact hx _ _ _ (fp (by rw [want_many]; exact f))⟩⟩
          rw [go2]
          refine .same ?_
          exact hq (.many q) n' i' (cp (by rw [want_many]; exact c)) (by rw [dr1, hw]; rfl) hl (okP_many ok) (by rw [Pt.deep_many]; omega) (by rw [hn']; show _ = n + (q.all.length + 1); omega) h40
        · rw [if_neg s3]
          subst e4 e5
          simp only [dNx]
          refine dSeqIf_gen fun R3 R4 R e3 e4 e5 => ?_
          simp
          by_cases s4 : hd = "stay"
          · rw [if_pos s4]
            subst e3
            subst s4
            simp
            exact .same (hq .stay (n + 1) (i + 1) (cp (by rw [want_stay]; exact Ct.refl)) (by rw [dr1]; rfl) (by omega) (fun q hq => by
              have : q = .stay := by simpa [Pt.all] using hq
              subst this; trivial) (by simp [Pt.deep]; omega) rfl (by omega))
          · rw [if_neg s4]
            subst e4 e5
            simp only [dNx]
            have wn := want_num (w := hd) (by simpa using s1) (by simpa using s2) s3 s4
            obtain ⟨bb, eb⟩ := hd_num g1 (by simpa using s1) (by simpa using s2) s3 s4
            refine dSeq_gen fun R hR => ?_
            simp
            refine ⟨r, l, ws, i + 1, n + 1, rfl, rd1, fun w hw => ?_, fun e => ⟨_, nn _, hx _ _ _ (fp (by rw [wn]; exact Fl.out e))⟩⟩
            have hi1 := (List.getElem?_eq_some_iff.mp hw).1
            rw [go2]
            have J2 : ∀ (D1 : D) (b : Bool), (b = true → ∃ m, numN w = some m ∧ D1 = .int (m : Nat)) → (b = false → numN w = none) → sp_Reader_ask_last N C [D.ref r, D.bl b] (upo S r (rdO C l (i + 1 + 1) (n + 1)))
                (fun x S' => (dRet (dTup (dCons (dVar 2) (dCons (dCB cTuple (dCons (dFz (dLcX (dRng1 (dCons (dVar 4) dNil)) (dGN 5) (dMeth C "pattern" (sp_Reader_pattern N C k) (dVar 0) (dCons (dOp dAddF (dVar 1) (dC (.int 1))) dNil)) [5])) dNil)) dNil)))) (dEnd Q E) [some (D.ref r), some (D.int d), some (D.str hd), none, some D1, none] S') fun C fs S' => ∃ S'', Dt.Sub S'' S' ∧ E C fs S'' := by
              intro D1 b hb1 hb0
              refine ⟨r, l, ws, i + 1, n + 1, b, rfl, rd2 hi1, fun e => ?_, fun e => ⟨_, nn _, hx _ _ _ (fp (by rw [wn]; exact fl_num0 hw (hb0 e)))⟩⟩
              obtain ⟨m, em, rfl⟩ := hb1 e
              obtain ⟨m40, emw⟩ := numN_some em
              simp
              refine ⟨by omega, ?_⟩
              refine lcF_inv (Q := fun y S9 => match y with | .rol ds => Rt Q (D.tup [D.str hd, D.tup ds]) S9 | _ => False) (fun j acc S1 => ∃ (ps : List Pt) (n2 i2 : Nat), ps.length = j ∧ acc = ptDs ps ∧ S1 = upo S r (rdO C l i2 n2) ∧ Ct ws (List.replicate j (.part, d + 1)) (n + 1) (i + 1 + 1) n2 i2 ∧ ws.drop (i + 1 + 1) = Pt.wdss ps ++ ws.drop i2 ∧ i2 ≤ ws.length ∧ (∀ p ∈ ps, p.okP Nm) ∧ (∀ p ∈ ps, p.deep + d ≤ 10) ∧ n2 = n + 1 + (Pt.alls ps).length ∧ n2 ≤ 40) ⟨[], n + 1, i + 1 + 1, rfl, rfl, rfl, Ct.refl, rfl, by omega, by simp, by simp, rfl, by omega⟩ (fun _ _ _ _ _ _ _ => trivial) ?_ (by simp [rngD]; omega) ?_
              · rintro j dd acc S1 q N hd' ⟨ps, n2, i2, el, rfl, rfl, ct, hws, hl2, ok, dp, en, h40⟩ hq2 hacc hN
                obtain ⟨hm, rfl⟩ := rgN_get hd'
                clear hd'
                have nqr : r ≠ q := fun z => by subst z; simp at hq2
                have nql : l ≠ q := fun z => by subst z; rw [upo_ne hr.ne, h2] at hq2; cases hq2
                have hqS : S q = none := by rw [upo_ne nqr.symm] at hq2; exact hq2
                have rdq : Rd C (upo (upo S r (rdO C l i2 n2)) q (.lst (ptDs ps))) r l ws i2 n2 := ⟨by rw [upo_ne nqr, upo_same], by rw [upo_ne nql, upo_ne hr.ne, h2], h3, hl2, h5⟩
                simp [upo_ne nqr]
                refine ⟨r, l, ws, i2, n2, d + 1, by simp, rdq, by omega, h40, fun p n' i' c hw hl ok' dp' hn' h40' => ?_, fun j' i' n' f => ⟨upo S r (rdO C l i' n'), fun b o hb => ?_, hx _ _ _ (fp ?_)⟩⟩
                · rw [upo_comm nqr.symm, upo_upo]
                  simp
                  refine ⟨hacc, hN _ _ ?_ ⟨ps ++ [p], n', i', by simp [el], ?_, rfl, ?_, ?_, hl, ?_, ?_, ?_, h40'⟩ (by simp)⟩
                  · rw [upo_ne nqr.symm]; exact hqS
                  · rw [ptDs_app]; rfl
                  · rw [List.replicate_succ']; exact ct.then c
                  · rw [hws, hw, Pt.wdss_app]; simp [Pt.wdss]
                  · intro x hx'
                    rcases List.mem_append.mp hx' with h | h
                    · exact ok x h
                    · rw [List.mem_singleton.mp h]; exact ok'
                  · intro x hx'
                    rcases List.mem_append.mp hx' with h | h
                    · exact dp x h
                    · rw [List.mem_singleton.mp h]; omega
                  · rw [hn', en, Pt.alls_flat, Pt.alls_flat, List.flatMap_append, List.flatMap_singleton, List.length_append]; omega
                · rw [upo_comm nqr.symm, upo_upo, upo_ne (fun z => by rw [z, upo_ne nqr.symm, hqS] at hb; cases hb)]; exact hb
                · rw [wn]
                  refine fl_num hw em ?_
                  rw [show m = j + (1 + (m - j - 1)) by omega, ← List.replicate_append_replicate, ← List.replicate_append_replicate]
                  exact ct.fl f.more
              · rintro acc S1 ⟨ps, n2, i2, el, rfl, rfl, ct, hws, hl2, ok, dp, en, h40⟩
                rw [rgN_len] at el ct
                refine .same ?_
                have dps : Pt.deeps ps ≤ 10 - d := deeps_le fun p hp => by have := dp p hp; omega
                have := hq (.seq bb ps) n2 i2 (cp (by rw [wn]; exact ct_num hw em ct)) (by rw [dr1, drop_cons hw, hws, ← emw, eb, ← el]; cases bb <;> rfl) hl2 (okP_seq ok) (by rw [Pt.deep_seq]; omega) (by rw [Pt.all_seq, List.length_cons, en]; omega) h40
                rw [seq_hd] at this
                rw [eb]
                cases bb <;> exact this
            refine ⟨w, rfl, h5 w (List.mem_of_getElem? hw), fun m em => ?_, fun em => ?_⟩
            · obtain ⟨m40, emw⟩ := numN_some em
              subst hR
              refine dSeq_gen fun R hR => ?_
              simp [Dt.isNon]
              subst hR
              exact J2 _ _ (fun _ => ⟨m, em, rfl⟩) (fun e => by simp at e; omega)
            · subst hR
              refine ⟨?_, fun m hm => ?_⟩
              · refine dSeq_gen fun R hR => ?_
                simp [Dt.isNon]
                subst hR
                exact J2 _ _ (fun e => by cases e) (fun _ => em)
              · refine dSeq_gen fun R hR => ?_
                simp [Dt.isNon]
                subst hR
                exact J2 _ _ (fun e => by simp at e; omega) (fun _ => em)
  by_cases g1 : hdB hd = true
  · rw [if_pos g1]
    by_cases g2 : d ≤ 10
    · rw [if_pos (by omega)]
      exact J _ (fun e => ⟨g1, g2, by simp at e; omega⟩) (fun e => by simp at e; omega)
    · rw [if_neg (by omega)]
      exact J _ (fun e => by cases e) (fun _ => by omega)
  · rw [if_neg g1]
    exact J _ (fun e => by cases e) (fun _ z => g1 z.1)
end
end Sh
set_option maxRecDepth 100000
set_option maxHeartbeats 4000000
namespace Sh
open PySem PySem.Spec L2 Dt Sh
abbrev wdsD (p : Pt) : List D := p.wds.map D.str
def sp_words_of (n : Nat) : DSp := fun ds S Q _ => ∃ p : Pt, ds = [ptD p] ∧ p.deep ≤ n ∧ p.all.length ≤ 40 ∧ Q (.rol (wdsD p)) S
theorem sp_words_of_mono (n : Nat) : SpMono (sp_words_of n) := fun ds S Q Q' E E' k _ ⟨d, h1, h2, h3, h⟩ => ⟨d, h1, h2, h3, k _ _ h⟩
def sp_l_words : DSp := fun ds S Q _ => ∃ p : Pt, ds = [ptD p] ∧ p.okP Nm ∧ p.deep ≤ 10 ∧ p.all.length ≤ 40 ∧ Q (.rol (wdsD p)) S
theorem sp_l_words_mono : SpMono sp_l_words := fun ds S Q Q' E E' k _ ⟨d, h1, h2, h3, h4, h⟩ => ⟨d, h1, h2, h3, h4, k _ _ h⟩
def shownS (p : Pt) : Str := Txt.join (Str.ofString " ") p.wds
def sp_shown : DSp := fun ds S Q _ => ∃ p : Pt, ds = [ptD p] ∧ p.okP Nm ∧ p.deep ≤ 10 ∧ p.all.length ≤ 40 ∧ Q (.str (shownS p)) S
theorem sp_shown_mono : SpMono sp_shown := fun ds S Q Q' E E' k _ ⟨d, h1, h2, h3, h4, h⟩ => ⟨d, h1, h2, h3, h4, k _ _ h⟩
def onD : Option Nat → D
  | some j => .int j
  | none => .non
def srtS : Srt → Str
  | .part => "part"
  | .word => "word"
  | .mark => "mark"
  | .number => "number"
abbrev wtD (x : Srt × Nat) : D := .tup [.str (srtS x.1), .int (x.2 : Nat)]
def nmI (w : Str) : Int := match numN w with
  | some n => n
  | none => -1
abbrev runP (ws : List Str) : Option Nat := run [(.part, 1)] 0 0 ws
def sp_l_is_name : DSp := fun ds S Q _ => ∃ w : Str, ds = [.str w] ∧ w.length ≤ 1000000 ∧ Q (.bl (nmB w)) S
theorem sp_l_is_name_mono : SpMono sp_l_is_name := fun ds S Q Q' E E' k _ ⟨d, h1, h2, h⟩ => ⟨d, h1, h2, k _ _ h⟩
def sp_l_number : DSp := fun ds S Q _ => ∃ w : Str, ds = [.str w] ∧ Q (.int (nmI w)) S
theorem sp_l_number_mono : SpMono sp_l_number := fun ds S Q Q' E E' k _ ⟨d, h1, h⟩ => ⟨d, h1, k _ _ h⟩
def sp_l_fit : DSp := fun ds S Q _ => ∃ (s : Srt) (w : Str), ds = [.str (srtS s), .str w] ∧ s ≠ .number ∧ w.length ≤ 1000000 ∧ Q (.bl (fitS s w)) S
theorem sp_l_fit_mono : SpMono sp_l_fit := fun ds S Q Q' E E' k _ ⟨s, d, h1, h2, h3, h⟩ => ⟨s, d, h1, h2, h3, k _ _ h⟩
def sp_l_wanted : DSp := fun ds S Q _ => ∃ (w : Str) (d : Nat), ds = [.str w, .int (d : Nat)] ∧ Q (.rol ((wantS w d).map wtD)) S
theorem sp_l_wanted_mono : SpMono sp_l_wanted := fun ds S Q Q' E E' k _ ⟨w, d, h1, h⟩ => ⟨w, d, h1, k _ _ h⟩
def sp_l_wrong : DSp := fun ds S Q _ => ∃ (l : Addr) (ws : List Str), ds = [.ref l] ∧ S l = some (.lst (ws.map D.str)) ∧ ws.length ≤ 200000 ∧ (∀ w ∈ ws, w.length ≤ 1000000) ∧ Q (onD (runP ws)) S
theorem sp_l_wrong_mono : SpMono sp_l_wrong := fun ds S Q Q' E E' k _ ⟨l, ws, h1, h2, h3, h4, h⟩ => ⟨l, ws, h1, h2, h3, h4, k _ _ h⟩
def sp_l_own (N : Addr) : DSp := fun ds S Q _ => ∃ (a : Addr) (fs : List (Str × D)), ds = [.ref a] ∧ HasX S a N fs ∧ Q (.str "text") S
theorem sp_l_own_mono (N : Addr) : SpMono (sp_l_own N) := fun ds S Q Q' E E' k _ ⟨a, fs, h1, h2, h⟩ => ⟨a, fs, h1, h2, k _ _ h⟩
def sp_l_right (N C : Addr) : DSp := fun ds S Q _ => ∃ z : Str, ds = [.str z] ∧ z.length ≤ 100000 ∧ Q (.bl true) S
theorem sp_l_right_mono (N C : Addr) : SpMono (sp_l_right N C) := fun ds S Q Q' E E' k _ ⟨z, h1, h2, h⟩ => ⟨z, h1, h2, k _ _ h⟩
def t_l_own (C_NoText : Addr) : DTS := (dSeq (dAsg (dLstF (dCons (dIsE [(C_NoText, false)] (dVar 0)) (dCons (dIsE [(C_NoText, false)] (dVar 0)) (dCons (dIsE [(C_NoText, false)] (dVar 0)) dNil)))) (dGN 1))
    (dSeq (dAsg (dOp dAddF (dVar 1) (dLstF (dCons (dIsE [(C_NoText, false)] (dVar 0)) (dCons (dIsE [(C_NoText, false)] (dVar 0)) (dCons (dIsE [(C_NoText, false)] (dVar 0)) dNil))))) (dGN 1))
    (dSeq (dAsg (dOp dAddF (dVar 1) (dLstF (dCons (dIsE [(C_NoText, false)] (dVar 0)) (dCons (dIsE [(C_NoText, true)] (dVar 0)) (dCons (dIsE [(C_NoText, false)] (dVar 0)) dNil))))) (dGN 1))
    (dSeq (dAsg (dOp dAddF (dVar 1) (dLstF (dCons (dIsE [(C_NoText, false)] (dVar 0)) (dCons (dIsE [(C_NoText, false)] (dVar 0)) (dCons (dIsE [(C_NoText, false)] (dVar 0)) dNil))))) (dGN 1))
    (dSeq (dAsg (dOp dAddF (dVar 1) (dLstF (dCons (dIsE [(C_NoText, false)] (dVar 0)) (dCons (dIsE [(C_NoText, false)] (dVar 0)) dNil)))) (dGN 1))
    (dSeq (dIf (dOr (dNot (dTest (dIsE [(C_NoText, true)] (dVar 0)))) (dTest (dOp (dEq true) (dBM "list" mCountB (dVar 1) (dCons (dC (.bl true)) dNil)) (dC (.int 1)))))
      (dRet (dC (.str "none")))
      dNx)
    (dSeq (dAsg (dLstF (dCons (dC (.str "knot")) (dCons (dC (.str "mark")) (dCons (dC (.str "name")) (dCons (dC (.str "twice")) (dCons (dC (.str "toomany")) (dCons (dC (.str "tie")) (dCons (dC (.str "meet")) (dCons (dC (.str "text")) (dCons (dC (.str "line")) (dCons (dC (.str "way")) (dCons (dC (.str "toolong")) (dCons (dC (.str "round")) dNil))))))))))))) (dGN 2))
    (dRet (dOp dIxS (dOp dAddF (dVar 2) (dLstF (dCons (dC (.str "such")) (dCons (dC (.str "pair")) dNil)))) (dBM "list" mIndexB (dVar 1) (dCons (dC (.bl true)) dNil)))))))))))
abbrev N_l_own : List Str := ["_law_e", "_law_some", "_law_words_here"]
def t_l_words : DTS := (dSeq (dAsg (dLst dNil) (dGN 1))
    (dSeq (dAsg (dLst (dCons (dVar 0) dNil)) (dGN 2))
    (dSeq (dWhile (dTest (dOp (dEq true) (dVar 2) (dLstF dNil)))
      (dSeq (dAsg (dBM "list" mPop (dVar 2) dNil) (dGN 3))
    (dIf (dTest (dOp (dEq false) (dOp dIxS (dVar 3) (dC (.int 0))) (dC (.str "step"))))
      (dDrop (dBM "list" mExtend (dVar 1) (dCons (dLstF (dCons (dOp dIxS (dVar 3) (dC (.int 1))) (dCons (dOp dIxS (dVar 3) (dC (.int 2))) dNil))) dNil)))
      (dIf (dTest (dOp (dEq false) (dOp dIxS (dVar 3) (dC (.int 0))) (dC (.str "many"))))
      (dSeq (dDrop (dBM "list" mAppend (dVar 1) (dCons (dC (.str "many")) dNil)))
    (dDrop (dBM "list" mAppend (dVar 2) (dCons (dOp dIxS (dVar 3) (dC (.int 1))) dNil))))
      (dIf (dTest (dOp (dIn false) (dOp dIxS (dVar 3) (dC (.int 0))) (dTup (dCons (dC (.str "then")) (dCons (dC (.str "either")) dNil)))))
      (dSeq (dDrop (dBM "list" mExtend (dVar 1) (dCons (dLstF (dCons (dOp dIxS (dVar 3) (dC (.int 0))) (dCons (dCB cStr (dCons (dCB cLen (dCons (dOp dIxS (dVar 3) (dC (.int 1))) dNil)) dNil)) dNil))) dNil)))
    (dDrop (dBM "list" mExtend (dVar 2) (dCons (dLstRevTF (dOp dIxS (dVar 3) (dC (.int 1)))) dNil))))
      (dDrop (dBM "list" mExtend (dVar 1) (dCons (dCB cListAF (dCons (dVar 3) dNil)) dNil))))))))
    (dRet (dVar 1)))))
abbrev N_l_words : List Str := ["_law_pattern_here", "_law_words_here", "_law_left", "_law_part"]
def t_l_is_name : DTS := (dSeq (dIf (dNot (dTest (dChain rLe rLe (dC (.int 1)) (dCB cLen (dCons (dVar 0) dNil)) (dC (.int 8)))))
      (dRet (dC (.bl false)))
      dNx)
    (dRet (dOp rGe (dCB cMinL (dCons (dFz (dLc (dSeqI (dVar 0)) (dGN 1) dYes (dBM "str" mFind (dC (.str "abcdefghijklmnopqrstuvwxyz")) (dCons (dVar 1) dNil)) [1])) dNil)) (dC (.int 0)))))
abbrev N_l_is_name : List Str := ["_law_word", "_law_sign"]
def t_l_number : DTS := (dSeq (dAsg (dFz (dLc (dRng1 (dCons (dC (.int 40)) dNil)) (dGN 2) dYes (dCB cStr (dCons (dVar 2) dNil)) [2])) (dGN 1))
    (dSeq (dIf (dTest (dOp (dIn false) (dVar 0) (dVar 1)))
      (dRet (dBM "list" mIndex (dVar 1) (dCons (dVar 0) dNil)))
      dNx)
    (dRet (dNeg (dC (.int 1))))))
abbrev N_l_number : List Str := ["_law_word", "_law_some", "_law_number_here"]
def t_l_wanted : DTS := (dSeq (dIf (dTest (dOp (dIn false) (dVar 0) (dTup (dCons (dC (.str "on")) (dCons (dC (.str "back")) dNil)))))
      (dRet (dLstF (dCons (dTup (dCons (dC (.str "word")) (dCons (dVar 1) dNil))) dNil)))
      dNx)
    (dSeq (dIf (dTest (dOp (dIn false) (dVar 0) (dTup (dCons (dC (.str "at")) (dCons (dC (.str "off")) dNil)))))
      (dRet (dLstF (dCons (dTup (dCons (dC (.str "mark")) (dCons (dVar 1) dNil))) dNil)))
      dNx)
    (dSeq (dIf (dTest (dOp (dEq false) (dVar 0) (dC (.str "many"))))
      (dRet (dLstF (dCons (dTup (dCons (dC (.str "part")) (dCons (dOp dAddF (dVar 1) (dC (.int 1))) dNil))) dNil)))
      dNx)
    (dSeq (dIf (dTest (dOp (dEq false) (dVar 0) (dC (.str "stay"))))
      (dRet (dLstF dNil))
      dNx)
    (dRet (dLstF (dCons (dTup (dCons (dC (.str "number")) (dCons (dVar 1) dNil))) dNil)))))))
abbrev N_l_wanted : List Str := ["_law_word", "_law_deep"]
def t_l_fit : DTS := (dSeq (dIf (dTest (dOp (dEq false) (dVar 0) (dC (.str "word"))))
      (dRet (dOrV (dOp (dEq false) (dVar 1) (dC (.str "*"))) (dCall sp_l_is_name (dCons (dVar 1) dNil))))
      dNx)
    (dSeq (dIf (dTest (dOp (dEq false) (dVar 0) (dC (.str "mark"))))
      (dRet (dCall sp_l_is_name (dCons (dVar 1) dNil)))
      dNx)
    (dRet (dOp (dIn false) (dVar 1) (dTup (dCons (dC (.str "stay")) (dCons (dC (.str "on")) (dCons (dC (.str "back")) (dCons (dC (.str "at")) (dCons (dC (.str "off")) (dCons (dC (.str "then")) (dCons (dC (.str "either")) (dCons (dC (.str "many")) dNil)))))))))))))
abbrev N_l_fit : List Str := ["_law_sort", "_law_word"]
def t_words_of (spR : DSp) : DTS := (dSeq (dIf (dTest (dOp (dEq false) (dOp dIxS (dVar 0) (dC (.int 0))) (dC (.str "step"))))
      (dRet (dLstF (dCons (dOp dIxS (dVar 0) (dC (.int 1))) (dCons (dOp dIxS (dVar 0) (dC (.int 2))) dNil))))
      dNx)
    (dSeq (dAsg (dLst (dCons (dOp dIxS (dVar 0) (dC (.int 0))) dNil)) (dGN 1))
    (dSeq (dIf (dTest (dOp (dIn false) (dOp dIxS (dVar 0) (dC (.int 0))) (dTup (dCons (dC (.str "at")) (dCons (dC (.str "off")) dNil)))))
      (dDrop (dBM "list" mAppend (dVar 1) (dCons (dOp dIxS (dVar 0) (dC (.int 1))) dNil)))
      dNx)
    (dSeq (dIf (dTest (dOp (dIn false) (dOp dIxS (dVar 0) (dC (.int 0))) (dTup (dCons (dC (.str "then")) (dCons (dC (.str "either")) dNil)))))
      (dDrop (dBM "list" mAppend (dVar 1) (dCons (dCB cStr (dCons (dCB cLen (dCons (dOp dIxS (dVar 0) (dC (.int 1))) dNil)) dNil)) dNil)))
      dNx)
    (dSeq (dFor (dSeqI (dCall sp_parts_of (dCons (dVar 0) dNil))) (dGN 2)
      (dDrop (dBM "list" mExtend (dVar 1) (dCons (dCall spR (dCons (dVar 2) dNil)) dNil))))
    (dRet (dVar 1)))))))
abbrev N_words_of : List Str := ["pattern", "words", "part"]
def t_shown : DTS := (dRet (dBM "str" mJoin (dC (.str " ")) (dCons (dCall (sp_words_of 20) (dCons (dVar 0) dNil)) dNil)))
abbrev N_shown : List Str := ["pattern"]
def t_read_pattern (C_NoText : Addr) (C_Reader : Addr) : DTS := (dSeq (dAsg (dMake C_Reader (sp_Reader_init C_Reader) (dCons (dBM "str" mSplit (dVar 0) (dCons (dC (.str " ")) dNil)) (dCons (dC (.int 0)) dNil))) (dGN 1))
    (dSeq (dAsg (dMeth C_Reader "pattern" (sp_Reader_pattern C_NoText C_Reader 20) (dVar 1) (dCons (dC (.int 1)) dNil)) (dGN 2))
    (dSeq (dDrop (dMeth C_Reader "ask_end" (sp_Reader_ask_end C_NoText C_Reader) (dVar 1) dNil))
    (dRet (dVar 2)))))
abbrev N_read_pattern : List Str := ["text", "reader", "pattern"]
theorem alls_take_le' : ∀ (ps : List Pt) (i : Nat), (h : i < ps.length) → (Pt.alls (ps.take i)).length + (ps[i]).all.length ≤ (Pt.alls ps).length
  | p :: ps, 0, _ => by rw [Pt.alls_cons, List.length_append]; simp [Pt.alls_nil]
  | p :: ps, i + 1, h => by
    have := alls_take_le' ps i (by simpa using h)
    rw [List.take_succ_cons, Pt.alls_cons, Pt.alls_cons, List.length_append, List.length_append]
    simp
    omega
theorem r_parts_kids {p : Pt} {S : DH} {Q : DK} {E : DXK} (h : Q (.rol (ptDs p.kids)) S) : sp_parts_of [ptD p] S Q E := ⟨p, rfl, h⟩
theorem words_tail {n : Nat} {p : Pt} {l : Addr} {S : DH} {pre : List Str} {Q : DK} {E : DXK} (hl : S l = none) (hp : p.wds = pre ++ Pt.wdss p.kids) (hk : ∀ q ∈ p.kids, q.deep + 1 ≤ n) (ha : p.all.length ≤ 40) (h : Q (.rol (wdsD p)) S) :
    dSeq (dFor (dSeqI (dCall sp_parts_of (dCons (dVar 0) dNil))) (dGN 2) (dDrop (dBM "list" mExtend (dVar 1) (dCons (dCall (prevSp sp_words_of n) (dCons (dVar 2) dNil)) dNil)))) (dRet (dVar 1)) (dEnd Q E)
      [some (ptD p), some (.ref l), none] (upo S l (.lst (pre.map D.str))) := by
  have hlen := (Pt.wds_len p).2
  rw [hp, List.length_append] at hlen
  refine dSeqFor_gen fun B R hB hR => ?_
  simp
  refine r_parts_kids ?_
  simp
  refine loop_inv (fun i τ S' => ∃ c, τ = [some (ptD p), some (.ref l), c] ∧ S' = upo S l (.lst ((pre ++ Pt.wdss (p.kids.take i)).map D.str))) ⟨none, rfl, by simp [Pt.wdss]⟩ (fun _ _ _ _ _ => trivial) ?_ ?_
  · rintro i d τ S1 N hd' ⟨c, rfl, rfl⟩ hN
    have hi : i < p.kids.length := by
      have := (List.getElem?_eq_some_iff.mp hd').1
      rwa [ptDs_len] at this
    rw [ptDs_at hi] at hd'
    cases hd'
    have hk1 := hk _ (List.getElem_mem hi)
    obtain ⟨n, rfl⟩ : ∃ m, n = m + 1 := ⟨n - 1, by omega⟩
    have hall : (p.kids[i]).all.length ≤ 40 := by
      have : (p.kids[i]).all.length ≤ p.all.length := by
        rw [Pt.all_kids p, List.length_cons, ← Pt.alls_flat]
        have := alls_take_le' p.kids i hi
        omega
      omega
    have hw : Pt.wdss (p.kids.take (i + 1)) = Pt.wdss (p.kids.take i) ++ (p.kids[i]).wds := Pt.wdss_succ hi
    have hl2 : (Pt.wdss (p.kids.take (i + 1))).length ≤ (Pt.wdss p.kids).length := by
      have := congrArg List.length (Pt.wdss_app (p.kids.take (i + 1)) (p.kids.drop (i + 1)))
      rw [List.take_append_drop, List.length_append] at this
      omega
    rw [hw, List.length_append] at hl2
    subst hB
    simp
    refine ⟨p.kids[i], rfl, by omega, hall, ?_⟩
    simp
    have := line63
    refine ⟨by omega, ?_⟩
    exact hN _ _ ⟨_, rfl, by rw [hw]; simp⟩
  · rintro τ S1 ⟨c, rfl, rfl⟩
    subst hR
    rw [ptDs_len, List.take_length, ← hp]
    simp
    exact .rol (by simp) hl (Sub.new hl) h
theorem r_words_of (n : Nat) (ds S Q E) (h : sp_words_of n ds S Q E) : t_words_of (prevSp sp_words_of n) (dEnd Q E) (dstart N_words_of ds) S := by
  obtain ⟨p, rfl, hd, ha, h⟩ := h
  unfold t_words_of
  have hz := line63
  cases p with
  | step b w =>
    refine dSeq_gen fun R hR => ?_
    simp [dstart, ptD, inF]
    have e : [D.str (if b = true then Str.ofString "on" else Str.ofString "back"), D.str w] = wdsD (.step b w) := rfl
    rw [e]
    exact .same h
  | stay =>
    have T := fun l hl => words_tail (n := n) (p := .stay) (l := l) (S := S) (pre := ["stay"]) (Q := Q) (E := E) hl rfl (fun q hq => by cases hq) ha h
    refine dSeq_gen fun R hR => ?_
    simp [dstart, ptD, inF]
    subst hR
    refine dSeq_gen fun R hR => ?_
    simp
    intro l hl
    subst hR
    refine dSeq_gen fun R hR => ?_
    simp [inF]
    subst hR
    refine dSeq_gen fun R hR => ?_
    simp [inF]
    subst hR
    exact T l hl
  | mark b m =>
    have T := fun l hl => words_tail (n := n) (p := .mark b m) (l := l) (S := S) (pre := [if b then "at" else "off", m]) (Q := Q) (E := E) hl rfl (fun q hq => by cases hq) ha h
    have e0 : ptD (.mark b m) = .tup [.str (if b then "at" else "off"), .str m] := rfl
    have e1 : ((if b then "at" else "off" : Str) == "step") = false := by cases b <;> decide +kernel
    have e2 : inF (.str (if b then "at" else "off" : Str)) [.str "then", .str "either"] = false := by cases b <;> decide +kernel
    have e3 : inF (.str (if b then "at" else "off" : Str)) [.str "at", .str "off"] = true := by cases b <;> decide +kernel
    rw [e0] at T ⊢
    generalize hq : (if b then "at" else "off" : Str) = hd0 at e1 e2 e3 T
    refine dSeq_gen fun R hR => ?_
    simp [dstart, e1]
    subst hR
    refine dSeq_gen fun R hR => ?_
    simp
    intro l hl
    subst hR
    refine dSeq_gen fun R hR => ?_
    simp [e3]
    subst hR
    refine dSeq_gen fun R hR => ?_
    simp [e2]
    subst hR
    exact T l hl
  | many q =>
    have T := fun l hl => words_tail (n := n) (p := .many q) (l := l) (S := S) (pre := ["many"]) (Q := Q) (E := E) hl (by simp [Pt.wds, Pt.kids, Pt.wdss]) (fun r hr => by simp [Pt.kids] at hr; subst hr; exact hd) ha h
    refine dSeq_gen fun R hR => ?_
    simp [dstart, ptD, inF]
    subst hR
    refine dSeq_gen fun R hR => ?_
    simp
    intro l hl
    subst hR
    refine dSeq_gen fun R hR => ?_
    simp [inF]
    subst hR
    refine dSeq_gen fun R hR => ?_
    simp [inF]
    subst hR
    exact T l hl
  | seq b ps =>
    have hln := Pt.seq_len (b := b) (ps := ps)
    have T := fun l hl => words_tail (n := n) (p := .seq b ps) (l := l) (S := S) (pre := [if b then "then" else "either", numS ps.length]) (Q := Q) (E := E) hl rfl (fun r hr => by have := deeps_mem (ps := ps) (p := r) hr; rw [Pt.deep_seq] at hd; omega) ha h
    rw [seq_hd] at T ⊢
    have e1 : ((if b then "then" else "either" : Str) == "step") = false := by cases b <;> decide +kernel
    have e2 : inF (.str (if b then "then" else "either" : Str)) [.str "then", .str "either"] = true := by cases b <;> decide +kernel
    have e3 : inF (.str (if b then "then" else "either" : Str)) [.str "at", .str "off"] = false := by cases b <;> decide +kernel
    generalize hq : (if b then "then" else "either" : Str) = hd0 at e1 e2 e3 T
    have hx := (num_facts ps.length (by omega)).2.2.2.2.2
    refine dSeq_gen fun R hR => ?_
    simp [dstart, e1]
    subst hR
    refine dSeq_gen fun R hR => ?_
    simp
    intro l hl
    subst hR
    refine dSeq_gen fun R hR => ?_
    simp [e3]
    subst hR
    refine dSeq_gen fun R hR => ?_
    simp [e2, ptDs_len]
    refine ⟨hx, ?_⟩
    subst hR
    exact T l hl
theorem r_shown (ds S Q E) (h : sp_shown ds S Q E) : t_shown (dEnd Q E) (dstart N_shown ds) S := by
  obtain ⟨p, rfl, ok, hd, ha, h⟩ := h
  have hw := wds_wo p ok ha
  have h1 := wo_sum hw
  have h2 := p.wds_len
  simp [t_shown, dstart]
  refine ⟨p, rfl, by omega, ha, ?_⟩
  refine ⟨_, _, p.wds, rfl, rfl, .inl rfl, ?_, .same h⟩
  have e : (Str.ofString " ").length = 1 := by decide +kernel
  rw [e]
  omega
theorem dSeqWhile_g {c : DTT} {tb r : DTS} {A : DEnds} {τ : DSt} {S : DH} (h : ∀ B R, B = tb → R = r → dSeq (dWhile c B) R A τ S) : dSeq (dWhile c tb) r A τ S := h tb r rfl rfl
theorem r_l_words (ds S Q E) (h : sp_l_words ds S Q E) : t_l_words (dEnd Q E) (dstart N_l_words ds) S := by
  obtain ⟨p, rfl, ok, hd, ha, h⟩ := h
  have hz := line63
  unfold t_l_words
  refine dSeq_gen fun R hR => ?_
  simp [dstart]
  intro a ha0
  subst hR
  refine dSeq_gen fun R hR => ?_
  simp
  intro b hb
  obtain ⟨nab, hb⟩ := upo_none hb
  subst hR
  refine dSeqWhile_g fun B R hB hR => ?_
  refine while_inv (fun τ S' => ∃ (acc : List Str) (st : List Pt) (c : Option D), τ = [some (ptD p), some (.ref a), some (.ref b), c] ∧ S' = upo (upo S a (.lst (acc.map D.str))) b (.lst (ptDs st)) ∧
      acc ++ Pt.wdss st.reverse = p.wds ∧ (∀ q ∈ st, q.okP Nm ∧ q.deep ≤ 10) ∧ acc.length + (Pt.wdss st).length ≤ 80 ∧ (Pt.alls st).length ≤ 40)
    (fun _ S' => match S' a with | some (.lst ds) => 81 - ds.length | _ => 0) ⟨[], [p], none, rfl, rfl, by simp [Pt.wdss], by simpa using ⟨ok, hd⟩, ?_, ?_⟩ ?_
  · have := p.wds_len
    simp [Pt.wdss]
    omega
  · simpa [Pt.alls] using ha
  rintro τ S1 N ⟨acc, st, c, rfl, rfl, h1, h2, h3, h4⟩ hN
  simp
  refine dEq_seq (xs := ptDs st) (ys := []) (by simp) (by simp) (fun x hx => ?_) (fun x hx => by cases hx) ?_
  · obtain ⟨q, hq, rfl⟩ := mem_ptDs hx
    exact (pt_sm q (h2 q hq).1).mono (by have := (h2 q hq).2; omega)
  simp
  rcases List.eq_nil_or_concat st with rfl | ⟨st', q, rfl⟩
  · subst hR
    simp [ptDs]
    simp [Pt.wdss] at h1
    refine .rol (ds := p.wds.map D.str) ?_ ha0 ?_ h
    · rw [upo_ne nab.symm, upo_same, h1]
    · intro x o e
      rw [upo_ne (fun z => by rw [z, hb] at e; cases e), upo_ne (fun z => by rw [z, ha0] at e; cases e)]
      exact e
  have e0 : ptDs (st' ++ [q]) = ptDs st' ++ [ptD q] := by rw [ptDs_app]; rfl
  rw [List.concat_eq_append] at *
  rw [e0]
  simp only [List.append_eq_nil_iff, List.cons_ne_self, and_false, if_false, reduceCtorEq]
  have g2 := h2 q (by simp)
  rw [Pt.wdss_app, List.length_append, show Pt.wdss [q] = q.wds from by simp [Pt.wdss]] at h3
  rw [show Pt.alls (st' ++ [q]) = Pt.alls st' ++ q.all from by simp [Pt.alls_flat], List.length_append] at h4
  rw [List.reverse_append, Pt.wdss_app, show Pt.wdss [q].reverse = q.wds from by simp [Pt.wdss]] at h1
  have fin : ∀ (ws : List Str) (ks : List Pt), q.wds = ws ++ Pt.wdss ks.reverse → ws ≠ [] → (∀ r ∈ ks, r ∈ q.kids) → (Pt.alls ks).length ≤ q.all.length → (Pt.wdss ks).length = (Pt.wdss ks.reverse).length → ∀ c S2, S2 = upo (upo S a (.lst ((acc ++ ws).map D.str))) b (.lst (ptDs (st' ++ ks))) →
      N [some (ptD p), some (.ref a), some (.ref b), c] S2 := by
    intro ws ks g1 g3 g4 g5 g6 c S2 e
    have l1 := congrArg List.length g1
    rw [List.length_append] at l1
    have l2 : 1 ≤ ws.length := List.length_pos_iff.mpr g3
    refine hN _ _ ⟨acc ++ ws, st' ++ ks, c, rfl, e, ?_, ?_, ?_, ?_⟩ ?_
    · rw [List.reverse_append, Pt.wdss_app, List.append_assoc, ← List.append_assoc ws, ← g1, h1]
    · intro r hr
      rcases List.mem_append.mp hr with z | z
      · exact h2 r (by simp [z])
      · have hk := g4 r z
        refine ⟨okP_kids g2.1 hk, ?_⟩
        have : r.deep ≤ q.deep := by
          cases q with
          | many x => simp [Pt.kids] at hk; subst hk; rw [Pt.deep_many]; omega
          | seq bb ps => have := deeps_mem (ps := ps) (p := r) hk; rw [Pt.deep_seq]; omega
          | _ => cases hk
        omega
    · rw [Pt.wdss_app, List.length_append, List.length_append]; omega
    · rw [show Pt.alls (st' ++ ks) = Pt.alls st' ++ Pt.alls ks from by simp [Pt.alls_flat], List.length_append]; omega
    · rw [e, upo_ne nab.symm, upo_same, upo_ne nab.symm, upo_same]
      simp
      omega
  clear hN
  subst hB
  refine dSeq_gen fun R2 hR2 => ?_
  simp
  subst hR2
  have ea : ∀ oa ob, upo (upo S a oa) b ob a = some oa := fun oa ob => by rw [upo_ne nab.symm, upo_same]
  have en : ∀ oa ob oc, upo (upo (upo S a oa) b ob) a oc = upo (upo S a oc) b ob := fun oa ob oc => by rw [upo_comm nab, upo_upo]
  have l0 : acc.length ≤ 80 := by omega
  have l1 : (ptDs st').length ≤ 40 := by
    rw [ptDs_len]
    have := Pt.flat_all_len st'
    rw [← Pt.alls_flat] at this
    omega
  cases q with
  | step bb w =>
    simp [ptD, inF, ea, en]
    refine ⟨by omega, fin [_, _] [] rfl (by simp) (by simp) (by simp [Pt.alls]) rfl _ _ ?_⟩
    simp
  | many x =>
    simp [ptD, inF, ea, en]
    refine ⟨by omega, by omega, fin ["many"] [x] (by simp [Pt.wds, Pt.wdss]) (by simp) (by simp [Pt.kids]) (by simp [Pt.alls, Pt.all]) rfl _ _ ?_⟩
    simp [ptDs_app]
    rfl
  | stay =>
    simp [ptD, inF, ea, en]
    refine ⟨by omega, fin [_] [] rfl (by simp) (by simp) (by simp [Pt.alls]) rfl _ _ ?_⟩
    simp
  | mark bb m =>
    cases bb <;>
    · simp [ptD, inF, ea, en]
      refine ⟨by omega, fin [_, _] [] rfl (by simp) (by simp) (by simp [Pt.alls]) rfl _ _ ?_⟩
      simp
  | seq bb ps =>
    rw [seq_hd]
    have hln := Pt.seq_len (b := bb) (ps := ps)
    have hx := (num_facts ps.length (by omega)).2.2.2.2.2
    have e1 : ((if bb then "then" else "either" : Str) == "step") = false := by cases bb <;> decide +kernel
    have e2 : inF (.str (if bb then "then" else "either" : Str)) [.str "then", .str "either"] = true := by cases bb <;> decide +kernel
    have e3 : ((if bb then "then" else "either" : Str) == "many") = false := by cases bb <;> decide +kernel
    have fin' := fin [if bb then "then" else "either", numS ps.length] ps.reverse (by rw [List.reverse_reverse]; rfl) (by simp) (by simp [Pt.kids]) (by
        rw [Pt.all_seq, List.length_cons, Pt.alls_flat, Pt.alls_flat, ((List.reverse_perm ps).flatMap_right _).length_eq]
        omega) (by
        have w1 : ∀ L : List Pt, Pt.wdss L = L.flatMap Pt.wds := fun L => by
          induction L with
          | nil => rfl
          | cons x L ih => rw [Pt.wdss_cons, ih]; rfl
        rw [w1, w1, ((List.reverse_perm ps.reverse).flatMap_right _).length_eq])
    have e5 : Str.ofString ((ps.length : Int)).repr = numS ps.length := rfl
    generalize hq : (if bb then "then" else "either" : Str) = hd0 at e1 e2 e3 fin'
    have e6 : ptDs (st' ++ ps.reverse) = ptDs st' ++ (ptDs ps).reverse := by rw [ptDs_app, ptDs_map ps.reverse, ptDs_map ps, List.map_reverse]
    have l2 : ps.length ≤ 40 := by omega
    have hx2 : ps.length.log2 < 1920 := by simpa using hx
    simp [e1, e2, e3, ea, en, ptDs_len, e5]
    rw [ptDs_len] at l1
    refine ⟨hx2, by omega, by omega, fin' _ _ ?_⟩
    rw [e6]
    simp
theorem r_l_own {N : Addr} (ds S Q E) (h : sp_l_own N ds S Q E) : t_l_own N (dEnd Q E) (dstart N_l_own ds) S := by
  obtain ⟨a, fs, rfl, ⟨dd, ha, hd⟩, h⟩ := h
  unfold t_l_own
  iterate 5
    refine dSeq_gen fun R hR => ?_
    simp [dstart, dIsEK, ha, hd, catD]
    try refine ⟨by decide +kernel, ?_⟩
    subst hR
  refine dSeqIf_gen fun R1 R2 R e1 e2 e3 => ?_
  simp [dIsEK, ha, hd]
  refine ⟨true, [false, false, false, false, false, false, false, true, false, false, false, false, false, false], rfl, rfl, ?_⟩
  simp
  subst e2 e3
  simp
  simp [catD]
  refine ⟨true, [false, false, false, false, false, false, false, true, false, false, false, false, false, false], 7, rfl, rfl, rfl, by decide, ?_⟩
  exact .same h
theorem find_c (c : Nat) : decide ((0 : Int) ≤ Txt.find (Str.ofString "abcdefghijklmnopqrstuvwxyz") ⟨#[c]⟩) = decide (c ∈ LETc) := by
  have h := find_ge ⟨#[c]⟩
  have e : hit (.str ⟨#[c]⟩) = decide (c ∈ LETc) := by
    unfold hit
    exact PySem.StrLaws.found_one _ _
  rw [← e]
  exact h
theorem r_l_is_name (ds S Q E) (h : sp_l_is_name ds S Q E) : t_l_is_name (dEnd Q E) (dstart N_l_is_name ds) S := by
  obtain ⟨x, rfl, hx, h⟩ := h
  have hs : x.cps.toList.length = x.length := by simp [Str.length]
  unfold t_l_is_name
  refine dSeqIf_gen fun R1 R2 R e1 e2 e3 => ?_
  simp [dstart]
  refine ⟨by omega, ?_⟩
  have no : ¬ (1 ≤ x.length ∧ x.length ≤ 8) → R1 { nx := R (dEnd Q E), rt := Rt Q, xe := fun C fs x S' => ∃ S'', Dt.Sub S'' S' ∧ E C fs S'' } [some (D.str x), none] S := fun hn => by
    subst e1
    have : nmB x = false := by simp [nmB]; omega
    rw [this] at h
    simp
    exact .same h
  by_cases c1 : 1 ≤ x.length
  · rw [if_pos (by omega)]
    by_cases c2 : x.length ≤ 8
    · rw [if_pos (by omega)]
      subst e2 e3
      simp
      refine lcF_map (fun d => .int (fnd d)) (fun _ _ _ => trivial) (fun d hd acc p N hp hl hN => ?_) (by simp [hs]; omega) ?_
      · obtain ⟨c, hc, rfl⟩ := List.mem_map.mp hd
        simp [signD]
        exact ⟨hl, hN⟩
      · refine ⟨_, (x.cps.toList.map signD).map fnd, rfl, ?_, ?_, fun m hm hle => ?_⟩
        · simp
        · simp [hs]
          omega
        · have e : nmB x = decide (0 ≤ m) := by
            rw [min_ge hm hle]
            simp only [nmB, c1, c2, decide_true, Bool.true_and, List.all_map]
            refine congrArg (fun f => x.cps.toList.all f) (funext fun c => ?_)
            exact (find_c c).symm
          simp
          rw [e] at h
          exact .same h
    · rw [if_neg (by omega)]
      exact no (by omega)
  · rw [if_neg (by omega)]
    exact no (by omega)
section
variable {N C : Addr}
theorem r_read_pattern (ds S Q E) (h : sp_read_pattern N C ds S Q E) : t_read_pattern N C (dEnd Q E) (dstart N_read_pattern ds) S := by
  obtain ⟨z, rfl, hz, hq, hx⟩ := h
  obtain ⟨l1, l2⟩ := split_sz z
  unfold t_read_pattern
  refine dSeq_gen fun R hR => ?_
  simp [dstart]
  refine ⟨by decide +kernel, by omega, ?_⟩
  intro l hl r hr
  obtain ⟨nrl, hr0⟩ := upo_none hr
  generalize hws : Txt.split z (Str.ofString " ") = ws at *
  have sb : ∀ o, Dt.Sub S (upo (upo S l (.lst (ws.map D.str))) r o) := fun o b u hb => by
    rw [upo_ne (fun e => by rw [e, hr0] at hb; cases hb), upo_ne (fun e => by rw [e, hl] at hb; cases hb)]; exact hb
  refine ⟨r, l, rfl, upo_same, rfl, ?_⟩
  simp only [upo_upo]
  have rd : Rd C (upo (upo S l (.lst (ws.map D.str))) r (rdO C l 0 0)) r l ws 0 0 := ⟨upo_same, by rw [upo_ne nrl.symm, upo_same], by omega, by omega, fun w hw => Nat.le_trans (l2 w hw) (by omega)⟩
  subst hR
  refine dSeq_gen fun R hR => ?_
  simp
  refine ⟨r, l, ws, 0, 0, 1, rfl, rd, by omega, by omega, fun p n' i' ct hw hl2 ok dp hn' h40 => ?_, fun j i' n' f => ⟨S, ?_, hx j (by have := f []; simpa using this)⟩⟩
  · simp only [upo_upo]
    have rd2 : Rd C (upo (upo S l (.lst (ws.map D.str))) r (rdO C l i' n')) r l ws i' n' := by
      have := rd.go (j := i') (m := n') hl2
      simpa using this
    have er : run [(.part, 1)] 0 0 ws = run [] n' i' (ws.drop i') := by have := ct []; simpa using this
    subst hR
    refine dSeq_gen fun R hR => ?_
    simp
    refine ⟨r, l, ws, i', n', rfl, rd2, fun e => ?_, fun c => ⟨S, sb _, hx i' ?_⟩⟩
    · subst hR
      simp
      refine .keep (sb _) (hq p ?_ ok (by omega) (by omega) ?_)
      · rw [e, List.drop_length] at hw
        simpa using hw
      · rw [er, e, List.drop_length]; rfl
    · rw [er, List.drop_eq_getElem_cons c]; rfl
  · simp only [upo_upo]
    exact sb _
end
theorem nmI_lt {w : Str} : nmI w < 0 ↔ numN w = none := by
  unfold nmI
  cases numN w with
  | none => simp
  | some n => simp
theorem r_l_number (ds S Q E) (h : sp_l_number ds S Q E) : t_l_number (dEnd Q E) (dstart N_l_number ds) S := by
  obtain ⟨w, rfl, h⟩ := h
  unfold t_l_number
  refine dSeq_gen fun R hR => ?_
  simp [dstart]
  have sb : ∀ n : Nat, n < 40 → n.log2 < 1920 := by decide +kernel
  refine lcF_map (fun d => match d with | .int n => .str (Str.ofString n.repr) | d => d) (fun _ _ _ => trivial) (fun d hd acc p N hp hl hN => ?_) (by simp [rngD]) ?_
  · obtain ⟨i, hi⟩ := List.mem_iff_getElem?.mp hd
    obtain ⟨i40, rfl⟩ := rgN_get hi
    simp
    first | exact ⟨by simpa using sb i i40, hl, hN⟩ | exact ⟨hl, hN⟩
  have eL : (rngD 0 40).map (fun d => match d with | .int n => .str (Str.ofString n.repr) | d => d) = (List.range 40).map fun n => D.str (numS n) := by decide +kernel
  rw [eL]
  clear eL
  subst hR
  have inj : ∀ a, a < 40 → ∀ b, b < 40 → numS a = numS b → a = b := by decide +kernel
  have ei : inF (D.str w) ((List.range 40).map fun n => D.str (numS n)) = (numN w).isSome := by
    unfold inF numN
    rw [List.any_map, Bool.eq_iff_iff, List.any_eq_true, List.find?_isSome]
    exact exists_congr fun x => and_congr_right fun _ => by simp [eqF]
  refine dSeqIf_gen fun R1 R2 R e1 e2 e3 => ?_
  simp
  rw [dInQ_fl rfl (List.all_eq_true.mpr fun x hx => by obtain ⟨i, _, rfl⟩ := List.mem_map.mp hx; rfl), ei]
  cases e : numN w with
  | none =>
    simp
    subst e2 e3
    simp
    refine .same ?_
    simpa [nmI, e] using h
  | some n =>
    simp
    subst e1
    obtain ⟨n40, en⟩ := numN_some e
    simp
    have so : ∀ n, n < 40 → PyData.strOk (numS n) = true := by decide +kernel
    refine ⟨_, _, n, rfl, rfl, by simpa [← en] using so n n40, ?_, ?_, ?_, ?_⟩
    · intro x hx
      obtain ⟨i, hi, rfl⟩ := List.mem_map.mp hx
      simpa using so i (List.mem_range.mp hi)
    · simp [n40, en]
    · intro m hm
      simp [show m < 40 by omega]
      intro ee
      have := inj m (by omega) n n40 (by rw [ee, en])
      omega
    · refine .same ?_
      simpa [nmI, e] using h
theorem r_l_fit (ds S Q E) (h : sp_l_fit ds S Q E) : t_l_fit (dEnd Q E) (dstart N_l_fit ds) S := by
  obtain ⟨s, w, rfl, ns, hw, h⟩ := h
  unfold t_l_fit
  have ei : inF (D.str w) [D.str "stay", D.str "on", D.str "back", D.str "at", D.str "off", D.str "then", D.str "either", D.str "many"] = hdB w := by unfold inF hdB; simp [eqF, @eq_comm _ w]; rw [Bool.eq_iff_iff]; simp [or_assoc]
  cases s with
  | number => exact absurd rfl ns
  | part =>
    simp [dstart, srtS, ei]
    exact .same h
  | mark =>
    simp [dstart, srtS]
    exact ⟨w, rfl, hw, .same h⟩
  | word =>
    simp [dstart, srtS]
    by_cases e : w = "*"
    · rw [if_pos e]
      have : fitS .word w = true := by simp [fitS, wdB, e]
      rw [this] at h
      exact .same h
    · rw [if_neg e]
      refine ⟨w, rfl, hw, .same ?_⟩
      have : fitS .word w = nmB w := by simp [fitS, wdB, e]
      rwa [this] at h
theorem r_l_wanted (ds S Q E) (h : sp_l_wanted ds S Q E) : t_l_wanted (dEnd Q E) (dstart N_l_wanted ds) S := by
  obtain ⟨w, d, rfl, h⟩ := h
  unfold t_l_wanted
  have ei2 : inF (D.str w) [D.str "on", D.str "back"] = decide (w = "on" ∨ w = "back") := by unfold inF; simp [eqF, @eq_comm _ w]; rw [Bool.eq_iff_iff]; simp
  have ei3 : inF (D.str w) [D.str "at", D.str "off"] = decide (w = "at" ∨ w = "off") := by unfold inF; simp [eqF, @eq_comm _ w]; rw [Bool.eq_iff_iff]; simp
  simp [dstart, ei2, ei3]
  unfold wantS at h
  by_cases c1 : w = "on" ∨ w = "back"
  · rw [if_pos c1] at h ⊢
    exact .same h
  rw [if_neg c1] at h ⊢
  by_cases c2 : w = "at" ∨ w = "off"
  · rw [if_pos c2] at h ⊢
    exact .same h
  rw [if_neg c2] at h ⊢
  by_cases c3 : w = "many"
  · rw [if_pos c3] at h ⊢
    exact .same h
  rw [if_neg c3] at h ⊢
  by_cases c4 : w = "stay"
  · rw [if_pos c4] at h ⊢
    exact .same h
  rw [if_neg c4] at h ⊢
  exact .same h
end Sh
set_option maxRecDepth 100000
set_option maxHeartbeats 4000000
namespace Sh
open PySem PySem.Spec L2 Dt Sh
def t_l_wrong : DTS := (dSeq (dAsg (dLst (dCons (dTup (dCons (dC (.str "part")) (dCons (dC (.int 1)) dNil))) dNil)) (dGN 1))
    (dSeq (dAsg (dC (.int 0)) (dGN 2))
    (dSeq (dFor (dRng1 (dCons (dCB cLen (dCons (dVar 0) dNil)) dNil)) (dGN 3)
      (dSeq (dIf (dTest (dOp (dEq false) (dVar 1) (dLstF dNil)))
      (dRet (dVar 3))
      dNx)
    (dSeq (dAsg (dBM "list" mPop (dVar 1) dNil) (dGTupA 2 (dGCons (dGN 4) (dGCons (dGN 5) dGNil))))
    (dIf (dTest (dOp (dEq false) (dVar 4) (dC (.str "number"))))
      (dSeq (dIf (dTest (dOp rLt (dCall sp_l_number (dCons (dOp dIxS (dVar 0) (dVar 3)) dNil)) (dC (.int 0))))
      (dRet (dVar 3))
      dNx)
    (dAsg (dOp dAdd (dVar 1) (dFz (dOp dMul (dLst (dCons (dTup (dCons (dC (.str "part")) (dCons (dOp dAddF (dVar 5) (dC (.int 1))) dNil))) dNil)) (dCall sp_l_number (dCons (dOp dIxS (dVar 0) (dVar 3)) dNil))))) (dGN 1)))
      (dIf (dNot (dTest (dCall sp_l_fit (dCons (dVar 4) (dCons (dOp dIxS (dVar 0) (dVar 3)) dNil)))))
      (dRet (dVar 3))
      (dIf (dTest (dOp (dEq false) (dVar 4) (dC (.str "part"))))
      (dSeq (dAsg (dOp dAddF (dVar 2) (dC (.int 1))) (dGN 2))
    (dSeq (dIf (dOr (dTest (dOp rGt (dVar 5) (dC (.int 10)))) (dTest (dOp rGt (dVar 2) (dC (.int 40)))))
      (dRet (dVar 3))
      dNx)
    (dAsg (dOp dAdd (dVar 1) (dCall sp_l_wanted (dCons (dOp dIxS (dVar 0) (dVar 3)) (dCons (dVar 5) dNil)))) (dGN 1))))
      dNx))))))
    (dSeq (dIf (dTest (dOp (dEq true) (dVar 1) (dLstF dNil)))
      (dRet (dCB cLen (dCons (dVar 0) dNil)))
      dNx)
    (dRet (dC .non))))))
abbrev N_l_wrong : List Str := ["_law_words_here", "_law_wanted_here", "_law_parts", "_law_at", "_law_sort", "_law_deep"]
theorem delo_upo2 {X : DH} {r : Addr} {o : Ob} (h : X r = none) : delo (upo X r o) r = X := by
  funext b
  by_cases c : b = r
  · subst c; simp [delo, h]
  · simp [delo, c, upo_ne c]
theorem sm_wt (x : Srt × Nat) : Sm 60 (wtD x) := by
  obtain ⟨s, d⟩ := x
  refine Sm_tup.mpr fun x hx => ?_
  simp only [List.mem_cons, List.not_mem_nil, or_false] at hx
  rcases hx with rfl | rfl
  · rw [Sm_str]; cases s <;> decide +kernel
  · simp
theorem srt_stack (st : List (Srt × Nat)) (x : Srt × Nat) : ((x :: st).reverse.map wtD) = st.reverse.map wtD ++ [wtD x] := by simp
theorem r_l_wrong (ds S Q E) (h : sp_l_wrong ds S Q E) : t_l_wrong (dEnd Q E) (dstart N_l_wrong ds) S := by
  obtain ⟨l, ws, rfl, hl, lw, cw, h⟩ := h
  unfold t_l_wrong
  refine dSeq_gen fun R hR => ?_
  simp [dstart]
  intro q0 hq0
  have q0l : q0 ≠ l := fun e => by rw [e, hl] at hq0; cases hq0
  subst hR
  refine dSeq_gen fun R hR => ?_
  simp
  subst hR
  refine dSeqFor_gen fun B R hB hR => ?_
  simp [upo_ne q0l.symm, hl]
  refine ⟨by omega, ?_⟩
  refine loop_inv (fun i τ S' => ∃ (q : Addr) (st : List (Srt × Nat)) (n : Nat) (x3 x4 x5 : Option D), τ = [some (.ref l), some (.ref q), some (.int (n : Nat)), x3, x4, x5] ∧ Dt.Sub S S' ∧ S' q = some (.lst (st.reverse.map wtD)) ∧ S q = none ∧ q ≠ l ∧ st.length ≤ 1 + 40 * i ∧ runP ws = run st n i (ws.drop i)) ⟨q0, [(.part, 1)], 0, none, none, none, rfl, Sub.new hq0, upo_same, hq0, q0l, by simp, rfl⟩ (fun _ _ _ _ _ => trivial) ?_ ?_
  · rintro i d τ S2 M hd ⟨q, st, n, x3, x4, x5, rfl, sb, hq, hqS, ql, ls, er⟩ hM
    obtain ⟨hi, rfl⟩ := rgN_get hd
    have hi' : i < ws.length := by omega
    obtain ⟨w, hw⟩ : ∃ w, ws[i]? = some w := ⟨_, List.getElem?_eq_getElem hi'⟩
    have at1 : atI (ws.map D.str) (i : Int) = some (.str w) := atI_nat (by rw [List.getElem?_map, hw]; rfl)
    have hl2 := sb _ _ hl
    rw [drop_cons hw] at er
    have fail : ∀ {S3}, runP ws = some i → Dt.Sub S S3 → Rt Q (.int i) S3 := fun e s => .keep s (by rw [e] at h; exact h)
    simp
    subst hB
    refine dSeqIf_gen fun R1 R2 R3 e1 e2 e3 => ?_
    simp
    refine dEq_seq (xs := st.reverse.map wtD) (ys := []) (by simp [hq]) (by simp) (fun x hx => ?_) (fun x hx => by cases hx) ?_
    · obtain ⟨y, _, rfl⟩ := List.mem_map.mp hx
      exact sm_wt y
    match st with
    | [] =>
      simp
      subst e1
      simp
      exact fail er sb
    | (s, d) :: st =>
      rw [srt_stack] at hq ⊢
      simp only [List.append_eq_nil_iff, List.cons_ne_self, and_false, decide_false, Bool.false_eq_true, if_false, reduceCtorEq]
      subst e2 e3
      simp only [dNx]
      refine dSeq_gen fun R hR => ?_
      simp [hq]
      obtain ⟨S3, hS3⟩ : ∃ S3, upo S2 q (Ob.lst (List.map wtD st).reverse) = S3 := ⟨_, rfl⟩
      have q3 : S3 q = some (.lst (List.map wtD st).reverse) := by rw [← hS3]; exact upo_same
      have sb3 : Dt.Sub S S3 := fun b o hb => by rw [← hS3, upo_ne (fun e => by rw [e, hqS] at hb; cases hb)]; exact sb b o hb
      have hl3 := sb3 _ _ hl
      rw [hS3]
      clear hS3 hq sb hl2
      subst hR
      rw [List.length_cons] at ls
      have lst : (List.map wtD st).reverse.length = st.length := by simp
      cases s with
      | number =>
        refine dIf_gen fun R1 R2 e1 e2 => ?_
        simp [srtS]
        subst e1
        refine dSeqIf_gen fun R3 R4 R5 e3 e4 e5 => ?_
        simp [hl3, at1]
        refine ⟨w, rfl, ?_⟩
        simp
        have er : runP ws = (match numN w with | none => some i | some m => run (List.replicate m (.part, d + 1) ++ st) n (i + 1) (ws.drop (i + 1))) := er
        cases e : numN w with
        | none =>
          rw [if_pos (nmI_lt.mpr e)]
          subst e3
          simp
          rw [e] at er
          exact fail er sb3
        | some m =>
          rw [if_neg (fun z => by rw [nmI_lt.mp z] at e; cases e)]
          have em : nmI w = (m : Nat) := by simp [nmI, e]
          have m40 := (numN_some e).1
          rw [e] at er
          subst e4 e5
          simp only [dNx]
          simp
          intro p hp
          have pl : l ≠ p := fun e => by rw [← e, hl3] at hp; cases hp
          have pq : q ≠ p := fun e => by rw [← e, q3] at hp; cases hp
          simp [upo_ne pl, hl3, at1]
          refine ⟨w, rfl, ?_⟩
          rw [em]
          simp
          refine ⟨⟨by omega, by omega⟩, ?_⟩
          intro p2 hp2
          obtain ⟨np2, hp2⟩ := upo_none hp2
          have pq2 : q ≠ p2 := fun e => by rw [← e, q3] at hp2; cases hp2
          simp only [upo_same]
          rw [delo_upo2 (by rw [upo_ne np2]; exact hp2)]
          have q4 : ∀ o, upo S3 p o q = some (.lst (List.map wtD st).reverse) := fun o => by rw [upo_ne pq, q3]
          simp [catD, q4]
          refine ⟨by omega, fun p3 hp3 => ?_⟩
          obtain ⟨np3, hp3⟩ := upo_none hp3
          have nS : ∀ {a}, S3 a = none → S a = none := fun {a} e => by
            cases z : S a with
            | none => rfl
            | some u => rw [sb3 _ _ z] at e; cases e
          refine hM _ _ ⟨p3, List.replicate m (.part, d + 1) ++ st, n, _, _, _, rfl, fun b o hb => ?_, ?_, nS hp3, fun e => (by rw [e, hl3] at hp3; cases hp3), ?_, er⟩
          · rw [upo_ne (fun e => by rw [e, nS hp3] at hb; cases hb), upo_ne (fun e => by rw [e, nS hp] at hb; cases hb)]; exact sb3 b o hb
          · rw [upo_same]; simp [srtS]
          · rw [List.length_append, List.length_replicate]; omega
      | part =>
        simp [srtS, hl3, at1]
        refine ⟨.part, w, rfl, by simp, cw w (List.mem_of_getElem? hw), ?_⟩
        simp
        have er : runP ws = (if hdB w = true ∧ d ≤ 10 ∧ n + 1 ≤ 40 then run (wantS w d ++ st) (n + 1) (i + 1) (ws.drop (i + 1)) else some i) := er
        by_cases c1 : hdB w = true
        · rw [if_pos (show fitS .part w = true from c1)]
          by_cases c2 : 10 < d
          · rw [if_pos (by omega)]
            exact fail (by rw [er, if_neg (by omega)]) sb3
          rw [if_neg (by omega)]
          by_cases c3 : 40 < n + 1
          · rw [if_pos (by omega)]
            exact fail (by rw [er, if_neg (by omega)]) sb3
          rw [if_neg (by omega)]
          rw [if_pos ⟨c1, by omega, by omega⟩] at er
          simp [hl3, at1]
          refine ⟨w, d, rfl, ?_⟩
          simp [catD, q3]
          have lw1 : (wantS w d).length ≤ 1 := by unfold wantS; split <;> (try split) <;> (try split) <;> (try split) <;> simp
          refine ⟨by omega, fun p3 hp3 => ?_⟩
          have nS : ∀ {a}, S3 a = none → S a = none := fun {a} e => by
            cases z : S a with
            | none => rfl
            | some u => rw [sb3 _ _ z] at e; cases e
          refine hM _ _ ⟨p3, wantS w d ++ st, n + 1, some (.int i), some (.str "part"), some (.int d), by simp, fun b o hb => ?_, ?_, nS hp3, fun e => (by rw [e, hl3] at hp3; cases hp3), ?_, er⟩
          · rw [upo_ne (fun e => by rw [e, nS hp3] at hb; cases hb)]; exact sb3 b o hb
          · rw [upo_same]
            match hh : wantS w d, lw1 with
            | [], _ => simp
            | [x], _ => simp
          · rw [List.length_append]; omega
        · rw [if_neg (show ¬ fitS .part w = true from c1)]
          exact fail (by rw [er, if_neg (fun z => c1 z.1)]) sb3
      | word =>
        simp [srtS, hl3, at1]
        refine ⟨.word, w, rfl, by simp, cw w (List.mem_of_getElem? hw), ?_⟩
        simp
        have er : runP ws = (if wdB w = true then run st n (i + 1) (ws.drop (i + 1)) else some i) := er
        by_cases c : wdB w = true
        · rw [if_pos c] at er
          rw [if_pos (show fitS .word w = true from c)]
          exact hM _ _ ⟨q, st, n, _, _, _, rfl, sb3, by rw [q3, List.map_reverse], hqS, ql, by omega, er⟩
        · rw [if_neg c] at er
          rw [if_neg (show ¬ fitS .word w = true from c)]
          exact fail er sb3
      | mark =>
        simp [srtS, hl3, at1]
        refine ⟨.mark, w, rfl, by simp, cw w (List.mem_of_getElem? hw), ?_⟩
        simp
        have er : runP ws = (if nmB w = true then run st n (i + 1) (ws.drop (i + 1)) else some i) := er
        by_cases c : nmB w = true
        · rw [if_pos c] at er
          rw [if_pos (show fitS .mark w = true from c)]
          exact hM _ _ ⟨q, st, n, _, _, _, rfl, sb3, by rw [q3, List.map_reverse], hqS, ql, by omega, er⟩
        · rw [if_neg c] at er
          rw [if_neg (show ¬ fitS .mark w = true from c)]
          exact fail er sb3
  · rintro τ S2 ⟨q, st, n, x3, x4, x5, rfl, sb, hq, hqS, ql, ls, er⟩
    have e0 : (rngD 0 ws.length).length = ws.length := by rw [rgN_len]
    rw [e0, List.drop_length] at er
    subst hR
    dsimp only
    refine dSeqIf_gen fun R1 R2 R3 e1 e2 e4 => ?_
    simp
    refine dEq_seq (xs := st.reverse.map wtD) (ys := []) (by simp [hq]) (by simp) (fun x hx => ?_) (fun x hx => by cases hx) ?_
    · obtain ⟨y, _, rfl⟩ := List.mem_map.mp hx
      exact sm_wt y
    match st with
    | [] =>
      simp
      subst e2 e4
      simp
      refine .keep sb ?_
      rw [er] at h
      exact h
    | x :: st =>
      rw [srt_stack]
      simp only [List.append_eq_nil_iff, List.cons_ne_self, and_false, decide_false, if_true, reduceCtorEq, Bool.not_false]
      subst e1
      simp [sb _ _ hl]
      refine .keep sb ?_
      rw [er] at h
      exact h
end Sh
set_option maxRecDepth 100000
set_option maxHeartbeats 4000000
namespace Sh
open PySem PySem.Spec L2 Dt Sh
/-- short, and of signs that are -/
abbrev OkB (B : Nat) (v : Str) : Prop := v.length ≤ B ∧ ∀ c ∈ v.cps.toList, c < 1114112
theorem OkB.mono {B B' : Nat} {v : Str} (h : OkB B v) (l : B ≤ B') : OkB B' v := ⟨Nat.le_trans h.1 l, h.2⟩
theorem OkB.ok {B : Nat} {v : Str} (h : OkB B v) : PyData.strOk v = true := by
  unfold PyData.strOk
  rw [← Array.all_toList, List.all_eq_true]
  exact fun c hc => decide_eq_true (h.2 c hc)
theorem nm_okb {v : Str} (h : Nm v) : OkB 8 v := ⟨h.2.1, fun c hc => by have := h.2.2 c hc; omega⟩
theorem num_okb : ∀ n : Nat, n < 41 → OkB 8 (numS n) := by decide +kernel
theorem wds_okb (p : Pt) : p.okP Nm → p.all.length ≤ 40 → ∀ x ∈ p.wds, OkB 8 x := fun h1 h2 => go p h1 h2
where
  go : ∀ p : Pt, p.okP Nm → p.all.length ≤ 40 → ∀ x ∈ p.wds, OkB 8 x
  | .stay, h1, h2 => by
    intro x hx
    simp [Pt.wds] at hx
    subst hx
    decide +kernel
  | .step b w, h1, h2 => by
    intro x hx
    have hw := h1 _ (Pt.self_all _)
    simp [Pt.wds] at hx
    rcases hx with rfl | rfl
    · cases b <;> decide +kernel
    · rcases hw with rfl | hw
      · decide +kernel
      · exact nm_okb hw
  | .mark b m, h1, h2 => by
    intro x hx
    have hw : Nm m := h1 _ (Pt.self_all _)
    simp [Pt.wds] at hx
    rcases hx with rfl | rfl
    · cases b <;> decide +kernel
    · exact nm_okb hw
  | .seq b ps, h1, h2 => by
    intro x hx
    have hl := Pt.seq_len (b := b) (ps := ps)
    simp [Pt.wds] at hx
    rcases hx with rfl | rfl | hx
    · cases b <;> decide +kernel
    · exact num_okb _ (by omega)
    · exact gos ps (fun p hp => okP_kids h1 hp) (by rw [Pt.all_seq, List.length_cons] at h2; omega) x hx
  | .many p, h1, h2 => by
    intro x hx
    simp [Pt.wds] at hx
    rcases hx with rfl | hx
    · decide +kernel
    · exact go p (okP_kids h1 (by simp [Pt.kids])) (by rw [Pt.all_many, List.length_cons] at h2; omega) x hx
  gos : ∀ ps : List Pt, (∀ p ∈ ps, p.okP Nm) → (Pt.alls ps).length ≤ 40 → ∀ x ∈ Pt.wdss ps, OkB 8 x
  | [], _, _ => by intro x hx; simp [Pt.wdss] at hx
  | p :: ps, h1, h2 => by
    intro x hx
    rw [Pt.alls_cons, List.length_append] at h2
    simp [Pt.wdss] at hx
    rcases hx with hx | hx
    · exact go p (h1 p (by simp)) (by omega) x hx
    · exact gos ps (fun q hq => h1 q (by simp [hq])) (by omega) x hx
def sp_l_great : DSp := fun ds S Q _ => ∃ (p : Addr) (n : Nat) (o : Ob), ds = [.ref p] ∧ S p = some o ∧ FeedOb n o ∧ n < 2 ^ 80 ∧
  ∀ (vs : List Str) (o' : Ob), 1 ≤ vs.length → vs.length ≤ 90 → (∀ v ∈ vs, OkB 9 v) → FeedOb (n + 20) o' → Q (.rol (strsD vs)) (upo S p o')
theorem sp_l_great_mono : SpMono sp_l_great := fun ds S Q Q' E E' k _ ⟨p, n, o, h1, h2, h3, h4, h⟩ => ⟨p, n, o, h1, h2, h3, h4, fun q o' a b c d => k _ _ (h q o' a b c d)⟩
def sp_l_spoilt : DSp := fun ds S Q _ => ∃ (p : Addr) (us ks ws : List Str) (n L B : Nat) (o : Ob), ds = [.ref p, .rol (strsD us), nmsD (.rol []) ks ws] ∧ 1 ≤ us.length ∧ us.length ≤ L ∧ L ≤ 200 ∧ (∀ u ∈ us, OkB B u) ∧ 9 ≤ B ∧ B ≤ 20 ∧ ks.length = 3 ∧ ws.length = 3 ∧ (∀ x ∈ ks, Nm x) ∧ (∀ x ∈ ws, Nm x) ∧ S p = some o ∧ FeedOb n o ∧ n < 2 ^ 80 ∧
  ∀ vs o', vs.length ≤ L + 1 → (∀ v ∈ vs, OkB (2 * B + 1) v) → FeedOb (n + 10) o' → Q (.rol (strsD vs)) (upo S p o')
theorem sp_l_spoilt_mono : SpMono sp_l_spoilt := fun ds S Q Q' E E' k _ ⟨p, us, ks, ws, n, L, B, o, h1, h2, h3, h4, h5, h6, h7, h8, h9, ha, hb, hc, hd, he, h⟩ => ⟨p, us, ks, ws, n, L, B, o, h1, h2, h3, h4, h5, h6, h7, h8, h9, ha, hb, hc, hd, he, fun vs o' a b c => k _ _ (h vs o' a b c)⟩
def t_l_great : DTS := (dSeq (dIf (dTest (dOp (dEq false) (dCall sp_l_next (dCons (dVar 0) (dCons (dC (.int 2)) dNil))) (dC (.int 0))))
      (dSeq (dAsg (dOp dAddF (dC (.int 37)) (dCall sp_l_next (dCons (dVar 0) (dCons (dC (.int 4)) dNil)))) (dGN 1))
    (dRet (dOp dAddF (dLstF (dCons (dC (.str "then")) (dCons (dCB cStr (dCons (dVar 1) dNil)) dNil))) (dFz (dOp dMul (dLst (dCons (dC (.str "stay")) dNil)) (dVar 1))))))
      dNx)
    (dSeq (dAsg (dLstF dNil) (dGN 2))
    (dSeq (dFor (dRng1 (dCons (dOp dAddF (dC (.int 8)) (dCall sp_l_next (dCons (dVar 0) (dCons (dC (.int 4)) dNil)))) dNil)) (dGN 3)
      (dAsg (dOp dAddF (dVar 2) (dOp dIxS (dLstF (dCons (dLstF (dCons (dC (.str "many")) dNil)) (dCons (dLstF (dCons (dC (.str "then")) (dCons (dC (.str "1")) dNil))) (dCons (dLstF (dCons (dC (.str "either")) (dCons (dC (.str "1")) dNil))) dNil)))) (dCall sp_l_next (dCons (dVar 0) (dCons (dC (.int 3)) dNil))))) (dGN 2)))
    (dRet (dOp dAddF (dVar 2) (dLstF (dCons (dC (.str "stay")) dNil)))))))
abbrev N_l_great : List Str := ["_law_feed_here", "_law_many", "_law_words_here", "_law_k"]
def t_l_right (C_NoText : Addr) (C_Reader : Addr) : DTS := (dSeq (dAsg (dC .non) (dGN 1))
    (dSeq (dAsg (dC .non) (dGN 2))
    (dSeq (dTry [(C_NoText, true)] 3
      (dAsg (dCall (sp_read_pattern C_NoText C_Reader) (dCons (dVar 0) dNil)) (dGN 1))
      (dAsg (dVar 3) (dGN 2)))
    (dSeq (dAsg (dCall sp_l_wrong (dCons (dBM "str" mSplit (dVar 0) (dCons (dC (.str " ")) dNil)) dNil)) (dGN 4))
    (dSeq (dIf (dTest (dOp (dIsN false) (dVar 4) (dC .non)))
      (dRet (dAndV (dOp (dIsN false) (dVar 2) (dC .non)) (dOp (dEq false) (dCall sp_shown (dCons (dVar 1) dNil)) (dVar 0))))
      dNx)
    (dSeq (dIf (dOr (dTest (dOp (dIsN false) (dVar 2) (dC .non))) (dOr (dTest (dOp (dEq true) (dCall (sp_l_own C_NoText) (dCons (dVar 2) dNil)) (dC (.str "text")))) (dTest (dIsi "bool" (dFldX [C_NoText] "at" (dVar 2))))))
      (dRet (dC (.bl false)))
      dNx)
    (dRet (dAndV (dIsi "int" (dFldX [C_NoText] "at" (dVar 2))) (dOp (dEq false) (dFldX [C_NoText] "at" (dVar 2)) (dVar 4))))))))))
abbrev N_l_right : List Str := ["_law_text", "_law_found", "_law_caught", "_law_e", "_law_due"]
theorem r_l_right {N C : Addr} (ds S Q E) (h : sp_l_right N C ds S Q E) : t_l_right N C (dEnd Q E) (dstart N_l_right ds) S := by
  obtain ⟨z, rfl, hz, h⟩ := h
  obtain ⟨l1, l2⟩ := split_sz z
  unfold t_l_right
  refine dSeq_gen fun R hR => ?_
  simp [dstart]
  subst hR
  refine dSeq_gen fun R hR => ?_
  simp
  subst hR
  refine dSeq_gen fun R hR => ?_
  simp
  refine ⟨z, rfl, by omega, fun pt e ok dp al er => ?_, fun j w => ?_⟩
  · subst hR
    refine dSeq_gen fun R hR => ?_
    simp
    refine ⟨by decide +kernel, by omega, fun q hq => ⟨q, _, rfl, upo_same, by omega, fun w hw => Nat.le_trans (l2 w hw) (by omega), ?_⟩⟩
    rw [show runP (Txt.split z (Str.ofString " ")) = none from er]
    subst hR
    refine dSeqIf_gen fun R1 R2 R e1 e2 e3 => ?_
    simp [onD, Dt.isNon]
    subst e1
    simp [Dt.isNon]
    refine ⟨pt, rfl, ok, dp, al, ?_⟩
    have ez : shownS pt = z := by
      unfold shownS
      rw [← e]
      exact (PySem.StrLaws.glued_eq_join _ _).trans (PySem.StrLaws.join_split _ _)
    rw [ez]
    simp
    exact .keep (fun b o hb => by rw [upo_ne (fun e => by rw [e, hq] at hb; cases hb)]; exact hb) h
  · refine ⟨true, by simp, fun _ a dd ha hd nad => ?_, by simp⟩
    have hx0 : HasX (upo (upo S dd (.xd [("at", .int j)])) a (.exc N dd)) a N [("at", .int j)] := ⟨dd, upo_same, by rw [upo_ne nad.symm, upo_same]⟩
    simp
    subst hR
    refine dSeq_gen fun R hR => ?_
    simp
    refine ⟨by decide +kernel, by omega, fun q hq => ⟨q, _, rfl, upo_same, by omega, fun w hw => Nat.le_trans (l2 w hw) (by omega), ?_⟩⟩
    rw [show runP (Txt.split z (Str.ofString " ")) = some j from w]
    have hx1 : ∀ o, HasX (upo (upo (upo S dd (.xd [("at", .int j)])) a (.exc N dd)) q o) a N [("at", .int j)] := fun o => by
      obtain ⟨d1, g1, g2⟩ := hx0
      have aq : a ≠ q := fun z => by subst z; rw [hq] at g1; cases g1
      have dq : d1 ≠ q := fun z => by subst z; rw [hq] at g2; cases g2
      exact ⟨d1, by rw [upo_ne aq]; exact g1, by rw [upo_ne dq]; exact g2⟩
    subst hR
    refine dSeqIf_gen fun R1 R2 R e1 e2 e3 => ?_
    simp [onD, Dt.isNon]
    subst e2 e3
    simp only [dNx]
    refine dSeqIf_gen fun R1 R2 R e1 e2 e3 => ?_
    simp [Dt.isNon]
    refine ⟨a, _, rfl, hx1 _, ?_⟩
    simp
    refine dFldXK_at 0 (hx1 _) rfl rfl ?_
    simp [tyName]
    subst e2 e3
    simp
    refine dFldXK_at 0 (hx1 _) rfl rfl ?_
    simp [tyName]
    refine dFldXK_at 0 (hx1 _) rfl rfl ?_
    simp
    refine .keep (fun b o hb => ?_) h
    rw [upo_ne, upo_ne, upo_ne]
    · exact hb
    · intro z; rw [z, hd] at hb; cases hb
    · intro z; rw [z, ha] at hb; cases hb
    · intro z
      subst z
      obtain ⟨y1, y2⟩ := upo_none hq
      obtain ⟨y3, y4⟩ := upo_none y2
      rw [y4] at hb; cases hb
theorem r_l_great (ds S Q E) (h : sp_l_great ds S Q E) : t_l_great (dEnd Q E) (dstart N_l_great ds) S := by
  obtain ⟨p, n, o, rfl, hp, fo, hn, h⟩ := h
  unfold t_l_great
  refine dSeqIf_gen fun R1 R2 R e1 e2 e3 => ?_
  simp [dstart]
  refine ⟨p, 2, n, o, rfl, by decide, by decide, hp, fo, by omega, fun v o1 v0 v1 fo1 => ?_⟩
  simp
  by_cases c : v = 0
  · rw [if_pos c]
    subst e1
    refine dSeq_gen fun R4 hR4 => ?_
    simp
    refine ⟨p, 4, n + 1, o1, rfl, by decide, by decide, upo_same, fo1, by omega, fun u o2 u0 u1 fo2 => ?_⟩
    obtain ⟨m, rfl⟩ := Int.eq_ofNat_of_zero_le u0
    have u1 : m < 4 := by omega
    simp
    subst hR4
    simp
    have b1 : ∀ m : Nat, m < 4 → (37 + (m : Int)).natAbs.log2 < 1920 ∧ OkB 9 (Str.ofString (37 + (m : Int)).repr) := by decide +kernel
    obtain ⟨b2, b3⟩ := b1 m u1
    have et : (37 + (m : Int)).toNat = 37 + m := by omega
    refine ⟨b2, fun p1 hp1 => ?_⟩
    rw [et]
    generalize Str.ofString (37 + (m : Int)).repr = sm at b3 ⊢
    simp only [upo_same]
    refine ⟨⟨by omega, by omega, by simp; omega⟩, fun p2 hp2 => ?_⟩
    simp only [upo_same]
    rw [delo_upo2 hp2]
    have ef : (List.replicate (37 + m) [D.str (Str.ofString "stay")]).flatten = List.replicate (37 + m) (D.str (Str.ofString "stay")) := by simp
    rw [ef]
    simp [catD]
    refine ⟨by omega, ?_⟩
    have nS : S p1 = none ∧ p1 ≠ p := ⟨(upo_none hp1).2, fun e => by rw [e] at hp1; simp at hp1⟩
    refine .keep (fun b o hb => ?_) (by
      have := h ("then" :: sm :: List.replicate (37 + m) "stay") o2 (by simp) (by simp; omega) (fun v hv => by
        simp at hv
        rcases hv with rfl | rfl | ⟨_, rfl⟩
        · decide +kernel
        · exact b3
        · decide +kernel) (fo2.more (by omega))
      simpa [strsD] using this)
    by_cases c : b = p
    · subst c; rw [upo_ne nS.2.symm]; exact hb
    · rw [upo_ne c] at hb
      rw [upo_ne (fun e => by rw [e, nS.1] at hb; cases hb), upo_ne c]; exact hb
  · rw [if_neg c]
    subst e2 e3
    simp only [dNx]
    refine dSeq_gen fun R hR => ?_
    simp
    subst hR
    refine dSeqFor_gen fun B R hB hR => ?_
    simp
    refine ⟨p, 4, n + 1, o1, rfl, by decide, by decide, upo_same, fo1, by omega, fun u o2 u0 u1 fo2 => ?_⟩
    obtain ⟨m, rfl⟩ := Int.eq_ofNat_of_zero_le u0
    have u1 : m < 4 := by omega
    simp
    refine ⟨by omega, ?_⟩
    have et : (8 + (m : Int)).toNat = 8 + m := by omega
    rw [et]
    refine loop_inv (fun i τ S' => ∃ (vs : List Str) (x3 : Option D) (o' : Ob), τ = [some (.ref p), none, some (.rol (strsD vs)), x3] ∧ S' = upo S p o' ∧ FeedOb (n + 2 + i) o' ∧ vs.length ≤ 2 * i ∧ ∀ v ∈ vs, OkB 9 v) ⟨[], none, o2, rfl, rfl, fo2, by simp, by simp⟩ (fun _ _ _ _ _ => trivial) ?_ ?_
    · rintro i d τ S2 M hd ⟨vs, x3, o', rfl, rfl, fo', lv, cv⟩ hM
      obtain ⟨hi, rfl⟩ := rgN_get hd
      simp
      subst hB
      simp [catD]
      refine ⟨p, 3, n + 2 + i, o', rfl, by decide, by decide, upo_same, fo', by omega, fun y o3 y0 y1 fo3 => ?_⟩
      simp
      obtain ⟨us, eu, lu, cu⟩ : ∃ us : List Str, atI [D.rol [D.str "many"], D.rol [D.str "then", D.str "1"], D.rol [D.str "either", D.str "1"]] y = some (.rol (strsD us)) ∧ us.length ≤ 2 ∧ ∀ u ∈ us, OkB 9 u := by
        have y3 : y = 0 ∨ y = 1 ∨ y = 2 := by omega
        rcases y3 with rfl | rfl | rfl
        · exact ⟨["many"], by rw [atI_0]; rfl, by decide, by decide +kernel⟩
        · exact ⟨["then", "1"], by rw [atI_1]; rfl, by decide, by decide +kernel⟩
        · exact ⟨["either", "1"], by rw [atI_2]; rfl, by decide, by decide +kernel⟩
      rw [eu, opt_some]
      simp
      refine ⟨by omega, hM _ _ ⟨vs ++ us, some (.int i), o3, by simp [strsD], rfl, by simpa [Nat.add_assoc] using fo3, by rw [List.length_append]; omega, fun v hv => ?_⟩⟩
      rcases List.mem_append.mp hv with h | h
      · exact cv v h
      · exact cu v h
    · rintro τ S2 ⟨vs, x3, o', rfl, rfl, fo', lv, cv⟩
      rw [rgN_len] at fo' lv
      subst hR
      simp [catD]
      refine ⟨by omega, .same ?_⟩
      have := h (vs ++ ([("stay" : Str)] : List Str)) o' (by simp) (by simp; omega) (fun v hv => by
        rcases List.mem_append.mp hv with h | h
        · exact cv v h
        · rw [List.mem_singleton.mp h]; decide +kernel) (fo'.more (by omega))
      simpa [strsD] using this
end Sh
set_option maxRecDepth 100000
set_option maxHeartbeats 4000000
namespace Sh
open PySem PySem.Spec L2 Dt Sh
def t_l_spoilt : DTS := (dSeq (dAsg (dLstF (dCons (dC (.str "")) (dCons (dC (.str "stay")) (dCons (dC (.str "on")) (dCons (dC (.str "back")) (dCons (dC (.str "at")) (dCons (dC (.str "off")) (dCons (dC (.str "then")) (dCons (dC (.str "either")) (dCons (dC (.str "many")) (dCons (dC (.str "*")) (dCons (dC (.str "0")) (dCons (dC (.str "1")) (dCons (dC (.str "2")) (dCons (dC (.str "3")) (dCons (dC (.str "03")) (dCons (dC (.str "39")) dNil))))))))))))))))) (dGN 3))
    (dSeq (dAsg (dOp dAddF (dVar 3) (dLstF (dCons (dC (.str "40")) (dCons (dC (.str "100")) (dCons (dC (.str "-1")) (dCons (dC (.str "Stay")) (dCons (dC (.str "no")) (dCons (dC (.str "a")) (dCons (dC (.str "abcdefghi")) (dCons (dC (.str "A")) (dCons (dC (.str "**")) dNil))))))))))) (dGN 3))
    (dSeq (dAsg (dOp dAddF (dOp dAddF (dOp dAddF (dVar 3) (dLstF (dCons (dC (.str "a*")) (dCons (dC (.str "1a")) (dCons (dC (.str "or")) (dCons (dC (.str "step")) (dCons (dC (.str "-")) dNil))))))) (dOp dIxS (dVar 2) (dC (.int 1)))) (dOp dIxS (dVar 2) (dC (.int 2)))) (dGN 3))
    (dSeq (dAsg (dCall sp_l_next (dCons (dVar 0) (dCons (dCB cLen (dCons (dVar 1) dNil)) dNil))) (dGN 4))
    (dSeq (dAsg (dOp dIxS (dVar 1) (dVar 4)) (dGN 5))
    (dSeq (dAsg (dCall sp_l_next (dCons (dVar 0) (dCons (dOp dAddF (dCB cLen (dCons (dVar 5) dNil)) (dC (.int 1))) dNil))) (dGN 6))
    (dSeq (dAsg (dOp dIxS (dC (.str "ayz A0*")) (dCall sp_l_next (dCons (dVar 0) (dCons (dC (.int 7)) dNil)))) (dGN 7))
    (dSeq (dAsg (dOp dIxS (dVar 3) (dCall sp_l_next (dCons (dVar 0) (dCons (dCB cLen (dCons (dVar 3) dNil)) dNil)))) (dGN 8))
    (dSeq (dAsg (dSlF (dVar 1) dNoP (dSoP (dVar 4))) (dGN 9))
    (dSeq (dAsg (dSlF (dVar 1) (dSoP (dOp dAddF (dVar 4) (dC (.int 1)))) dNoP) (dGN 10))
    (dSeq (dAsg (dLst (dCons (dOp dAddF (dVar 9) (dVar 10)) (dCons (dOp dAddF (dOp dAddF (dVar 9) (dLstF (dCons (dVar 5) (dCons (dVar 5) dNil)))) (dVar 10)) dNil))) (dGN 11))
    (dSeq (dAsg (dOp dAdd (dVar 11) (dLstF (dCons (dOp dAddF (dVar 1) (dLstF (dCons (dVar 8) dNil))) (dCons (dVar 9) dNil)))) (dGN 11))
    (dSeq (dDrop (dBM "list" mAppend (dVar 11) (dCons (dOp dAddF (dOp dAddF (dOp dAddF (dVar 9) (dSlF (dVar 10) dNoP (dSoP (dC (.int 1))))) (dLstF (dCons (dVar 5) dNil))) (dSlF (dVar 10) (dSoP (dC (.int 1))) dNoP)) dNil)))
    (dSeq (dAsg (dOp dAdd (dVar 11) (dFz (dOp dMul (dLst (dCons (dOp dAddF (dOp dAddF (dVar 9) (dLstF (dCons (dVar 8) dNil))) (dVar 10)) dNil)) (dC (.int 4))))) (dGN 11))
    (dSeq (dDrop (dBM "list" mAppend (dVar 11) (dCons (dOp dAddF (dOp dAddF (dVar 9) (dLstF (dCons (dVar 8) (dCons (dVar 5) dNil)))) (dVar 10)) dNil)))
    (dSeq (dDrop (dBM "list" mAppend (dVar 11) (dCons (dOp dAddF (dOp dAddF (dVar 9) (dLstF (dCons (dOp dAddF (dOp dAddF (dSlF (dVar 5) dNoP (dSoP (dVar 6))) (dVar 7)) (dSlF (dVar 5) (dSoP (dVar 6)) dNoP)) dNil))) (dVar 10)) dNil)))
    (dSeq (dDrop (dBM "list" mAppend (dVar 11) (dCons (dOp dAddF (dOp dAddF (dVar 9) (dLstF (dCons (dOp dAddF (dOp dAddF (dSlF (dVar 5) dNoP (dSoP (dVar 6))) (dVar 7)) (dSlF (dVar 5) (dSoP (dOp dAddF (dVar 6) (dC (.int 1)))) dNoP)) dNil))) (dVar 10)) dNil)))
    (dSeq (dDrop (dBM "list" mAppend (dVar 11) (dCons (dOp dAddF (dOp dAddF (dVar 9) (dLstF (dCons (dOp dAddF (dSlF (dVar 5) dNoP (dSoP (dVar 6))) (dSlF (dVar 5) (dSoP (dOp dAddF (dVar 6) (dC (.int 1)))) dNoP)) dNil))) (dVar 10)) dNil)))
    (dRet (dOp dIxS (dVar 11) (dCall sp_l_next (dCons (dVar 0) (dCons (dC (.int 13)) dNil)))))))))))))))))))))))
abbrev N_l_spoilt : List Str := ["_law_feed_here", "_law_words_here", "_law_names_here", "_law_some", "_law_at", "_law_word", "_law_spot", "_law_sign", "_law_other", "_law_head", "_law_tail", "_law_bent"]
theorem app_okc {x y : Str} (hx : ∀ c ∈ x.cps.toList, c < 1114112) (hy : ∀ c ∈ y.cps.toList, c < 1114112) : ∀ c ∈ (x ++ y).cps.toList, c < 1114112 := fun c hc => by
  have : (x ++ y).cps = x.cps ++ y.cps := rfl
  rw [this, Array.toList_append, List.mem_append] at hc
  exact hc.elim (hx c) (hy c)
theorem cut_okc {x : Str} (hx : ∀ c ∈ x.cps.toList, c < 1114112) (l h : Option Int) : ∀ c ∈ (cutS x l h).cps.toList, c < 1114112 := fun c hc => by
  unfold cutS at hc
  refine hx c ?_
  simp at hc
  exact List.mem_of_mem_drop (List.mem_of_mem_take hc)
def GoodD (L B : Nat) (d : D) : Prop := ∃ vs : List Str, d = .rol (strsD vs) ∧ vs.length ≤ L + 1 ∧ ∀ v ∈ vs, OkB (2 * B + 1) v
theorem cut_ex (us : List Str) (l h : Option Int) : ∃ vs, cutD (strsD us) l h = strsD vs ∧ (∀ v ∈ vs, v ∈ us) ∧ vs.length ≤ us.length :=
  ⟨(us.drop (HT.sIx us.length 0 l)).take (HT.sIx us.length us.length h - HT.sIx us.length 0 l), by simp [cutD, strsD, List.map_take, List.map_drop], fun v hv => List.mem_of_mem_drop (List.mem_of_mem_take hv), by simp; omega⟩
theorem cutS_len (x : Str) (l h : Option Int) : (cutS x l h).length ≤ x.length := by
  unfold cutS
  simp [Str.length]
  omega
def KpS (S : DH) (p : Addr) (o : Ob) (S' : DH) : Prop := S' p = some o ∧ ∀ b u, b ≠ p → S b = some u → S' b = some u
section
variable {S S' S2 : DH} {p q : Addr} {o u : Ob}
theorem KpS.ext (h : KpS S p o S') (x : Ext S' S2) : KpS S p o S2 := ⟨x _ _ h.1, fun b v n e => x _ _ (h.2 b v n e)⟩
theorem KpS.free (hp : S p = some o') (h : KpS S p o S') (hq : S' q = none) : S q = none ∧ q ≠ p := by
  have qp : q ≠ p := fun e => by rw [e, h.1] at hq; cases hq
  refine ⟨?_, qp⟩
  cases e : S q with
  | none => rfl
  | some v => rw [h.2 q v qp e] at hq; cases hq
theorem KpS.put (h : KpS S p o S') (hq : S q = none ∧ q ≠ p) : KpS S p o (upo S' q u) := ⟨by rw [upo_ne hq.2.symm]; exact h.1, fun b v n e => by rw [upo_ne (fun z => by rw [z, hq.1] at e; cases e)]; exact h.2 b v n e⟩
theorem KpS.sub (h : KpS S p o S') : Dt.Sub (upo S p u) (upo S' p u) := fun b v hb => by
  by_cases c : b = p
  · subst c; rw [upo_same] at hb ⊢; exact hb
  · rw [upo_ne c] at hb ⊢; exact h.2 b v c hb
end
theorem delo_upo {X : DH} {r : Addr} {o : Ob} (h : X r = none) : delo (upo X r o) r = X := by
  funext b
  by_cases c : b = r
  · subst c; simp [delo, h]
  · simp [delo, c, upo_ne c]
theorem r_l_spoilt (ds S Q E) (h : sp_l_spoilt ds S Q E) : t_l_spoilt (dEnd Q E) (dstart N_l_spoilt ds) S := by
  obtain ⟨p, us, ks, ws, n, L, B, o, rfl, u1, u2, u3, uc, B1, B2, lk, lw, nk, nw, hp, fo, hn, h⟩ := h
  unfold t_l_spoilt
  refine dSeq_gen fun R hR => ?_
  simp only [dstart]
  simp [catD]
  subst hR
  refine dSeq_gen fun R hR => ?_
  simp [catD]
  subst hR
  refine dSeq_gen fun R hR => ?_
  simp [catD]
  have so : ∃ so : List Str, D.rol (D.str "" :: D.str "stay" :: D.str "on" :: D.str "back" :: D.str "at" :: D.str "off" :: D.str "then" :: D.str "either" :: D.str "many" :: D.str "*" :: D.str "0" :: D.str "1" :: D.str "2" :: D.str "3" :: D.str "03" :: D.str "39" :: D.str "40" :: D.str "100" :: D.str "-1" :: D.str "Stay" :: D.str "no" :: D.str "a" :: D.str "abcdefghi" :: D.str "A" :: D.str "**" :: D.str "a*" :: D.str "1a" :: D.str "or" :: D.str "step" :: D.str "-" :: (List.map D.str ks ++ List.map D.str ws)) = D.rol (strsD so) ∧ so.length = 36 ∧ ∀ v ∈ so, OkB 9 v := by
    refine ⟨(["", "stay", "on", "back", "at", "off", "then", "either", "many", "*", "0", "1", "2", "3", "03", "39", "40", "100", "-1", "Stay", "no", "a", "abcdefghi", "A", "**", "a*", "1a", "or", "step", "-"] : List Str) ++ ks ++ ws, by simp, by simp [lk, lw], fun v hv => ?_⟩
    rcases List.mem_append.mp hv with hv | hv
    · rcases List.mem_append.mp hv with hv | hv
      · have : ∀ v ∈ (["", "stay", "on", "back", "at", "off", "then", "either", "many", "*", "0", "1", "2", "3", "03", "39", "40", "100", "-1", "Stay", "no", "a", "abcdefghi", "A", "**", "a*", "1a", "or", "step", "-"] : List Str), OkB 9 v := by decide +kernel
        exact this v hv
      · exact (nm_okb (nk v hv)).mono (by decide)
    · exact (nm_okb (nw v hv)).mono (by decide)
  obtain ⟨so, eso, lso, cso⟩ := so
  rw [eso]
  refine ⟨by omega, by omega, ?_⟩
  subst hR
  refine dSeq_gen fun R hR => ?_
  simp
  refine ⟨p, us.length, n, o, rfl, by omega, by omega, hp, fo, by omega, fun v4 o4 v40 v41 fo4 => ?_⟩
  obtain ⟨a4, rfl⟩ := Int.eq_ofNat_of_zero_le v40
  subst hR
  refine dSeq_gen fun R hR => ?_
  simp
  refine opt_at (by omega) (by simp; omega) fun y hy => ?_
  obtain ⟨w, hw, rfl⟩ := List.mem_map.mp hy
  have cwo := uc w hw
  have cw := cwo.1
  subst hR
  refine dSeq_gen fun R hR => ?_
  simp
  refine ⟨by omega, p, w.length + 1, n + 1, o4, rfl, by omega, by omega, upo_same, fo4, by omega, fun v6 o6 v60 v61 fo6 => ?_⟩
  obtain ⟨a6, rfl⟩ := Int.eq_ofNat_of_zero_le v60
  simp
  subst hR
  refine dSeq_gen fun R hR => ?_
  simp
  refine ⟨p, 7, n + 2, o6, rfl, by decide, by decide, upo_same, fo6, by omega, fun v7 o7 v70 v71 fo7 => ?_⟩
  simp
  refine ⟨by decide +kernel, opt_at v70 (by have : (Str.ofString "ayz A0*").cps.toList.length = 7 := by decide +kernel
                                            simp only [this]; omega) fun c hc => ?_⟩
  subst hR
  refine dSeq_gen fun R hR => ?_
  simp
  refine ⟨p, 36, n + 3, o7, by simp [lso], by decide, by decide, upo_same, fo7, by omega, fun v8 o8 v80 v81 fo8 => ?_⟩
  simp
  refine opt_at v80 (by simp [lso]; omega) fun y hy => ?_
  obtain ⟨x8, hx8, rfl⟩ := List.mem_map.mp hy
  have o8x := cso x8 hx8
  have c8 := o8x.1
  subst hR
  refine dSeq_gen fun R hR => ?_
  simp
  obtain ⟨hd, ehd, lhd, chd⟩ : ∃ hd, List.take a4 (strsD us) = strsD hd ∧ hd.length = a4 ∧ ∀ v ∈ hd, OkB B v := ⟨us.take a4, by simp [strsD, List.map_take], by simp; omega, fun v hv => uc v (List.mem_of_mem_take hv)⟩
  rw [ehd]
  subst hR
  refine dSeq_gen fun R hR => ?_
  simp
  obtain ⟨tl, etl, ltl, ctl⟩ : ∃ tl, List.drop (a4 + 1) (strsD us) = strsD tl ∧ tl.length = us.length - (a4 + 1) ∧ ∀ v ∈ tl, OkB B v := ⟨us.drop (a4 + 1), by simp [strsD, List.map_drop], by simp, fun v hv => uc v (List.mem_of_mem_drop hv)⟩
  rw [etl]
  have g : ∀ vs : List Str, vs.length ≤ L + 1 → (∀ v ∈ vs, v ∈ hd ∨ v ∈ tl ∨ v ∈ us ∨ OkB (2 * B + 1) v) → GoodD L B (.rol (strsD vs)) := fun vs l c => ⟨vs, rfl, l, fun v hv => by
    rcases c v hv with h | h | h | h
    · exact (chd v h).mono (by omega)
    · exact (ctl v h).mono (by omega)
    · exact (uc v h).mono (by omega)
    · exact h⟩
  subst hR
  refine dSeq_gen fun R hR => ?_
  simp only [dSeq, dAsg, dGN]
  simp [catD]
  refine ⟨by omega, by omega, by omega, newO_of fun q1 S1 hq1 e1 x1 _ => ?_⟩
  obtain ⟨L1, eL1, lL1, gL1⟩ : ∃ L0, [D.rol (strsD hd ++ strsD tl), D.rol (strsD hd ++ D.str w :: D.str w :: strsD tl)] = L0 ∧ L0.length = 2 ∧ ∀ d ∈ L0, GoodD L B d := ⟨_, rfl, rfl, fun d hd' => by
    simp only [List.mem_cons, List.not_mem_nil, or_false] at hd'
    rcases hd' with rfl | rfl
    · have := g (hd ++ tl) (by simp; omega) (fun v hv => by simp at hv; rcases hv with h | h <;> simp [h])
      simpa [strsD] using this
    · have := g (hd ++ w :: w :: tl) (by simp; omega) (fun v hv => by
        simp at hv
        rcases hv with h | rfl | h
        · simp [h]
        · simp [hw]
        · simp [h])
      simpa [strsD] using this⟩
  rw [eL1] at e1
  have kp1 : KpS S p o8 S1 := ⟨x1 _ _ upo_same, fun b u n e => x1 _ _ (by rw [upo_ne n]; exact e)⟩
  subst hR
  refine dSeq_gen fun R hR => ?_
  simp only [dSeq, dAsg, dGN]
  simp [catD, e1]
  refine ⟨by omega, by omega, newO_of fun q2 S2 hq2 e2 x2 _ => ?_⟩
  obtain ⟨L2, eL2, lL2, gL2⟩ : ∃ L0, L1 ++ [D.rol (strsD us ++ [D.str x8]), D.rol (strsD hd)] = L0 ∧ L0.length = 4 ∧ ∀ d ∈ L0, GoodD L B d := ⟨_, rfl, by simp [lL1], fun d hd' => by
    simp only [List.mem_append, List.mem_cons, List.not_mem_nil, or_false] at hd'
    rcases hd' with h | rfl | rfl
    · exact gL1 d h
    · have := g (us ++ [x8]) (by simp; omega) (fun v hv => by
        simp at hv
        rcases hv with h | rfl
        · simp [h]
        · right; right; right; exact o8x.mono (by omega))
      simpa [strsD] using this
    · exact g hd (by omega) (fun v hv => by simp [hv])⟩
  rw [eL2] at e2
  have kp2 : KpS S p o8 S2 := kp1.ext x2
  have f2 := KpS.free hp kp1 hq2
  subst hR
  refine dSeq_gen fun R hR => ?_
  simp only [dSeq, dDrop]
  simp [catD, e2, mLst]
  obtain ⟨t1, et1, ct1, lt1⟩ := cut_ex tl none (some 1)
  obtain ⟨t2, et2, ct2, lt2⟩ := cut_ex tl (some 1) none
  rw [et1, et2]
  have l12 : t1.length + t2.length ≤ tl.length := by
    have h1 := congrArg List.length et1
    have h2 := congrArg List.length et2
    simp [cutD, HT.sIx] at h1 h2
    omega
  refine ⟨by simp; omega, by simp; omega, by simp; omega, by omega, ?_⟩
  obtain ⟨L3, eL3, lL3, gL3⟩ : ∃ L0, L2 ++ [D.rol (strsD hd ++ (strsD t1 ++ D.str w :: strsD t2))] = L0 ∧ L0.length = 5 ∧ ∀ d ∈ L0, GoodD L B d := ⟨_, rfl, by simp [lL2], fun d hd' => by
    simp only [List.mem_append, List.mem_cons, List.not_mem_nil, or_false] at hd'
    rcases hd' with h | rfl
    · exact gL2 d h
    · have := g (hd ++ (t1 ++ w :: t2)) (by simp; omega) (fun v hv => by
        simp at hv
        rcases hv with h | h | rfl | h
        · simp [h]
        · simp [ct1 v h]
        · simp [hw]
        · simp [ct2 v h])
      simpa [strsD] using this⟩
  rw [eL3]
  have kp3 : KpS S p o8 (upo S2 q2 (.lst L3)) := kp2.put f2
  obtain ⟨S3, hS3⟩ : ∃ S3, upo S2 q2 (.lst L3) = S3 := ⟨_, rfl⟩
  have e3 : S3 q2 = some (.lst L3) := by rw [← hS3]; exact upo_same
  rw [hS3] at kp3 ⊢
  subst hR
  refine dSeq_gen fun R hR => ?_
  simp only [dSeq, dAsg, dGN]
  simp [catD, e3]
  refine ⟨by omega, by omega, fun r1 hr1 => ?_⟩
  simp only [upo_same]
  refine ⟨by simp, fun r2 hr2 => ?_⟩
  simp only [upo_same]
  rw [delo_upo hr2]
  have r1q : q2 ≠ r1 := fun e => by rw [← e, e3] at hr1; cases hr1
  rw [upo_ne r1q, e3]
  have kp4 : KpS S p o8 (upo S3 r1 (.lst [D.rol (strsD hd ++ D.str x8 :: strsD tl)])) := kp3.put (KpS.free hp kp3 hr1)
  refine ⟨by simp; omega, newO_of fun q5 S5 hq5 e5 x5 _ => ?_⟩
  obtain ⟨L5, eL5, lL5, gL5⟩ : ∃ L0, L3 ++ ([D.rol (strsD hd ++ D.str x8 :: strsD tl)] ++ ([D.rol (strsD hd ++ D.str x8 :: strsD tl)] ++ ([D.rol (strsD hd ++ D.str x8 :: strsD tl)] ++ [D.rol (strsD hd ++ D.str x8 :: strsD tl)]))) = L0 ∧ L0.length = 9 ∧ ∀ d ∈ L0, GoodD L B d := ⟨_, rfl, by simp [lL3], fun d hd' => by
    simp only [List.mem_append, List.mem_cons, List.not_mem_nil, or_false, or_self] at hd'
    rcases hd' with h | rfl
    · exact gL3 d h
    · have := g (hd ++ x8 :: tl) (by simp; omega) (fun v hv => by
        simp at hv
        rcases hv with h | rfl | h
        · simp [h]
        · right; right; right; exact o8x.mono (by omega)
        · simp [h])
      simpa [strsD] using this⟩
  rw [eL5] at e5
  have kp5 : KpS S p o8 S5 := kp4.ext x5
  have f5 := KpS.free hp kp4 hq5
  have gy : ∀ (L0 : List D) (y : Str), OkB (2 * B + 1) y → (∀ d ∈ L0, GoodD L B d) → ∀ d ∈ L0 ++ [D.rol (strsD hd ++ D.str y :: strsD tl)], GoodD L B d := fun L0 y hy gL d hd' => by
    simp only [List.mem_append, List.mem_cons, List.not_mem_nil, or_false] at hd'
    rcases hd' with h | rfl
    · exact gL d h
    · have := g (hd ++ y :: tl) (by simp; omega) (fun v hv => by
        simp at hv
        rcases hv with h | rfl | h
        · simp [h]
        · right; right; right; exact hy
        · simp [h])
      simpa [strsD] using this
  have len : ∀ a b : Str, (a ++ b).length = a.length + b.length := fun a b => Array.size_append
  have one : (⟨#[c]⟩ : Str).length = 1 := rfl
  have cl : ∀ l h, (cutS w l h).length ≤ B := fun l h => Nat.le_trans (cutS_len w l h) cw
  have oc : ∀ x ∈ (⟨#[c]⟩ : Str).cps.toList, x < 1114112 := by
    have : ∀ c ∈ (Str.ofString "ayz A0*").cps.toList, c < 1114112 := by decide +kernel
    intro x hx
    simp at hx
    rw [hx]
    exact this c hc
  have ow : ∀ l h, ∀ x ∈ (cutS w l h).cps.toList, x < 1114112 := fun l h => cut_okc cwo.2 l h
  have c1 := cl none (some (a6 : Int))
  have c2 := cl (some (a6 : Int)) none
  have c3 := cl (some ((a6 : Int) + 1)) none
  subst hR
  refine dSeq_gen fun R hR => ?_
  simp only [dSeq, dDrop]
  simp [catD, e5, mLst]
  refine ⟨by omega, by omega, by omega, ?_⟩
  obtain ⟨La, eLa, lLa, gLa⟩ : ∃ L', L5 ++ [D.rol (strsD hd ++ D.str x8 :: D.str w :: strsD tl)] = L' ∧ L'.length = 10 ∧ ∀ d ∈ L', GoodD L B d := ⟨_, rfl, by simp [lL5], fun d hd' => by
    simp only [List.mem_append, List.mem_cons, List.not_mem_nil, or_false] at hd'
    rcases hd' with h | rfl
    · exact gL5 d h
    · have := g (hd ++ x8 :: w :: tl) (by simp; omega) (fun v hv => by
        simp at hv
        rcases hv with h | rfl | rfl | h
        · simp [h]
        · right; right; right; exact o8x.mono (by omega)
        · simp [hw]
        · simp [h])
      simpa [strsD] using this⟩
  rw [eLa]
  have kpa : KpS S p o8 (upo S5 q5 (.lst La)) := kp5.put f5
  obtain ⟨Sa, hSa⟩ : ∃ Sa, upo S5 q5 (.lst La) = Sa := ⟨_, rfl⟩
  have ea : Sa q5 = some (.lst La) := by rw [← hSa]; exact upo_same
  rw [hSa] at kpa ⊢
  subst hR
  refine dSeq_gen fun R hR => ?_
  simp only [dSeq, dDrop]
  simp [catD, ea, mLst]
  refine ⟨by omega, by rw [one]; omega, by omega, by rw [len, one]; omega, by omega, by omega, by omega, ?_⟩
  obtain ⟨Lb, eLb, lLb, gLb⟩ : ∃ L', La ++ [D.rol (strsD hd ++ D.str (cutS w none (some (a6 : Int)) ++ ⟨#[c]⟩ ++ cutS w (some (a6 : Int)) none) :: strsD tl)] = L' ∧ L'.length = 11 ∧ ∀ d ∈ L', GoodD L B d := ⟨_, rfl, by simp [lLa], gy La _ ⟨by rw [len, len, one]; omega, app_okc (app_okc (ow _ _) oc) (ow _ _)⟩ gLa⟩
  rw [eLb]
  have kpb : KpS S p o8 (upo Sa q5 (.lst Lb)) := kpa.put f5
  obtain ⟨Sb, hSb⟩ : ∃ Sb, upo Sa q5 (.lst Lb) = Sb := ⟨_, rfl⟩
  have eb : Sb q5 = some (.lst Lb) := by rw [← hSb]; exact upo_same
  rw [hSb] at kpb ⊢
  subst hR
  refine dSeq_gen fun R hR => ?_
  simp only [dSeq, dDrop]
  simp [catD, eb, mLst]
  refine ⟨by omega, by rw [one]; omega, by omega, by rw [len, one]; omega, by omega, by omega, by omega, ?_⟩
  obtain ⟨L6, eL6, lL6, gL6⟩ : ∃ L', Lb ++ [D.rol (strsD hd ++ D.str (cutS w none (some (a6 : Int)) ++ ⟨#[c]⟩ ++ cutS w (some ((a6 : Int) + 1)) none) :: strsD tl)] = L' ∧ L'.length = 12 ∧ ∀ d ∈ L', GoodD L B d := ⟨_, rfl, by simp [lLb], gy Lb _ ⟨by rw [len, len, one]; omega, app_okc (app_okc (ow _ _) oc) (ow _ _)⟩ gLb⟩
  rw [eL6]
  have kp6 : KpS S p o8 (upo Sb q5 (.lst L6)) := kpb.put f5
  obtain ⟨S6, hS6⟩ : ∃ S6, upo Sb q5 (.lst L6) = S6 := ⟨_, rfl⟩
  have e6 : S6 q5 = some (.lst L6) := by rw [← hS6]; exact upo_same
  rw [hS6] at kp6 ⊢
  subst hR
  refine dSeq_gen fun R hR => ?_
  simp only [dSeq, dDrop]
  simp [catD, e6, mLst]
  refine ⟨by omega, by omega, by omega, by omega, by omega, ?_⟩
  obtain ⟨L7, eL7, lL7, gL7⟩ : ∃ L', L6 ++ [D.rol (strsD hd ++ D.str (cutS w none (some (a6 : Int)) ++ cutS w (some ((a6 : Int) + 1)) none) :: strsD tl)] = L' ∧ L'.length = 13 ∧ ∀ d ∈ L', GoodD L B d := ⟨_, rfl, by simp [lL6], gy L6 _ ⟨by rw [len]; omega, app_okc (ow _ _) (ow _ _)⟩ gL6⟩
  rw [eL7]
  have kp7 : KpS S p o8 (upo S6 q5 (.lst L7)) := kp6.put f5
  obtain ⟨S7, hS7⟩ : ∃ S7, upo S6 q5 (.lst L7) = S7 := ⟨_, rfl⟩
  have e7 : S7 q5 = some (.lst L7) := by rw [← hS7]; exact upo_same
  rw [hS7] at kp7 ⊢
  subst hR
  simp
  refine ⟨p, 13, n + 4, o8, rfl, by decide, by decide, kp7.1, fo8, by omega, fun v9 o9 v90 v91 fo9 => ?_⟩
  simp [upo_ne f5.2, e7]
  refine opt_at v90 (by omega) fun d hd' => ?_
  obtain ⟨vs, rfl, lv, cv⟩ := gL7 d hd'
  exact .keep kp7.sub (h vs o9 lv cv (fo9.more (by omega)))
end Sh
set_option maxRecDepth 100000
set_option maxHeartbeats 4000000
namespace Sh
open PySem PySem.Spec L2 Dt Sh
def sp_law : DSp := fun ds S Q _ => ∃ ns : List Int, ds = [.rol (ns.map D.int)] ∧ ns.length ≤ 63 ∧ ∀ S', Q (.bl true) S'
theorem sp_law_mono : SpMono sp_law := fun ds S Q Q' E E' k _ ⟨ns, h1, h2, h⟩ => ⟨ns, h1, h2, fun S' => k _ _ (h S')⟩
theorem join_sz (vs : List Str) (h : ∀ v ∈ vs, v.length ≤ 100) (l : vs.length ≤ 500) : (Txt.join (Str.ofString " ") vs).length ≤ 100000 := by
  have e : (Txt.join (Str.ofString " ") vs).length = (vs.map (·.length)).sum + (vs.length - 1) * (Str.ofString " ").length := PySem.size_glued _ _
  rw [show (Str.ofString " ").length = 1 from rfl] at e
  have := sum_short vs h
  omega
def t_law (C_NoText : Addr) (C_Reader : Addr) : DTS := (dSeq (dAsg (dCall sp_l_feed (dCons (dCall sp_l_cell_at (dCons (dVar 0) (dCons (dC (.int 0)) dNil))) dNil)) (dGN 1))
    (dSeq (dAsg (dLstF (dCons (dLstF dNil) (dCons (dCall sp_l_names (dCons (dVar 1) (dCons (dC (.int 3)) dNil))) (dCons (dCall sp_l_names (dCons (dVar 1) (dCons (dC (.int 3)) dNil))) dNil)))) (dGN 2))
    (dSeq (dFor (dRng1 (dCons (dOp dAddF (dC (.int 1)) (dCB cMin2 (dCons (dC (.int 12)) (dCons (dCB cLen (dCons (dVar 0) dNil)) dNil)))) dNil)) (dGN 3)
      (dSeq (dAsg (dCall sp_l_feed (dCons (dCall sp_l_cell_at (dCons (dVar 0) (dCons (dOp dAddF (dC (.int 1)) (dVar 3)) dNil))) dNil)) (dGN 1))
    (dSeq (dAsg (dCall sp_l_words (dCons (dCall (sp_l_pattern 3) (dCons (dVar 1) (dCons (dVar 2) (dCons (dC (.int 3)) dNil)))) dNil)) (dGN 4))
    (dSeq (dIf (dTest (dOp (dEq false) (dCall sp_l_next (dCons (dVar 1) (dCons (dC (.int 6)) dNil))) (dC (.int 0))))
      (dAsg (dCall sp_l_great (dCons (dVar 1) dNil)) (dGN 4))
      dNx)
    (dSeq (dIf (dNot (dTest (dCall (sp_l_right C_NoText C_Reader) (dCons (dBM "str" mJoin (dC (.str " ")) (dCons (dVar 4) dNil)) dNil))))
      (dRet (dC (.bl false)))
      dNx)
    (dFor (dRng1 (dCons (dC (.int 6)) dNil)) (dGN 5)
      (dSeq (dAsg (dCall sp_l_spoilt (dCons (dVar 1) (dCons (dVar 4) (dCons (dVar 2) dNil)))) (dGN 6))
    (dSeq (dIf (dAnd (dTest (dOp (dEq true) (dVar 6) (dLstF dNil))) (dTest (dOp (dEq false) (dCall sp_l_next (dCons (dVar 1) (dCons (dC (.int 3)) dNil))) (dC (.int 0)))))
      (dAsg (dCall sp_l_spoilt (dCons (dVar 1) (dCons (dVar 6) (dCons (dVar 2) dNil)))) (dGN 6))
      dNx)
    (dIf (dNot (dTest (dCall (sp_l_right C_NoText C_Reader) (dCons (dBM "str" mJoin (dC (.str " ")) (dCons (dVar 6) dNil)) dNil))))
      (dRet (dC (.bl false)))
      dNx)))))))))
    (dRet (dCall (sp_l_right C_NoText C_Reader) (dCons (dC (.str "")) dNil))))))
abbrev N_law : List Str := ["_law_script", "_law_feed_here", "_law_names_here", "_law_k", "_law_words_here", "_law_j", "_law_bent"]
theorem r_law {N C : Addr} (ds S Q E) (h : sp_law ds S Q E) : t_law N C (dEnd Q E) (dstart N_law ds) S := by
  obtain ⟨ns, rfl, hn, h⟩ := h
  have okz : ∀ vs : List Str, vs.length ≤ 500 → (∀ v ∈ vs, v.length ≤ 100) → (vs.map (·.length)).sum + vs.length * (Str.ofString " ").length ≤ 16777216 := fun vs l c => by
    rw [show (Str.ofString " ").length = 1 from rfl]
    have := sum_short vs c
    omega
  unfold t_law
  refine dSeq_gen fun R hR => ?_
  simp [dstart]
  refine ⟨ns, 0, rfl, by decide, _, rfl, fun p o hp fo => ?_⟩
  subst hR
  refine dSeq_gen fun R hR => ?_
  simp
  refine ⟨p, 3, 0, o, rfl, by decide, upo_same, fo, by decide, fun ws o1 l1 n1 d1 fo1 => ?_⟩
  refine ⟨p, 3, _, o1, rfl, by decide, upo_same, fo1, by decide, fun ms o2 l2 n2 d2 fo2 => ?_⟩
  subst hR
  have nm : Nms ws ms := ⟨by omega, by omega, by omega, by omega, n1, n2⟩
  refine dSeqFor_gen fun B R hB hR => ?_
  simp
  refine ⟨by constructor <;> split <;> omega, ?_⟩
  refine loop_inv (fun i τ S' => ∃ x1 x3 x4 x5 x6, τ = [some (.rol (ns.map D.int)), x1, some (nmsD (.rol []) ws ms), x3, x4, x5, x6]) ⟨_, _, _, _, _, rfl⟩ (fun _ _ _ _ _ => trivial) ?_ ?_
  · rintro k d τ S1 M hd ⟨x1, x3, x4, x5, x6, rfl⟩ hM
    obtain ⟨hk, rfl⟩ := rgN_get hd
    clear hd
    have hk : k < 64 := by revert hk; split <;> omega
    have fin : ∀ x1 x3 x4 x5 x6 S', M [some (.rol (ns.map D.int)), x1, some (nmsD (.rol []) ws ms), x3, x4, x5, x6] S' := fun x1 x3 x4 x5 x6 S' => hM _ _ ⟨x1, x3, x4, x5, x6, rfl⟩
    clear hM
    simp only [dGN, List.set]
    subst hB
    refine dSeq_gen fun R2 hR2 => ?_
    simp
    refine ⟨ns, 1 + k, by simp, by omega, _, rfl, fun f o3 hf fo3 => ?_⟩
    subst hR2
    refine dSeq_gen fun R2 hR2 => ?_
    simp
    refine ⟨f, .rol [], 3, ws, ms, 0, o3, rfl, nm, by decide, upo_same, fo3, by decide, fun d o4 pt4 fo4 => ?_⟩
    obtain ⟨q4, rfl, ok4, dp4, al4⟩ := pat_pt nm 3 pt4
    have al4' : q4.all.length ≤ 40 := al4
    refine ⟨q4, rfl, ok4, by omega, al4', ?_⟩
    have ob4 := wds_okb q4 ok4 al4'
    have ln4 := q4.wds_len
    simp only [upo_upo]
    obtain ⟨K, hK, hKb⟩ : ∃ K, 0 + costP 3 = K ∧ K < 2 ^ 60 := ⟨_, rfl, by decide⟩
    rw [hK] at fo4
    subst hR2
    refine dSeqIf_gen fun R3 R4 R5 e3 e4 e5 => ?_
    have J : ∀ (us : List Str) (o' : Ob) (S2 : DH), 1 ≤ us.length → us.length ≤ 90 → (∀ v ∈ us, OkB 9 v) → S2 f = some o' → FeedOb (K + 30) o' → R5 { nx := M, rt := Rt Q, bk := R (dEnd Q E), ct := M, xe := fun C fs x S' => ∃ S'', Dt.Sub S'' S' ∧ E C fs S'' } [some (D.rol (List.map D.int ns)), some (.ref f), some (nmsD (D.rol []) ws ms), some (D.int ↑k), some (.rol (strsD us)), x5, x6] S2 := by
      intro us o' S2 u1 u2 uc hf2 fo'
      subst e5
      refine dSeqIf_gen fun R6 R7 R8 e6 e7 e8 => ?_
      simp
      refine ⟨" ", _, us, rfl, rfl, .inl rfl, okz us (by omega) (fun v hv => Nat.le_trans (uc v hv).1 (by decide)), ?_⟩
      refine ⟨_, rfl, join_sz us (fun v hv => Nat.le_trans (uc v hv).1 (by decide)) (by omega), ?_⟩
      simp
      subst e7 e8
      simp only [dNx]
      refine dFor_gen fun B3 hB3 => ?_
      simp
      refine loop_inv (fun i2 τ S' => ∃ (x5 x6 : Option D) (o' : Ob), τ = [some (.rol (ns.map D.int)), some (.ref f), some (nmsD (.rol []) ws ms), some (.int k), some (.rol (strsD us)), x5, x6] ∧ S' f = some o' ∧ FeedOb (K + 30 + 21 * i2) o') ⟨x5, x6, o', rfl, hf2, fo'⟩ (fun _ _ _ _ _ => trivial) ?_ ?_
      · rintro i2 d τ S3 M2 hd ⟨x5, x6, o', rfl, hp3, fo3⟩ hM2
        obtain ⟨hi2, rfl⟩ := rgN_get hd
        have hi3 : i2 < 6 := hi2
        simp
        subst hB3
        refine dSeq_gen fun R7 hR7 => ?_
        simp
        refine ⟨f, us, ws, ms, _, 90, 9, o', rfl, u1, u2, by decide, uc, by decide, by decide, l1, l2, n1, n2, hp3, fo3, by omega, fun vs o7 lv cv fo7 => ?_⟩
        have cv : ∀ v ∈ vs, OkB 19 v := cv
        subst hR7
        refine dSeqIf_gen fun R8 R9 R10 e8 e9 e10 => ?_
        have J2 : ∀ (vs : List Str) (o' : Ob) (S4 : DH), vs.length ≤ 100 → (∀ v ∈ vs, OkB 39 v) → S4 f = some o' → FeedOb (K + 30 + 21 * (i2 + 1)) o' → R10 { nx := M2, rt := Rt Q, bk := M, ct := M2, xe := fun C fs x S' => ∃ S'', Dt.Sub S'' S' ∧ E C fs S'' } [some (D.rol (List.map D.int ns)), some (.ref f), some (nmsD (D.rol []) ws ms), some (D.int ↑k), some (.rol (strsD us)), some (.int i2), some (.rol (strsD vs))] S4 := by
          intro vs o' S4 lv cv hf4 fo4
          subst e10
          refine dIf_gen fun R11 R12 e11 e12 => ?_
          simp
          refine ⟨" ", _, vs, rfl, rfl, .inl rfl, okz vs (by omega) (fun v hv => Nat.le_trans (cv v hv).1 (by decide)), ?_⟩
          refine ⟨_, rfl, join_sz vs (fun v hv => Nat.le_trans (cv v hv).1 (by decide)) (by omega), ?_⟩
          simp
          subst e12
          exact hM2 _ _ ⟨_, _, o', rfl, hf4, fo4⟩
        simp
        refine dEq_seq (xs := strsD vs) (ys := []) rfl rfl (fun x hx => ?_) (fun x hx => by cases hx) ?_
        · obtain ⟨v, hv, rfl⟩ := List.mem_map.mp hx
          rw [Sm_str]; exact (cv v hv).ok
        match vs, lv, cv with
        | [], lv, cv =>
          simp
          subst e9
          simp
          exact J2 [] o7 _ (by simp) (by simp) upo_same (fo7.more (by omega))
        | v0 :: vs, lv, cv =>
          simp
          refine ⟨f, 3, _, o7, rfl, by decide, by decide, upo_same, fo7, by omega, fun y o8 y0 y1 fo8 => ?_⟩
          simp
          split
          · subst e8
            simp
            refine ⟨f, v0 :: vs, ws, ms, _, 91, 19, o8, rfl, by simp, lv, by decide, cv, by decide, by decide, l1, l2, n1, n2, upo_same, fo8, by omega, fun vs2 o9 lv2 cv2 fo9 => ?_⟩
            exact J2 vs2 o9 _ (by omega) cv2 upo_same (fo9.more (by omega))
          · subst e9
            simp
            exact J2 (v0 :: vs) o8 _ (by omega) (fun v hv => (cv v hv).mono (by decide)) upo_same (fo8.more (by omega))
      · rintro τ S3 ⟨x5, x6, o', rfl, hp3, fo3⟩
        exact fin _ _ _ _ _ _
    simp
    refine ⟨f, 6, K, o4, rfl, by decide, by decide, upo_same, fo4, by omega, fun i o5 h1 h2 fo5 => ?_⟩
    simp
    split
    · subst e3
      simp
      refine ⟨f, K + 1, o5, rfl, upo_same, fo5, by omega, fun vs o6 v1 v2 vc fo6 => ?_⟩
      exact J vs o6 _ v1 v2 vc upo_same (fo6.more (by omega))
    · subst e4
      simp
      exact J q4.wds o5 _ (by omega) (by omega) (fun v hv => (ob4 v hv).mono (by decide)) upo_same (fo5.more (by omega))
  · rintro τ S1 ⟨x1, x3, x4, x5, x6, rfl⟩
    subst hR
    simp
    refine ⟨_, rfl, by decide +kernel, ?_⟩
    exact .same (h _)
end Sh
set_option maxRecDepth 100000
set_option maxHeartbeats 4000000
namespace L11
open PySem PySem.Spec L2
open Sh
open Dt hiding delo_upo nkeys
def t_parts_of : DTS := (dSeq (dIf (dTest (dOp (dEq false) (dOp dIxS (dVar 0) (dC (.int 0))) (dC (.str "many"))))
      (dRet (dLstF (dCons (dOp dIxS (dVar 0) (dC (.int 1))) dNil)))
      dNx)
    (dSeq (dIf (dTest (dOp (dIn false) (dOp dIxS (dVar 0) (dC (.int 0))) (dTup (dCons (dC (.str "then")) (dCons (dC (.str "either")) dNil)))))
      (dRet (dCB cListAF (dCons (dOp dIxS (dVar 0) (dC (.int 1))) dNil)))
      dNx)
    (dRet (dLstF dNil))))
abbrev N_parts_of : List Str := ["pattern"]
theorem r_parts_of (ds S Q E) (h : sp_parts_of ds S Q E) : t_parts_of (dEnd Q E) (dstart N_parts_of ds) S := by
  obtain ⟨p, rfl, h⟩ := h
  cases p with
  | stay => simp [t_parts_of, dstart, ptD, inF]; exact .same h
  | step b w => simp [t_parts_of, dstart, ptD, inF]; exact .same h
  | mark b m => cases b <;> simp [t_parts_of, dstart, ptD, inF] <;> exact .same h
  | many q => simp [t_parts_of, dstart, ptD, inF]; exact .same h
  | seq b ps => cases b <;> simp [t_parts_of, dstart, ptD, inF] <;> exact .same h
end L11
set_option maxRecDepth 100000
set_option maxHeartbeats 4000000
namespace K11X
open PySem PySem.Spec L2
open L11
open Sh hiding N_parts_of r_parts_of t_parts_of
open Dt hiding delo_upo nkeys
/-! the text by places -/
def topS (i : Nat) : Stmt := PySem.Challenge.pw_pathask_k11_texts_that_write_no_pattern.main.body.getD i (.Pass ⟨0, 0, 0, 0⟩)
abbrev s_NoText_init : Stmt := inClass (topS 9) 0
theorem sc_NoText_init : FnScope ["self", "at"] ["self", "at"] (defScope s_NoText_init) := ⟨rfl, rfl, rfl, by decide +kernel, rfl, by decide +kernel, by decide +kernel⟩
abbrev s_is_name : Stmt := topS 19
theorem sc_is_name : FnScope ["thing", "sign"] ["thing"] (defScope s_is_name) := ⟨rfl, rfl, rfl, by decide +kernel, rfl, by decide +kernel, by decide +kernel⟩
abbrev s_parts_of : Stmt := topS 27
theorem sc_parts_of : FnScope ["pattern"] ["pattern"] (defScope s_parts_of) := ⟨rfl, rfl, rfl, by decide +kernel, rfl, by decide +kernel, by decide +kernel⟩
abbrev s_number_of : Stmt := topS 32
theorem sc_number_of : FnScope ["word", "sign"] ["word"] (defScope s_number_of) := ⟨rfl, rfl, rfl, by decide +kernel, rfl, by decide +kernel, by decide +kernel⟩
abbrev s_Reader_init : Stmt := inClass (topS 35) 0
theorem sc_Reader_init : FnScope ["self", "words", "at"] ["self", "words", "at"] (defScope s_Reader_init) := ⟨rfl, rfl, rfl, by decide +kernel, rfl, by decide +kernel, by decide +kernel⟩
abbrev s_l_cell_at : Stmt := topS 38
theorem sc_l_cell_at : FnScope ["_law_script", "_law_k", "_law_seed"] ["_law_script", "_law_k"] (defScope s_l_cell_at) := ⟨rfl, rfl, rfl, by decide +kernel, rfl, by decide +kernel, by decide +kernel⟩
abbrev s_l_feed : Stmt := topS 39
theorem sc_l_feed : FnScope ["_law_cell"] ["_law_cell"] (defScope s_l_feed) := ⟨rfl, rfl, rfl, by decide +kernel, rfl, by decide +kernel, by decide +kernel⟩
abbrev s_l_next : Stmt := topS 40
theorem sc_l_next : FnScope ["_law_feed_here", "_law_many", "_law_found", "_law_one", "_law_two"] ["_law_feed_here", "_law_many"] (defScope s_l_next) := ⟨rfl, rfl, rfl, by decide +kernel, rfl, by decide +kernel, by decide +kernel⟩
abbrev s_l_own : Stmt := topS 42
theorem sc_l_own : FnScope ["_law_e", "_law_some", "_law_words_here"] ["_law_e"] (defScope s_l_own) := ⟨rfl, rfl, rfl, by decide +kernel, rfl, by decide +kernel, by decide +kernel⟩
abbrev s_l_words : Stmt := topS 45
theorem sc_l_words : FnScope ["_law_pattern_here", "_law_words_here", "_law_left", "_law_part"] ["_law_pattern_here"] (defScope s_l_words) := ⟨rfl, rfl, rfl, by decide +kernel, rfl, by decide +kernel, by decide +kernel⟩
abbrev s_l_is_name : Stmt := topS 46
theorem sc_l_is_name : FnScope ["_law_word", "_law_sign"] ["_law_word"] (defScope s_l_is_name) := ⟨rfl, rfl, rfl, by decide +kernel, rfl, by decide +kernel, by decide +kernel⟩
abbrev s_l_number : Stmt := topS 47
theorem sc_l_number : FnScope ["_law_word", "_law_some", "_law_number_here"] ["_law_word"] (defScope s_l_number) := ⟨rfl, rfl, rfl, by decide +kernel, rfl, by decide +kernel, by decide +kernel⟩
abbrev s_l_wanted : Stmt := topS 49
theorem sc_l_wanted : FnScope ["_law_word", "_law_deep"] ["_law_word", "_law_deep"] (defScope s_l_wanted) := ⟨rfl, rfl, rfl, by decide +kernel, rfl, by decide +kernel, by decide +kernel⟩
abbrev s_is_word : Stmt := topS 26
theorem sc_is_word : FnScope ["thing"] ["thing"] (defScope s_is_word) := ⟨rfl, rfl, rfl, by decide +kernel, rfl, by decide +kernel, by decide +kernel⟩
abbrev s_l_names : Stmt := topS 41
theorem sc_l_names : FnScope ["_law_feed_here", "_law_many", "_law_letters", "_law_word", "_law_way", "_law_turn", "_law_names_here", "_law_place", "_law_start", "_law_k", "_law_sign"] ["_law_feed_here", "_law_many"] (defScope s_l_names) := ⟨rfl, rfl, rfl, by decide +kernel, rfl, by decide +kernel, by decide +kernel⟩
abbrev s_l_leaf : Stmt := topS 43
theorem sc_l_leaf : FnScope ["_law_feed_here", "_law_names_here", "_law_way", "_law_word"] ["_law_feed_here", "_law_names_here"] (defScope s_l_leaf) := ⟨rfl, rfl, rfl, by decide +kernel, rfl, by decide +kernel, by decide +kernel⟩
abbrev s_l_fit : Stmt := topS 48
theorem sc_l_fit : FnScope ["_law_sort", "_law_word"] ["_law_sort", "_law_word"] (defScope s_l_fit) := ⟨rfl, rfl, rfl, by decide +kernel, rfl, by decide +kernel, by decide +kernel⟩
abbrev s_l_spoilt : Stmt := topS 51
theorem sc_l_spoilt : FnScope ["_law_feed_here", "_law_words_here", "_law_names_here", "_law_some", "_law_at", "_law_word", "_law_spot", "_law_sign", "_law_other", "_law_head", "_law_tail", "_law_bent"] ["_law_feed_here", "_law_words_here", "_law_names_here"] (defScope s_l_spoilt) := ⟨rfl, rfl, rfl, by decide +kernel, rfl, by decide +kernel, by decide +kernel⟩
abbrev s_l_great : Stmt := topS 52
theorem sc_l_great : FnScope ["_law_feed_here", "_law_many", "_law_words_here", "_law_k"] ["_law_feed_here"] (defScope s_l_great) := ⟨rfl, rfl, rfl, by decide +kernel, rfl, by decide +kernel, by decide +kernel⟩
abbrev s_Reader_next_word : Stmt := inClass (topS 35) 1
theorem sc_Reader_next_word : FnScope ["self"] ["self"] (defScope s_Reader_next_word) := ⟨rfl, rfl, rfl, by decide +kernel, rfl, by decide +kernel, by decide +kernel⟩
abbrev s_Reader_ask_last : Stmt := inClass (topS 35) 2
theorem sc_Reader_ask_last : FnScope ["self", "good"] ["self", "good"] (defScope s_Reader_ask_last) := ⟨rfl, rfl, rfl, by decide +kernel, rfl, by decide +kernel, by decide +kernel⟩
abbrev s_Reader_ask_end : Stmt := inClass (topS 35) 6
theorem sc_Reader_ask_end : FnScope ["self"] ["self"] (defScope s_Reader_ask_end) := ⟨rfl, rfl, rfl, by decide +kernel, rfl, by decide +kernel, by decide +kernel⟩
abbrev s_l_wrong : Stmt := topS 50
theorem sc_l_wrong : FnScope ["_law_words_here", "_law_wanted_here", "_law_parts", "_law_at", "_law_sort", "_law_deep"] ["_law_words_here"] (defScope s_l_wrong) := ⟨rfl, rfl, rfl, by decide +kernel, rfl, by decide +kernel, by decide +kernel⟩
abbrev s_Reader_name_next : Stmt := inClass (topS 35) 3
theorem sc_Reader_name_next : FnScope ["self", "word"] ["self"] (defScope s_Reader_name_next) := ⟨rfl, rfl, rfl, by decide +kernel, rfl, by decide +kernel, by decide +kernel⟩
abbrev s_l_pattern : Stmt := topS 44
theorem sc_l_pattern : FnScope ["_law_feed_here", "_law_names_here", "_law_deep", "_law_way", "_law_many", "_law_parts", "_law_k"] ["_law_feed_here", "_law_names_here", "_law_deep"] (defScope s_l_pattern) := ⟨rfl, rfl, rfl, by decide +kernel, rfl, by decide +kernel, by decide +kernel⟩
abbrev s_words_of : Stmt := topS 33
theorem sc_words_of : FnScope ["pattern", "words", "part"] ["pattern"] (defScope s_words_of) := ⟨rfl, rfl, rfl, by decide +kernel, rfl, by decide +kernel, by decide +kernel⟩
abbrev s_shown : Stmt := topS 34
theorem sc_shown : FnScope ["pattern"] ["pattern"] (defScope s_shown) := ⟨rfl, rfl, rfl, by decide +kernel, rfl, by decide +kernel, by decide +kernel⟩
abbrev s_Reader_pattern : Stmt := inClass (topS 35) 4
theorem sc_Reader_pattern : FnScope ["self", "deep", "head", "word", "many", "k"] ["self", "deep"] (defScope s_Reader_pattern) := ⟨rfl, rfl, rfl, by decide +kernel, rfl, by decide +kernel, by decide +kernel⟩
abbrev s_read_pattern : Stmt := topS 36
theorem sc_read_pattern : FnScope ["text", "reader", "pattern"] ["text"] (defScope s_read_pattern) := ⟨rfl, rfl, rfl, by decide +kernel, rfl, by decide +kernel, by decide +kernel⟩
abbrev s_l_right : Stmt := topS 53
theorem sc_l_right : FnScope ["_law_text", "_law_found", "_law_caught", "_law_e", "_law_due"] ["_law_text"] (defScope s_l_right) := ⟨rfl, rfl, rfl, by decide +kernel, rfl, by decide +kernel, by decide +kernel⟩
abbrev s_law : Stmt := topS 54
theorem sc_law : FnScope ["_law_script", "_law_feed_here", "_law_names_here", "_law_k", "_law_words_here", "_law_j", "_law_bent"] ["_law_script"] (defScope s_law) := ⟨rfl, rfl, rfl, by decide +kernel, rfl, by decide +kernel, by decide +kernel⟩
set_option genInjectivity false in
set_option genSizeOf false in
structure Txt0 (w : World) (K : PySem.W.Frag) (mg : Str → Option Value) where
  C_GoesRound : Addr
  g_GoesRound : mg "GoesRound" = some (.ref C_GoesRound)
  C_NoKnot : Addr
  g_NoKnot : mg "NoKnot" = some (.ref C_NoKnot)
  C_NoLine : Addr
  g_NoLine : mg "NoLine" = some (.ref C_NoLine)
  C_NoMark : Addr
  g_NoMark : mg "NoMark" = some (.ref C_NoMark)
  C_NoMeet : Addr
  g_NoMeet : mg "NoMeet" = some (.ref C_NoMeet)
  C_NoName : Addr
  g_NoName : mg "NoName" = some (.ref C_NoName)
  C_NoPair : Addr
  g_NoPair : mg "NoPair" = some (.ref C_NoPair)
  C_NoSuch : Addr
  g_NoSuch : mg "NoSuch" = some (.ref C_NoSuch)
  C_NoText : Addr
  g_NoText : mg "NoText" = some (.ref C_NoText)
  C_NoTie : Addr
  g_NoTie : mg "NoTie" = some (.ref C_NoTie)
  C_NoWay : Addr
  g_NoWay : mg "NoWay" = some (.ref C_NoWay)
  C_PathError : Addr
  g_PathError : mg "PathError" = some (.ref C_PathError)
  C_Reader : Addr
structure Txt1 (w : World) (K : PySem.W.Frag) (mg : Str → Option Value) extends Txt0 w K mg where
  c_Reader : Cls K C_Reader
  g_Reader : mg "Reader" = some (.ref C_Reader)
  C_TooLong : Addr
  g_TooLong : mg "TooLong" = some (.ref C_TooLong)
  C_TooMany : Addr
  g_TooMany : mg "TooMany" = some (.ref C_TooMany)
  C_Twice : Addr
  g_Twice : mg "Twice" = some (.ref C_Twice)
  n_Reader_at_word : NoAttr K C_Reader "at_word"
  n_Reader_parts_read : NoAttr K C_Reader "parts_read"
  n_Reader_words_read : NoAttr K C_Reader "words_read"
  a_NoText_init : Addr
  f_NoText_init : FuncData
  F_NoText_init : Fun K "__init__" "NoText.__init__" s_NoText_init a_NoText_init f_NoText_init
  x_NoText : ExT K C_NoText a_NoText_init ["at"]
  d_NoText_init : Binds K f_NoText_init ["self", "at"] []
  a_is_name : Addr
  f_is_name : FuncData
  F_is_name : Fun K "is_name" "is_name" s_is_name a_is_name f_is_name
  m_is_name : mg "is_name" = some (.ref a_is_name)
  d_is_name : Binds K f_is_name ["thing"] []
  a_parts_of : Addr
  f_parts_of : FuncData
  F_parts_of : Fun K "parts_of" "parts_of" s_parts_of a_parts_of f_parts_of
  m_parts_of : mg "parts_of" = some (.ref a_parts_of)
structure Txt2 (w : World) (K : PySem.W.Frag) (mg : Str → Option Value) extends Txt1 w K mg where
  d_parts_of : Binds K f_parts_of ["pattern"] []
  a_number_of : Addr
  f_number_of : FuncData
  F_number_of : Fun K "number_of" "number_of" s_number_of a_number_of f_number_of
  m_number_of : mg "number_of" = some (.ref a_number_of)
  d_number_of : Binds K f_number_of ["word"] []
  a_Reader_init : Addr
  f_Reader_init : FuncData
  F_Reader_init : Fun K "__init__" "Reader.__init__" s_Reader_init a_Reader_init f_Reader_init
  k_Reader : Mk K C_Reader a_Reader_init
  d_Reader_init : Binds K f_Reader_init ["self", "words", "at"] []
  a_l_cell_at : Addr
  f_l_cell_at : FuncData
  F_l_cell_at : Fun K "_law_cell_at" "_law_cell_at" s_l_cell_at a_l_cell_at f_l_cell_at
  m_l_cell_at : mg "_law_cell_at" = some (.ref a_l_cell_at)
  d_l_cell_at : Binds K f_l_cell_at ["_law_script", "_law_k"] []
  a_l_feed : Addr
  f_l_feed : FuncData
  F_l_feed : Fun K "_law_feed" "_law_feed" s_l_feed a_l_feed f_l_feed
  m_l_feed : mg "_law_feed" = some (.ref a_l_feed)
  d_l_feed : Binds K f_l_feed ["_law_cell"] []
  a_l_next : Addr
  f_l_next : FuncData
  F_l_next : Fun K "_law_next" "_law_next" s_l_next a_l_next f_l_next
  m_l_next : mg "_law_next" = some (.ref a_l_next)
structure Txt3 (w : World) (K : PySem.W.Frag) (mg : Str → Option Value) extends Txt2 w K mg where
  d_l_next : Binds K f_l_next ["_law_feed_here", "_law_many"] []
  a_l_own : Addr
  f_l_own : FuncData
  F_l_own : Fun K "_law_own" "_law_own" s_l_own a_l_own f_l_own
  m_l_own : mg "_law_own" = some (.ref a_l_own)
  d_l_own : Binds K f_l_own ["_law_e"] []
  a_l_words : Addr
  f_l_words : FuncData
  F_l_words : Fun K "_law_words" "_law_words" s_l_words a_l_words f_l_words
  m_l_words : mg "_law_words" = some (.ref a_l_words)
  d_l_words : Binds K f_l_words ["_law_pattern_here"] []
  a_l_is_name : Addr
  f_l_is_name : FuncData
  F_l_is_name : Fun K "_law_is_name" "_law_is_name" s_l_is_name a_l_is_name f_l_is_name
  m_l_is_name : mg "_law_is_name" = some (.ref a_l_is_name)
  d_l_is_name : Binds K f_l_is_name ["_law_word"] []
  a_l_number : Addr
  f_l_number : FuncData
  F_l_number : Fun K "_law_number" "_law_number" s_l_number a_l_number f_l_number
  m_l_number : mg "_law_number" = some (.ref a_l_number)
  d_l_number : Binds K f_l_number ["_law_word"] []
  a_l_wanted : Addr
  f_l_wanted : FuncData
  F_l_wanted : Fun K "_law_wanted" "_law_wanted" s_l_wanted a_l_wanted f_l_wanted
  m_l_wanted : mg "_law_wanted" = some (.ref a_l_wanted)
structure Txt4 (w : World) (K : PySem.W.Frag) (mg : Str → Option Value) extends Txt3 w K mg where
  d_l_wanted : Binds K f_l_wanted ["_law_word", "_law_deep"] []
  a_is_word : Addr
  f_is_word : FuncData
  F_is_word : Fun K "is_word" "is_word" s_is_word a_is_word f_is_word
  m_is_word : mg "is_word" = some (.ref a_is_word)
  d_is_word : Binds K f_is_word ["thing"] []
  a_l_names : Addr
  f_l_names : FuncData
  F_l_names : Fun K "_law_names" "_law_names" s_l_names a_l_names f_l_names
  m_l_names : mg "_law_names" = some (.ref a_l_names)
  d_l_names : Binds K f_l_names ["_law_feed_here", "_law_many"] []
  a_l_leaf : Addr
  f_l_leaf : FuncData
  F_l_leaf : Fun K "_law_leaf" "_law_leaf" s_l_leaf a_l_leaf f_l_leaf
  m_l_leaf : mg "_law_leaf" = some (.ref a_l_leaf)
  d_l_leaf : Binds K f_l_leaf ["_law_feed_here", "_law_names_here"] []
  a_l_fit : Addr
  f_l_fit : FuncData
  F_l_fit : Fun K "_law_fit" "_law_fit" s_l_fit a_l_fit f_l_fit
  m_l_fit : mg "_law_fit" = some (.ref a_l_fit)
  d_l_fit : Binds K f_l_fit ["_law_sort", "_law_word"] []
  a_l_spoilt : Addr
  f_l_spoilt : FuncData
  F_l_spoilt : Fun K "_law_spoilt" "_law_spoilt" s_l_spoilt a_l_spoilt f_l_spoilt
  m_l_spoilt : mg "_law_spoilt" = some (.ref a_l_spoilt)
structure Txt5 (w : World) (K : PySem.W.Frag) (mg : Str → Option Value) extends Txt4 w K mg where
  d_l_spoilt : Binds K f_l_spoilt ["_law_feed_here", "_law_words_here", "_law_names_here"] []
  a_l_great : Addr
  f_l_great : FuncData
  F_l_great : Fun K "_law_great" "_law_great" s_l_great a_l_great f_l_great
  m_l_great : mg "_law_great" = some (.ref a_l_great)
  d_l_great : Binds K f_l_great ["_law_feed_here"] []
  a_Reader_next_word : Addr
  f_Reader_next_word : FuncData
  F_Reader_next_word : Fun K "next_word" "Reader.next_word" s_Reader_next_word a_Reader_next_word f_Reader_next_word
  M_Reader_next_word : Meth K C_Reader "next_word" a_Reader_next_word
  d_Reader_next_word : Binds K f_Reader_next_word ["self"] []
  a_Reader_ask_last : Addr
  f_Reader_ask_last : FuncData
  F_Reader_ask_last : Fun K "ask_last" "Reader.ask_last" s_Reader_ask_last a_Reader_ask_last f_Reader_ask_last
  M_Reader_ask_last : Meth K C_Reader "ask_last" a_Reader_ask_last
  d_Reader_ask_last : Binds K f_Reader_ask_last ["self", "good"] []
  a_Reader_ask_end : Addr
  f_Reader_ask_end : FuncData
  F_Reader_ask_end : Fun K "ask_end" "Reader.ask_end" s_Reader_ask_end a_Reader_ask_end f_Reader_ask_end
  M_Reader_ask_end : Meth K C_Reader "ask_end" a_Reader_ask_end
  d_Reader_ask_end : Binds K f_Reader_ask_end ["self"] []
  a_l_wrong : Addr
  f_l_wrong : FuncData
  F_l_wrong : Fun K "_law_wrong" "_law_wrong" s_l_wrong a_l_wrong f_l_wrong
  m_l_wrong : mg "_law_wrong" = some (.ref a_l_wrong)
structure Txt6 (w : World) (K : PySem.W.Frag) (mg : Str → Option Value) extends Txt5 w K mg where
  d_l_wrong : Binds K f_l_wrong ["_law_words_here"] []
  a_Reader_name_next : Addr
  f_Reader_name_next : FuncData
  F_Reader_name_next : Fun K "name_next" "Reader.name_next" s_Reader_name_next a_Reader_name_next f_Reader_name_next
  M_Reader_name_next : Meth K C_Reader "name_next" a_Reader_name_next
  d_Reader_name_next : Binds K f_Reader_name_next ["self"] []
  a_l_pattern : Addr
  f_l_pattern : FuncData
  F_l_pattern : Fun K "_law_pattern" "_law_pattern" s_l_pattern a_l_pattern f_l_pattern
  m_l_pattern : mg "_law_pattern" = some (.ref a_l_pattern)
  d_l_pattern : Binds K f_l_pattern ["_law_feed_here", "_law_names_here", "_law_deep"] []
  a_words_of : Addr
  f_words_of : FuncData
  F_words_of : Fun K "words_of" "words_of" s_words_of a_words_of f_words_of
  m_words_of : mg "words_of" = some (.ref a_words_of)
  d_words_of : Binds K f_words_of ["pattern"] []
  a_shown : Addr
  f_shown : FuncData
  F_shown : Fun K "shown" "shown" s_shown a_shown f_shown
  m_shown : mg "shown" = some (.ref a_shown)
  d_shown : Binds K f_shown ["pattern"] []
  a_Reader_pattern : Addr
  f_Reader_pattern : FuncData
  F_Reader_pattern : Fun K "pattern" "Reader.pattern" s_Reader_pattern a_Reader_pattern f_Reader_pattern
  M_Reader_pattern : Meth K C_Reader "pattern" a_Reader_pattern
structure Txt7 (w : World) (K : PySem.W.Frag) (mg : Str → Option Value) extends Txt6 w K mg where
  d_Reader_pattern : Binds K f_Reader_pattern ["self", "deep"] []
  a_read_pattern : Addr
  f_read_pattern : FuncData
  F_read_pattern : Fun K "read_pattern" "read_pattern" s_read_pattern a_read_pattern f_read_pattern
  m_read_pattern : mg "read_pattern" = some (.ref a_read_pattern)
  d_read_pattern : Binds K f_read_pattern ["text"] []
  a_l_right : Addr
  f_l_right : FuncData
  F_l_right : Fun K "_law_right" "_law_right" s_l_right a_l_right f_l_right
  m_l_right : mg "_law_right" = some (.ref a_l_right)
  d_l_right : Binds K f_l_right ["_law_text"] []
  a_law : Addr
  f_law : FuncData
  F_law : Fun K "law" "law" s_law a_law f_law
  m_law : mg "law" = some (.ref a_law)
  d_law : Binds K f_law ["_law_script"] []
  t_ANY_WORD : Tok
  g_ANY_WORD : mg "ANY_WORD" = some (.str "*" t_ANY_WORD)
  t_FIGURES : Tok
  g_FIGURES : mg "FIGURES" = some (.str "0123456789" t_FIGURES)
  a_HEADS : Addr
  i_HEADS : Array Value
  n_HEADS : Nat
  g_HEADS : mg "HEADS" = some (.ref a_HEADS)
  l_HEADS : K.lookup a_HEADS = some ⟨.type "tuple", none, .seq i_HEADS n_HEADS, #[]⟩
structure Txt8 (w : World) (K : PySem.W.Frag) (mg : Str → Option Value) extends Txt7 w K mg where
  z_HEADS : i_HEADS.size ≤ sizeLine
  v_HEADS : ∃ vs : List V, Vals vs i_HEADS.toList ∧ ∀ H, RDs K H [.str "stay", .str "on", .str "back", .str "at", .str "off", .str "then", .str "either", .str "many"] vs
  t_LETTERS : Tok
  g_LETTERS : mg "LETTERS" = some (.str "abcdefghijklmnopqrstuvwxyz" t_LETTERS)
  t_MOST_DEEP : Tok
  g_MOST_DEEP : mg "MOST_DEEP" = some (.int 10 t_MOST_DEEP)
  t_MOST_PARTS : Tok
  g_MOST_PARTS : mg "MOST_PARTS" = some (.int 40 t_MOST_PARTS)
  t_MOST_SIGNS : Tok
  g_MOST_SIGNS : mg "MOST_SIGNS" = some (.int 8 t_MOST_SIGNS)
  t_MOST_WITHIN : Tok
  g_MOST_WITHIN : mg "MOST_WITHIN" = some (.int 39 t_MOST_WITHIN)
  a_SIDES : Addr
  i_SIDES : Array Value
  n_SIDES : Nat
  g_SIDES : mg "SIDES" = some (.ref a_SIDES)
  l_SIDES : K.lookup a_SIDES = some ⟨.type "tuple", none, .seq i_SIDES n_SIDES, #[]⟩
  z_SIDES : i_SIDES.size ≤ sizeLine
  v_SIDES : ∃ vs : List V, Vals vs i_SIDES.toList ∧ ∀ H, RDs K H [.str "on", .str "back"] vs
  i_PathError : BaseI K C_PathError
  ex_PathError : ∀ p ∈ [(C_NoText, true)], PySem.W.exmOne K (.ref p.1) (.ref C_PathError) = some p.2
  kt_GoesRound : ∀ p ∈ [(C_NoText, false)], PySem.W.kitOne K (.ref p.1) (.ref C_GoesRound) = some p.2
  kt_NoKnot : ∀ p ∈ [(C_NoText, false)], PySem.W.kitOne K (.ref p.1) (.ref C_NoKnot) = some p.2
  kt_NoLine : ∀ p ∈ [(C_NoText, false)], PySem.W.kitOne K (.ref p.1) (.ref C_NoLine) = some p.2
  kt_NoMark : ∀ p ∈ [(C_NoText, false)], PySem.W.kitOne K (.ref p.1) (.ref C_NoMark) = some p.2
structure Txt (w : World) (K : PySem.W.Frag) (mg : Str → Option Value) extends Txt8 w K mg where
  kt_NoMeet : ∀ p ∈ [(C_NoText, false)], PySem.W.kitOne K (.ref p.1) (.ref C_NoMeet) = some p.2
  kt_NoName : ∀ p ∈ [(C_NoText, false)], PySem.W.kitOne K (.ref p.1) (.ref C_NoName) = some p.2
  kt_NoPair : ∀ p ∈ [(C_NoText, false)], PySem.W.kitOne K (.ref p.1) (.ref C_NoPair) = some p.2
  kt_NoSuch : ∀ p ∈ [(C_NoText, false)], PySem.W.kitOne K (.ref p.1) (.ref C_NoSuch) = some p.2
  kt_NoText : ∀ p ∈ [(C_NoText, true)], PySem.W.kitOne K (.ref p.1) (.ref C_NoText) = some p.2
  kt_NoTie : ∀ p ∈ [(C_NoText, false)], PySem.W.kitOne K (.ref p.1) (.ref C_NoTie) = some p.2
  kt_NoWay : ∀ p ∈ [(C_NoText, false)], PySem.W.kitOne K (.ref p.1) (.ref C_NoWay) = some p.2
  kt_TooLong : ∀ p ∈ [(C_NoText, false)], PySem.W.kitOne K (.ref p.1) (.ref C_TooLong) = some p.2
  kt_TooMany : ∀ p ∈ [(C_NoText, false)], PySem.W.kitOne K (.ref p.1) (.ref C_TooMany) = some p.2
  kt_Twice : ∀ p ∈ [(C_NoText, false)], PySem.W.kitOne K (.ref p.1) (.ref C_Twice) = some p.2
  kt_ValueError : ∀ p ∈ [(C_NoText, true)], PySem.W.kitOne K (.ref p.1) (.type "ValueError") = some p.2
  b_ValueError : mg "ValueError" = none
  b_all : mg "all" = none
  b_bool : mg "bool" = none
  b_int : mg "int" = none
  b_isinstance : mg "isinstance" = none
  b_len : mg "len" = none
  b_list : mg "list" = none
  b_max : mg "max" = none
  b_min : mg "min" = none
  b_range : mg "range" = none
  b_reversed : mg "reversed" = none
  b_str : mg "str" = none
  b_tuple : mg "tuple" = none
end K11X
set_option maxRecDepth 100000
set_option maxHeartbeats 4000000
namespace K11X
open PySem PySem.Spec L2
open L11
open Sh hiding N_parts_of r_parts_of t_parts_of
open Dt hiding delo_upo nkeys

/-! NoText_init -/
def t_NoText_init (C_NoText : Addr) : DTS := (dSeq (dDrop (dVeI C_NoText (dCons (dVar 0) (dCons (dOp dAddF (dC (.str "wrong from word ")) (dCB cStrG (dCons (dVar 1) dNil))) dNil))))
    (dPutX C_NoText "at" (dVar 0) (dVar 1)))
abbrev N_NoText_init : List Str := ["self", "at"]
theorem ok_NoText_init {P : Program} {w : World} {K : PySem.W.Frag} {mg : Str → Option Value} {base : Heap} (T : Txt w K mg) {sp : DSp}
    (mono : SpMono sp) (len : ∀ ds S Q E, sp ds S Q E → ds.length = 2)
    (h : ∀ ds S Q E, sp ds S Q E → (t_NoText_init T.C_NoText) (dEnd Q E) (dstart ["self", "at"] ds) S) : DFn P w K mg base 1 T.a_NoText_init T.f_NoText_init ["self", "at"] sp := by
  refine dfn_of2 (t := (t_NoText_init T.C_NoText)) T.F_NoText_init sc_NoText_init mono len (fun cdv A outer s H E hr gu => ?_) h
  have hu1 := hu_of hr
  have hu2 := hu_big hr
  exact (dss_cons (ds_expr (de_veinit T.i_PathError T.x_NoText.oc (by rfl) T.g_PathError (da_cons (dv 0) (da_cons (de_op od_addF de_str (de_callTy (cd_strG hu2 gu) (by rfl) T.b_str (by decide +kernel) (da_cons (dv 1) da_nil))) da_nil))))
    (dss_one (ds_oput T.x_NoText.oc (T.x_NoText.no _ (by decide +kernel)) (dv 0) (dv 1))))

/-! is_name -/
def t_is_name : DTS := (dSeq (dIf (dOr (dNot (dTest (dIsi "str" (dVar 0)))) (dOr (dTest (dOp rLt (dCB cLen (dCons (dVar 0) dNil)) (dC (.int 1)))) (dTest (dOp rGt (dCB cLen (dCons (dVar 0) dNil)) (dC (.int 8))))))
      (dRet (dC (.bl false)))
      dNx)
    (dRet (dCB cAll (dCons (dFz (dLc (dSeqI (dVar 0)) (dGN 1) dYes (dOp (dInS false) (dVar 1) (dC (.str "abcdefghijklmnopqrstuvwxyz"))) [1])) dNil))))
abbrev N_is_name : List Str := ["thing", "sign"]
theorem ok_is_name {P : Program} {w : World} {K : PySem.W.Frag} {mg : Str → Option Value} {base : Heap} (T : Txt w K mg) {sp : DSp}
    (mono : SpMono sp) (len : ∀ ds S Q E, sp ds S Q E → ds.length = 1)
    (h : ∀ ds S Q E, sp ds S Q E → t_is_name (dEnd Q E) (dstart ["thing", "sign"] ds) S) : DFn P w K mg base 1 T.a_is_name T.f_is_name ["thing"] sp := by
  refine dfn_of2 (t := t_is_name) T.F_is_name sc_is_name mono len (fun cdv A outer s H E hr gu => ?_) h
  have hu1 := hu_of hr
  have hu2 := hu_big hr
  exact (dss_cons (ds_if (DWt.pt (dw_or (dt_not (dt_val (de_isi (T := "str") (by decide) (dv 0) (by rfl) T.b_isinstance (by rfl) T.b_str (by decide +kernel)))) (dw_or (dt_cmp od_lt (de_callB cd_len (by rfl) T.b_len (by decide +kernel) (da_cons (dv 0) da_nil)) de_int (nomark _)) (dw_or1 (dt_cmp od_gt (de_callB cd_len (by rfl) T.b_len (by decide +kernel) (da_cons (dv 0) da_nil)) (de_gint (by rfl) T.g_MOST_SIGNS) (nomark _))))))
      (dss_one (ds_ret de_bl))
      dss_nil)
    (dss_one (ds_ret (de_callB (cd_all rfl) (by rfl) T.b_all (by decide +kernel) (da_cons (de_fz (de_lc (own := [("sign", 1)]) rfl sc_is_name.nd (di_seq (dv 0)) (blkOk_by (own := [("sign", 1)]) (N := ["thing", "sign"]) (sc := defScope s_is_name) (by decide +kernel)) ⟨fun _ _ _ _ _ => (dw_name (i := 1) sc_is_name.nd rfl (by first | exact Or.inl rfl | exact Or.inr rfl) (by decide)), fun _ _ _ _ _ => dts_nil, fun _ _ _ _ _ => (de_cmp od_inS (dv 1) (de_gstr (by rfl) T.g_LETTERS) (by rfl))⟩)) da_nil)))))

/-! parts_of -/
def t_parts_of : DTS := (dSeq (dIf (dTest (dOp (dEq false) (dOp dIxS (dVar 0) (dC (.int 0))) (dC (.str "many"))))
      (dRet (dLstF (dCons (dOp dIxS (dVar 0) (dC (.int 1))) dNil)))
      dNx)
    (dSeq (dIf (dTest (dOp (dIn false) (dOp dIxS (dVar 0) (dC (.int 0))) (dTup (dCons (dC (.str "then")) (dCons (dC (.str "either")) dNil)))))
      (dRet (dCB cListAF (dCons (dOp dIxS (dVar 0) (dC (.int 1))) dNil)))
      dNx)
    (dRet (dLstF dNil))))
abbrev N_parts_of : List Str := ["pattern"]
theorem ok_parts_of {P : Program} {w : World} {K : PySem.W.Frag} {mg : Str → Option Value} {base : Heap} (T : Txt w K mg) {sp : DSp}
    (mono : SpMono sp) (len : ∀ ds S Q E, sp ds S Q E → ds.length = 1)
    (h : ∀ ds S Q E, sp ds S Q E → t_parts_of (dEnd Q E) (dstart ["pattern"] ds) S) : DFn P w K mg base 1 T.a_parts_of T.f_parts_of ["pattern"] sp := by
  refine dfn_of2 (t := t_parts_of) T.F_parts_of sc_parts_of mono len (fun cdv A outer s H E hr gu => ?_) h
  have hu1 := hu_of hr
  have hu2 := hu_big hr
  exact (dss_cons (ds_if (dt_cmp (od_eq hr.units) (de_ix (ixD_any hu2) (dv 0) de_int) de_str (nomark _))
      (dss_one (ds_ret (de_lstF (da_cons (de_ix (ixD_any hu2) (dv 0) de_int) da_nil))))
      dss_nil)
    (dss_cons (ds_if (dt_cmp (od_in hu2) (de_ix (ixD_any hu2) (dv 0) de_int) (de_tup (da_cons de_str (da_cons de_str da_nil))) (by rfl))
      (dss_one (ds_ret (de_callTy (cd_listAF rfl) (by rfl) T.b_list (by decide +kernel) (da_cons (de_ix (ixD_any hu2) (dv 0) de_int) da_nil))))
      dss_nil)
    (dss_one (ds_ret (de_lstF da_nil)))))

/-! number_of -/
def t_number_of : DTS := (dSeq (dIf (dOr (dTest (dOp rLt (dCB cLen (dCons (dVar 0) dNil)) (dC (.int 1)))) (dOr (dTest (dOp rGt (dCB cLen (dCons (dVar 0) dNil)) (dC (.int 2)))) (dNot (dTest (dCB cAll (dCons (dFz (dLc (dSeqI (dVar 0)) (dGN 1) dYes (dOp (dInS false) (dVar 1) (dC (.str "0123456789"))) [1])) dNil))))))
      (dRet (dC .non))
      dNx)
    (dSeq (dIf (dAnd (dTest (dOp (dEq false) (dOp dIxS (dVar 0) (dC (.int 0))) (dC (.str "0")))) (dTest (dOp (dEq true) (dVar 0) (dC (.str "0")))))
      (dRet (dC .non))
      dNx)
    (dRet (dCB cIntS (dCons (dVar 0) dNil)))))
abbrev N_number_of : List Str := ["word", "sign"]
theorem ok_number_of {P : Program} {w : World} {K : PySem.W.Frag} {mg : Str → Option Value} {base : Heap} (T : Txt w K mg) {sp : DSp}
    (mono : SpMono sp) (len : ∀ ds S Q E, sp ds S Q E → ds.length = 1)
    (h : ∀ ds S Q E, sp ds S Q E → t_number_of (dEnd Q E) (dstart ["word", "sign"] ds) S) : DFn P w K mg base 1 T.a_number_of T.f_number_of ["word"] sp := by
  refine dfn_of2 (t := t_number_of) T.F_number_of sc_number_of mono len (fun cdv A outer s H E hr gu => ?_) h
  have hu1 := hu_of hr
  have hu2 := hu_big hr
  exact (dss_cons (ds_if (DWt.pt (dw_or (dt_cmp od_lt (de_callB cd_len (by rfl) T.b_len (by decide +kernel) (da_cons (dv 0) da_nil)) de_int (nomark _)) (dw_or (dt_cmp od_gt (de_callB cd_len (by rfl) T.b_len (by decide +kernel) (da_cons (dv 0) da_nil)) de_int (nomark _)) (dw_or1 (dt_not (dt_val (de_callB (cd_all rfl) (by rfl) T.b_all (by decide +kernel) (da_cons (de_fz (de_lc (own := [("sign", 1)]) rfl sc_number_of.nd (di_seq (dv 0)) (blkOk_by (own := [("sign", 1)]) (N := ["word", "sign"]) (sc := defScope s_number_of) (by decide +kernel)) ⟨fun _ _ _ _ _ => (dw_name (i := 1) sc_number_of.nd rfl (by first | exact Or.inl rfl | exact Or.inr rfl) (by decide)), fun _ _ _ _ _ => dts_nil, fun _ _ _ _ _ => (de_cmp od_inS (dv 1) (de_gstr (by rfl) T.g_FIGURES) (by rfl))⟩)) da_nil))))))))
      (dss_one (ds_ret de_non))
      dss_nil)
    (dss_cons (ds_if (DWt.pt (dw_and (dt_cmp (od_eq hr.units) (de_ix (ixD_any hu2) (dv 0) de_int) de_str (nomark _)) (dw_and1 (dt_cmp (od_ne hr.units) (dv 0) de_str (nomark _)))))
      (dss_one (ds_ret de_non))
      dss_nil)
    (dss_one (ds_ret (de_callTy cd_intS (by rfl) T.b_int (by decide +kernel) (da_cons (dv 0) da_nil))))))

/-! Reader_init -/
def t_Reader_init (C_Reader : Addr) : DTS := (dSeq (dPutF C_Reader "words_read" (dVar 0) (dVar 1))
    (dSeq (dPutF C_Reader "at_word" (dVar 0) (dVar 2))
    (dPutF C_Reader "parts_read" (dVar 0) (dC (.int 0)))))
abbrev N_Reader_init : List Str := ["self", "words", "at"]
theorem ok_Reader_init {P : Program} {w : World} {K : PySem.W.Frag} {mg : Str → Option Value} {base : Heap} (T : Txt w K mg) {sp : DSp}
    (mono : SpMono sp) (len : ∀ ds S Q E, sp ds S Q E → ds.length = 3)
    (h : ∀ ds S Q E, sp ds S Q E → (t_Reader_init T.C_Reader) (dEnd Q E) (dstart ["self", "words", "at"] ds) S) : DFn P w K mg base 1 T.a_Reader_init T.f_Reader_init ["self", "words", "at"] sp := by
  refine dfn_of2 (t := (t_Reader_init T.C_Reader)) T.F_Reader_init sc_Reader_init mono len (fun cdv A outer s H E hr gu => ?_) h
  have hu1 := hu_of hr
  have hu2 := hu_big hr
  exact (dss_cons (ds_fput (dv 0) (dv 1) T.c_Reader T.n_Reader_words_read)
    (dss_cons (ds_fput (dv 0) (dv 2) T.c_Reader T.n_Reader_at_word)
    (dss_one (ds_fput (dv 0) de_int T.c_Reader T.n_Reader_parts_read))))

/-! l_cell_at -/
def t_l_cell_at : DTS := (dSeq (dIf (dTest (dOp rLt (dVar 1) (dCB cLen (dCons (dVar 0) dNil))))
      (dRet (dOp dIxS (dVar 0) (dVar 1)))
      dNx)
    (dSeq (dAsg (dC (.int 0)) (dGN 2))
    (dSeq (dIf (dTest (dOp rGt (dCB cLen (dCons (dVar 0) dNil)) (dC (.int 0))))
      (dAsg (dOp dIxS (dVar 0) (dOp rMod (dVar 1) (dCB cLen (dCons (dVar 0) dNil)))) (dGN 2))
      dNx)
    (dRet (dOp dAddF (dOp dAddF (dOp dMul (dOp rMod (dVar 2) (dC (.int 1000003))) (dC (.int 48271))) (dOp dMul (dC (.int 7919)) (dVar 1))) (dC (.int 1)))))))
abbrev N_l_cell_at : List Str := ["_law_script", "_law_k", "_law_seed"]
theorem ok_l_cell_at {P : Program} {w : World} {K : PySem.W.Frag} {mg : Str → Option Value} {base : Heap} (T : Txt w K mg) {sp : DSp}
    (mono : SpMono sp) (len : ∀ ds S Q E, sp ds S Q E → ds.length = 2)
    (h : ∀ ds S Q E, sp ds S Q E → t_l_cell_at (dEnd Q E) (dstart ["_law_script", "_law_k", "_law_seed"] ds) S) : DFn P w K mg base 1 T.a_l_cell_at T.f_l_cell_at ["_law_script", "_law_k"] sp := by
  refine dfn_of2 (t := t_l_cell_at) T.F_l_cell_at sc_l_cell_at mono len (fun cdv A outer s H E hr gu => ?_) h
  have hu1 := hu_of hr
  have hu2 := hu_big hr
  exact (dss_cons (ds_if (dt_cmp od_lt (dv 1) (de_callB cd_len (by rfl) T.b_len (by decide +kernel) (da_cons (dv 0) da_nil)) (nomark _))
      (dss_one (ds_ret (de_ix (ixD_any hu2) (dv 0) (dv 1))))
      dss_nil)
    (dss_cons (ds_set (i := 2) sc_l_cell_at.nd rfl (by first | exact Or.inl rfl | exact Or.inr rfl) de_int)
    (dss_cons (ds_if (dt_cmp od_gt (de_callB cd_len (by rfl) T.b_len (by decide +kernel) (da_cons (dv 0) da_nil)) de_int (nomark _))
      (dss_one (ds_set (i := 2) sc_l_cell_at.nd rfl (by first | exact Or.inl rfl | exact Or.inr rfl) (de_ix (ixD_any hu2) (dv 0) (de_op od_mod (dv 1) (de_callB cd_len (by rfl) T.b_len (by decide +kernel) (da_cons (dv 0) da_nil))))))
      dss_nil)
    (dss_one (ds_ret (de_op od_addF (de_op od_addF (de_op od_mul (de_op od_mod (dv 2) de_int) de_int) (de_op od_mul de_int (dv 1))) de_int))))))

/-! l_feed -/
def t_l_feed : DTS := (dRet (dDisp [("left", (dCB cMax2 (dCons (dC (.int 0)) (dCons (dOp rSub (dVar 0) (dOp rPow (dC (.int 10)) (dC (.int 18)))) dNil)))), ("seed", (dOp rMod (dVar 0) (dC (.int 1000003)))), ("drawn", (dC (.int 0)))]))
abbrev N_l_feed : List Str := ["_law_cell"]
theorem ok_l_feed {P : Program} {w : World} {K : PySem.W.Frag} {mg : Str → Option Value} {base : Heap} (T : Txt w K mg) {sp : DSp}
    (mono : SpMono sp) (len : ∀ ds S Q E, sp ds S Q E → ds.length = 1)
    (h : ∀ ds S Q E, sp ds S Q E → t_l_feed (dEnd Q E) (dstart ["_law_cell"] ds) S) : DFn P w K mg base 1 T.a_l_feed T.f_l_feed ["_law_cell"] sp := by
  refine dfn_of2 (t := t_l_feed) T.F_l_feed sc_l_feed mono len (fun cdv A outer s H E hr gu => ?_) h
  have hu1 := hu_of hr
  have hu2 := hu_big hr
  exact (dss_one (ds_ret (de_disp (DPs.cons (de_callB (cd_max2 rfl) (by rfl) T.b_max (by decide +kernel) (da_cons de_int (da_cons (de_op od_sub (dv 0) (de_op od_pow de_int de_int)) da_nil))) (DPs.cons (de_op od_mod (dv 0) de_int) (DPs.cons de_int DPs.nil))))))

/-! l_next -/
def t_l_next : DTS := (dSeq (dPut (dVar 0) (dC (.str "drawn")) (dOp dAddF (dOp dIxS (dVar 0) (dC (.str "drawn"))) (dC (.int 1))))
    (dSeq (dIf (dTest (dOp rGt (dOp dIxS (dVar 0) (dC (.str "left"))) (dC (.int 0))))
      (dSeq (dAsg (dOp rMod (dOp dIxS (dVar 0) (dC (.str "left"))) (dVar 1)) (dGN 2))
    (dSeq (dPut (dVar 0) (dC (.str "left")) (dOp rFdiv (dOp dIxS (dVar 0) (dC (.str "left"))) (dVar 1)))
    (dRet (dVar 2))))
      dNx)
    (dSeq (dAsg (dOp rMod (dOp dMul (dOp dAddF (dOp dIxS (dVar 0) (dC (.str "seed"))) (dC (.int 1))) (dOp dAddF (dOp dMul (dOp dIxS (dVar 0) (dC (.str "drawn"))) (dOp dIxS (dVar 0) (dC (.str "drawn")))) (dC (.int 48271)))) (dC (.int 65537))) (dGN 3))
    (dSeq (dAsg (dOp rMod (dOp dAddF (dOp dMul (dVar 3) (dVar 3)) (dOp dMul (dC (.int 30269)) (dOp dIxS (dVar 0) (dC (.str "drawn"))))) (dC (.int 65521))) (dGN 4))
    (dRet (dOp rMod (dOp rMod (dOp dAddF (dOp dMul (dVar 4) (dVar 4)) (dOp dMul (dC (.int 40503)) (dVar 3))) (dC (.int 65519))) (dVar 1)))))))
abbrev N_l_next : List Str := ["_law_feed_here", "_law_many", "_law_found", "_law_one", "_law_two"]
theorem ok_l_next {P : Program} {w : World} {K : PySem.W.Frag} {mg : Str → Option Value} {base : Heap} (T : Txt w K mg) {sp : DSp}
    (mono : SpMono sp) (len : ∀ ds S Q E, sp ds S Q E → ds.length = 2)
    (h : ∀ ds S Q E, sp ds S Q E → t_l_next (dEnd Q E) (dstart ["_law_feed_here", "_law_many", "_law_found", "_law_one", "_law_two"] ds) S) : DFn P w K mg base 1 T.a_l_next T.f_l_next ["_law_feed_here", "_law_many"] sp := by
  refine dfn_of2 (t := t_l_next) T.F_l_next sc_l_next mono len (fun cdv A outer s H E hr gu => ?_) h
  have hu1 := hu_of hr
  have hu2 := hu_big hr
  exact (dss_cons (ds_put hu2 (dv 0) de_str (de_op od_addF (de_ix (ixD_any hu2) (dv 0) de_str) de_int))
    (dss_cons (ds_if (dt_cmp od_gt (de_ix (ixD_any hu2) (dv 0) de_str) de_int (nomark _))
      (dss_cons (ds_set (i := 2) sc_l_next.nd rfl (by first | exact Or.inl rfl | exact Or.inr rfl) (de_op od_mod (de_ix (ixD_any hu2) (dv 0) de_str) (dv 1)))
    (dss_cons (ds_put hu2 (dv 0) de_str (de_op od_fdiv (de_ix (ixD_any hu2) (dv 0) de_str) (dv 1)))
    (dss_one (ds_ret (dv 2)))))
      dss_nil)
    (dss_cons (ds_set (i := 3) sc_l_next.nd rfl (by first | exact Or.inl rfl | exact Or.inr rfl) (de_op od_mod (de_op od_mul (de_op od_addF (de_ix (ixD_any hu2) (dv 0) de_str) de_int) (de_op od_addF (de_op od_mul (de_ix (ixD_any hu2) (dv 0) de_str) (de_ix (ixD_any hu2) (dv 0) de_str)) de_int)) de_int))
    (dss_cons (ds_set (i := 4) sc_l_next.nd rfl (by first | exact Or.inl rfl | exact Or.inr rfl) (de_op od_mod (de_op od_addF (de_op od_mul (dv 3) (dv 3)) (de_op od_mul de_int (de_ix (ixD_any hu2) (dv 0) de_str))) de_int))
    (dss_one (ds_ret (de_op od_mod (de_op od_mod (de_op od_addF (de_op od_mul (dv 4) (dv 4)) (de_op od_mul de_int (dv 3))) de_int) (dv 1))))))))

/-! l_own -/
def t_l_own (C_NoText : Addr) : DTS := (dSeq (dAsg (dLstF (dCons (dIsE [(C_NoText, false)] (dVar 0)) (dCons (dIsE [(C_NoText, false)] (dVar 0)) (dCons (dIsE [(C_NoText, false)] (dVar 0)) dNil)))) (dGN 1))
    (dSeq (dAsg (dOp dAddF (dVar 1) (dLstF (dCons (dIsE [(C_NoText, false)] (dVar 0)) (dCons (dIsE [(C_NoText, false)] (dVar 0)) (dCons (dIsE [(C_NoText, false)] (dVar 0)) dNil))))) (dGN 1))
    (dSeq (dAsg (dOp dAddF (dVar 1) (dLstF (dCons (dIsE [(C_NoText, false)] (dVar 0)) (dCons (dIsE [(C_NoText, true)] (dVar 0)) (dCons (dIsE [(C_NoText, false)] (dVar 0)) dNil))))) (dGN 1))
    (dSeq (dAsg (dOp dAddF (dVar 1) (dLstF (dCons (dIsE [(C_NoText, false)] (dVar 0)) (dCons (dIsE [(C_NoText, false)] (dVar 0)) (dCons (dIsE [(C_NoText, false)] (dVar 0)) dNil))))) (dGN 1))
    (dSeq (dAsg (dOp dAddF (dVar 1) (dLstF (dCons (dIsE [(C_NoText, false)] (dVar 0)) (dCons (dIsE [(C_NoText, false)] (dVar 0)) dNil)))) (dGN 1))
    (dSeq (dIf (dOr (dNot (dTest (dIsE [(C_NoText, true)] (dVar 0)))) (dTest (dOp (dEq true) (dBM "list" mCountB (dVar 1) (dCons (dC (.bl true)) dNil)) (dC (.int 1)))))
      (dRet (dC (.str "none")))
      dNx)
    (dSeq (dAsg (dLstF (dCons (dC (.str "knot")) (dCons (dC (.str "mark")) (dCons (dC (.str "name")) (dCons (dC (.str "twice")) (dCons (dC (.str "toomany")) (dCons (dC (.str "tie")) (dCons (dC (.str "meet")) (dCons (dC (.str "text")) (dCons (dC (.str "line")) (dCons (dC (.str "way")) (dCons (dC (.str "toolong")) (dCons (dC (.str "round")) dNil))))))))))))) (dGN 2))
    (dRet (dOp dIxS (dOp dAddF (dVar 2) (dLstF (dCons (dC (.str "such")) (dCons (dC (.str "pair")) dNil)))) (dBM "list" mIndexB (dVar 1) (dCons (dC (.bl true)) dNil)))))))))))
abbrev N_l_own : List Str := ["_law_e", "_law_some", "_law_words_here"]
theorem ok_l_own {P : Program} {w : World} {K : PySem.W.Frag} {mg : Str → Option Value} {base : Heap} (T : Txt w K mg) {sp : DSp}
    (mono : SpMono sp) (len : ∀ ds S Q E, sp ds S Q E → ds.length = 1)
    (h : ∀ ds S Q E, sp ds S Q E → (t_l_own T.C_NoText) (dEnd Q E) (dstart ["_law_e", "_law_some", "_law_words_here"] ds) S) : DFn P w K mg base 1 T.a_l_own T.f_l_own ["_law_e"] sp := by
  refine dfn_of2 (t := (t_l_own T.C_NoText)) T.F_l_own sc_l_own mono len (fun cdv A outer s H E hr gu => ?_) h
  have hu1 := hu_of hr
  have hu2 := hu_big hr
  exact (dss_cons (ds_set (i := 1) sc_l_own.nd rfl (by first | exact Or.inl rfl | exact Or.inr rfl) (de_lstF (da_cons (de_ise (c := .ref T.C_NoKnot) (cv := .ref T.C_NoKnot) (xc_cons T.x_NoText xc_nil) T.kt_NoKnot (fun _ h => h) (pe_glob (v := .ref T.C_NoKnot) (by rfl) T.g_NoKnot rfl (by decide)) (dv 0) (by rfl) T.b_isinstance) (da_cons (de_ise (c := .ref T.C_NoMark) (cv := .ref T.C_NoMark) (xc_cons T.x_NoText xc_nil) T.kt_NoMark (fun _ h => h) (pe_glob (v := .ref T.C_NoMark) (by rfl) T.g_NoMark rfl (by decide)) (dv 0) (by rfl) T.b_isinstance) (da_cons (de_ise (c := .ref T.C_NoName) (cv := .ref T.C_NoName) (xc_cons T.x_NoText xc_nil) T.kt_NoName (fun _ h => h) (pe_glob (v := .ref T.C_NoName) (by rfl) T.g_NoName rfl (by decide)) (dv 0) (by rfl) T.b_isinstance) da_nil)))))
    (dss_cons (ds_set (i := 1) sc_l_own.nd rfl (by first | exact Or.inl rfl | exact Or.inr rfl) (de_op od_addF (dv 1) (de_lstF (da_cons (de_ise (c := .ref T.C_Twice) (cv := .ref T.C_Twice) (xc_cons T.x_NoText xc_nil) T.kt_Twice (fun _ h => h) (pe_glob (v := .ref T.C_Twice) (by rfl) T.g_Twice rfl (by decide)) (dv 0) (by rfl) T.b_isinstance) (da_cons (de_ise (c := .ref T.C_TooMany) (cv := .ref T.C_TooMany) (xc_cons T.x_NoText xc_nil) T.kt_TooMany (fun _ h => h) (pe_glob (v := .ref T.C_TooMany) (by rfl) T.g_TooMany rfl (by decide)) (dv 0) (by rfl) T.b_isinstance) (da_cons (de_ise (c := .ref T.C_NoTie) (cv := .ref T.C_NoTie) (xc_cons T.x_NoText xc_nil) T.kt_NoTie (fun _ h => h) (pe_glob (v := .ref T.C_NoTie) (by rfl) T.g_NoTie rfl (by decide)) (dv 0) (by rfl) T.b_isinstance) da_nil))))))
    (dss_cons (ds_set (i := 1) sc_l_own.nd rfl (by first | exact Or.inl rfl | exact Or.inr rfl) (de_op od_addF (dv 1) (de_lstF (da_cons (de_ise (c := .ref T.C_NoMeet) (cv := .ref T.C_NoMeet) (xc_cons T.x_NoText xc_nil) T.kt_NoMeet (fun _ h => h) (pe_glob (v := .ref T.C_NoMeet) (by rfl) T.g_NoMeet rfl (by decide)) (dv 0) (by rfl) T.b_isinstance) (da_cons (de_ise (c := .ref T.C_NoText) (cv := .ref T.C_NoText) (xc_cons T.x_NoText xc_nil) T.kt_NoText (fun _ h => h) (pe_glob (v := .ref T.C_NoText) (by rfl) T.g_NoText rfl (by decide)) (dv 0) (by rfl) T.b_isinstance) (da_cons (de_ise (c := .ref T.C_NoLine) (cv := .ref T.C_NoLine) (xc_cons T.x_NoText xc_nil) T.kt_NoLine (fun _ h => h) (pe_glob (v := .ref T.C_NoLine) (by rfl) T.g_NoLine rfl (by decide)) (dv 0) (by rfl) T.b_isinstance) da_nil))))))
    (dss_cons (ds_set (i := 1) sc_l_own.nd rfl (by first | exact Or.inl rfl | exact Or.inr rfl) (de_op od_addF (dv 1) (de_lstF (da_cons (de_ise (c := .ref T.C_NoWay) (cv := .ref T.C_NoWay) (xc_cons T.x_NoText xc_nil) T.kt_NoWay (fun _ h => h) (pe_glob (v := .ref T.C_NoWay) (by rfl) T.g_NoWay rfl (by decide)) (dv 0) (by rfl) T.b_isinstance) (da_cons (de_ise (c := .ref T.C_TooLong) (cv := .ref T.C_TooLong) (xc_cons T.x_NoText xc_nil) T.kt_TooLong (fun _ h => h) (pe_glob (v := .ref T.C_TooLong) (by rfl) T.g_TooLong rfl (by decide)) (dv 0) (by rfl) T.b_isinstance) (da_cons (de_ise (c := .ref T.C_GoesRound) (cv := .ref T.C_GoesRound) (xc_cons T.x_NoText xc_nil) T.kt_GoesRound (fun _ h => h) (pe_glob (v := .ref T.C_GoesRound) (by rfl) T.g_GoesRound rfl (by decide)) (dv 0) (by rfl) T.b_isinstance) da_nil))))))
    (dss_cons (ds_set (i := 1) sc_l_own.nd rfl (by first | exact Or.inl rfl | exact Or.inr rfl) (de_op od_addF (dv 1) (de_lstF (da_cons (de_ise (c := .ref T.C_NoSuch) (cv := .ref T.C_NoSuch) (xc_cons T.x_NoText xc_nil) T.kt_NoSuch (fun _ h => h) (pe_glob (v := .ref T.C_NoSuch) (by rfl) T.g_NoSuch rfl (by decide)) (dv 0) (by rfl) T.b_isinstance) (da_cons (de_ise (c := .ref T.C_NoPair) (cv := .ref T.C_NoPair) (xc_cons T.x_NoText xc_nil) T.kt_NoPair (fun _ h => h) (pe_glob (v := .ref T.C_NoPair) (by rfl) T.g_NoPair rfl (by decide)) (dv 0) (by rfl) T.b_isinstance) da_nil)))))
    (dss_cons (ds_if (DWt.pt (dw_or (dt_not (dt_val (de_ise (c := .ty "ValueError") (cv := .type "ValueError") (xc_cons T.x_NoText xc_nil) T.kt_ValueError (fun _ h => h) (pe_bltn (v := .ty "ValueError") (by rfl) T.b_ValueError PyProof.Rows.Boot.«ValueError» rfl (by decide) (by decide)) (dv 0) (by rfl) T.b_isinstance))) (dw_or1 (dt_cmp (od_ne hr.units) (de_bm PySem.F.plainAttrs_list PySem.F.slot_list_count PySem.F.type_list_count (md_countB (hu65 hu2)) (dv 1) (da_cons de_bl da_nil)) de_int (nomark _)))))
      (dss_one (ds_ret de_str))
      dss_nil)
    (dss_cons (ds_set (i := 2) sc_l_own.nd rfl (by first | exact Or.inl rfl | exact Or.inr rfl) (de_lstF (da_cons de_str (da_cons de_str (da_cons de_str (da_cons de_str (da_cons de_str (da_cons de_str (da_cons de_str (da_cons de_str (da_cons de_str (da_cons de_str (da_cons de_str (da_cons de_str da_nil))))))))))))))
    (dss_one (ds_ret (de_ix (ixD_any hu2) (de_op od_addF (dv 2) (de_lstF (da_cons de_str (da_cons de_str da_nil)))) (de_bm PySem.F.plainAttrs_list PySem.F.slot_list_index PySem.F.type_list_index (md_indexB (hu65 hu2)) (dv 1) (da_cons de_bl da_nil))))))))))))

/-! l_words -/
def t_l_words : DTS := (dSeq (dAsg (dLst dNil) (dGN 1))
    (dSeq (dAsg (dLst (dCons (dVar 0) dNil)) (dGN 2))
    (dSeq (dWhile (dTest (dOp (dEq true) (dVar 2) (dLstF dNil)))
      (dSeq (dAsg (dBM "list" mPop (dVar 2) dNil) (dGN 3))
    (dIf (dTest (dOp (dEq false) (dOp dIxS (dVar 3) (dC (.int 0))) (dC (.str "step"))))
      (dDrop (dBM "list" mExtend (dVar 1) (dCons (dLstF (dCons (dOp dIxS (dVar 3) (dC (.int 1))) (dCons (dOp dIxS (dVar 3) (dC (.int 2))) dNil))) dNil)))
      (dIf (dTest (dOp (dEq false) (dOp dIxS (dVar 3) (dC (.int 0))) (dC (.str "many"))))
      (dSeq (dDrop (dBM "list" mAppend (dVar 1) (dCons (dC (.str "many")) dNil)))
    (dDrop (dBM "list" mAppend (dVar 2) (dCons (dOp dIxS (dVar 3) (dC (.int 1))) dNil))))
      (dIf (dTest (dOp (dIn false) (dOp dIxS (dVar 3) (dC (.int 0))) (dTup (dCons (dC (.str "then")) (dCons (dC (.str "either")) dNil)))))
      (dSeq (dDrop (dBM "list" mExtend (dVar 1) (dCons (dLstF (dCons (dOp dIxS (dVar 3) (dC (.int 0))) (dCons (dCB cStr (dCons (dCB cLen (dCons (dOp dIxS (dVar 3) (dC (.int 1))) dNil)) dNil)) dNil))) dNil)))
    (dDrop (dBM "list" mExtend (dVar 2) (dCons (dLstRevTF (dOp dIxS (dVar 3) (dC (.int 1)))) dNil))))
      (dDrop (dBM "list" mExtend (dVar 1) (dCons (dCB cListAF (dCons (dVar 3) dNil)) dNil))))))))
    (dRet (dVar 1)))))
abbrev N_l_words : List Str := ["_law_pattern_here", "_law_words_here", "_law_left", "_law_part"]
theorem ok_l_words {P : Program} {w : World} {K : PySem.W.Frag} {mg : Str → Option Value} {base : Heap} (T : Txt w K mg) {sp : DSp}
    (mono : SpMono sp) (len : ∀ ds S Q E, sp ds S Q E → ds.length = 1)
    (h : ∀ ds S Q E, sp ds S Q E → t_l_words (dEnd Q E) (dstart ["_law_pattern_here", "_law_words_here", "_law_left", "_law_part"] ds) S) : DFn P w K mg base 1 T.a_l_words T.f_l_words ["_law_pattern_here"] sp := by
  refine dfn_of2 (t := t_l_words) T.F_l_words sc_l_words mono len (fun cdv A outer s H E hr gu => ?_) h
  have hu1 := hu_of hr
  have hu2 := hu_big hr
  exact (dss_cons (ds_set (i := 1) sc_l_words.nd rfl (by first | exact Or.inl rfl | exact Or.inr rfl) (de_lst da_nil))
    (dss_cons (ds_set (i := 2) sc_l_words.nd rfl (by first | exact Or.inl rfl | exact Or.inr rfl) (de_lst (da_cons (dv 0) da_nil)))
    (dss_cons (ds_while (passes_of rfl) (dt_cmp (od_ne hr.units) (dv 2) (de_lstF da_nil) (nomark _))
      (dss_cons (ds_set (i := 3) sc_l_words.nd rfl (by first | exact Or.inl rfl | exact Or.inr rfl) (de_bm0 PySem.F.plainAttrs_list PySem.F.slot_list_pop PySem.F.type_list_pop md_pop (dv 2)))
    (dss_one (ds_if (dt_cmp (od_eq hr.units) (de_ix (ixD_any hu2) (dv 3) de_int) de_str (nomark _))
      (dss_one (ds_expr (de_bm PySem.F.plainAttrs_list PySem.F.slot_list_extend PySem.F.type_list_extend md_extend (dv 1) (da_cons (de_lstF (da_cons (de_ix (ixD_any hu2) (dv 3) de_int) (da_cons (de_ix (ixD_any hu2) (dv 3) de_int) da_nil))) da_nil))))
      (dss_one (ds_if (dt_cmp (od_eq hr.units) (de_ix (ixD_any hu2) (dv 3) de_int) de_str (nomark _))
      (dss_cons (ds_expr (de_bm PySem.F.plainAttrs_list PySem.F.slot_list_append PySem.F.type_list_append md_append (dv 1) (da_cons de_str da_nil)))
    (dss_one (ds_expr (de_bm PySem.F.plainAttrs_list PySem.F.slot_list_append PySem.F.type_list_append md_append (dv 2) (da_cons (de_ix (ixD_any hu2) (dv 3) de_int) da_nil)))))
      (dss_one (ds_if (dt_cmp (od_in hu2) (de_ix (ixD_any hu2) (dv 3) de_int) (de_tup (da_cons de_str (da_cons de_str da_nil))) (by rfl))
      (dss_cons (ds_expr (de_bm PySem.F.plainAttrs_list PySem.F.slot_list_extend PySem.F.type_list_extend md_extend (dv 1) (da_cons (de_lstF (da_cons (de_ix (ixD_any hu2) (dv 3) de_int) (da_cons (de_callTy cd_str (by rfl) T.b_str (by decide +kernel) (da_cons (de_callB cd_len (by rfl) T.b_len (by decide +kernel) (da_cons (de_ix (ixD_any hu2) (dv 3) de_int) da_nil)) da_nil)) da_nil))) da_nil)))
    (dss_one (ds_expr (de_bm PySem.F.plainAttrs_list PySem.F.slot_list_extend PySem.F.type_list_extend md_extend (dv 2) (da_cons (de_lstRevTF rfl (by rfl) T.b_list (by rfl) T.b_reversed (de_ix (ixD_any hu2) (dv 3) de_int)) da_nil)))))
      (dss_one (ds_expr (de_bm PySem.F.plainAttrs_list PySem.F.slot_list_extend PySem.F.type_list_extend md_extend (dv 1) (da_cons (de_callTy (cd_listAF rfl) (by rfl) T.b_list (by decide +kernel) (da_cons (dv 3) da_nil)) da_nil))))))))))))
    (dss_one (ds_ret (dv 1))))))
end K11X
set_option maxRecDepth 100000
set_option maxHeartbeats 4000000
namespace K11X
open PySem PySem.Spec L2
open L11
open Sh hiding N_parts_of r_parts_of t_parts_of
open Dt hiding delo_upo nkeys

/-! l_is_name -/
def t_l_is_name : DTS := (dSeq (dIf (dNot (dTest (dChain rLe rLe (dC (.int 1)) (dCB cLen (dCons (dVar 0) dNil)) (dC (.int 8)))))
      (dRet (dC (.bl false)))
      dNx)
    (dRet (dOp rGe (dCB cMinL (dCons (dFz (dLc (dSeqI (dVar 0)) (dGN 1) dYes (dBM "str" mFind (dC (.str "abcdefghijklmnopqrstuvwxyz")) (dCons (dVar 1) dNil)) [1])) dNil)) (dC (.int 0)))))
abbrev N_l_is_name : List Str := ["_law_word", "_law_sign"]
theorem ok_l_is_name {P : Program} {w : World} {K : PySem.W.Frag} {mg : Str → Option Value} {base : Heap} (T : Txt w K mg) {sp : DSp}
    (mono : SpMono sp) (len : ∀ ds S Q E, sp ds S Q E → ds.length = 1)
    (h : ∀ ds S Q E, sp ds S Q E → t_l_is_name (dEnd Q E) (dstart ["_law_word", "_law_sign"] ds) S) : DFn P w K mg base 1 T.a_l_is_name T.f_l_is_name ["_law_word"] sp := by
  refine dfn_of2 (t := t_l_is_name) T.F_l_is_name sc_l_is_name mono len (fun cdv A outer s H E hr gu => ?_) h
  have hu1 := hu_of hr
  have hu2 := hu_big hr
  exact (dss_cons (ds_if (dt_not (dt_chain od_le od_le de_int (de_callB cd_len (by rfl) T.b_len (by decide +kernel) (da_cons (dv 0) da_nil)) de_int))
      (dss_one (ds_ret de_bl))
      dss_nil)
    (dss_one (ds_ret (de_cmp od_ge (de_callB (cd_minL rfl) (by rfl) T.b_min (by decide +kernel) (da_cons (de_fz (de_lc (own := [("_law_sign", 1)]) rfl sc_l_is_name.nd (di_seq (dv 0)) (blkOk_by (own := [("_law_sign", 1)]) (N := ["_law_word", "_law_sign"]) (sc := defScope s_l_is_name) (by decide +kernel)) ⟨fun _ _ _ _ _ => (dw_name (i := 1) sc_l_is_name.nd rfl (by first | exact Or.inl rfl | exact Or.inr rfl) (by decide)), fun _ _ _ _ _ => dts_nil, fun _ _ _ _ _ => (de_bm PySem.F.plainAttrs_str PySem.F.slot_str_find PySem.F.type_str_find md_find de_str (da_cons (dv 1) da_nil))⟩)) da_nil)) de_int (nomark _)))))

/-! l_number -/
def t_l_number : DTS := (dSeq (dAsg (dFz (dLc (dRng1 (dCons (dC (.int 40)) dNil)) (dGN 2) dYes (dCB cStr (dCons (dVar 2) dNil)) [2])) (dGN 1))
    (dSeq (dIf (dTest (dOp (dIn false) (dVar 0) (dVar 1)))
      (dRet (dBM "list" mIndex (dVar 1) (dCons (dVar 0) dNil)))
      dNx)
    (dRet (dNeg (dC (.int 1))))))
abbrev N_l_number : List Str := ["_law_word", "_law_some", "_law_number_here"]
theorem ok_l_number {P : Program} {w : World} {K : PySem.W.Frag} {mg : Str → Option Value} {base : Heap} (T : Txt w K mg) {sp : DSp}
    (mono : SpMono sp) (len : ∀ ds S Q E, sp ds S Q E → ds.length = 1)
    (h : ∀ ds S Q E, sp ds S Q E → t_l_number (dEnd Q E) (dstart ["_law_word", "_law_some", "_law_number_here"] ds) S) : DFn P w K mg base 1 T.a_l_number T.f_l_number ["_law_word"] sp := by
  refine dfn_of2 (t := t_l_number) T.F_l_number sc_l_number mono len (fun cdv A outer s H E hr gu => ?_) h
  have hu1 := hu_of hr
  have hu2 := hu_big hr
  exact (dss_cons (ds_setLcF (i := 1) (own := [("_law_number_here", 2)]) rfl sc_l_number.nd rfl rfl (sw_true rfl rfl rfl (by decide +kernel)) (di_rng1 (by rfl) T.b_range (da_cons de_int da_nil)) (blkOk_by (own := [("_law_number_here", 2)]) (N := ["_law_word", "_law_some", "_law_number_here"]) (sc := defScope s_l_number) (by decide +kernel)) ⟨fun _ _ _ _ _ => (dw_name (i := 2) sc_l_number.nd rfl (by first | exact Or.inl rfl | exact Or.inr rfl) (by decide)), fun _ _ _ _ _ => dts_nil, fun _ _ _ _ _ => (de_callTy cd_str (by rfl) T.b_str (by decide +kernel) (da_cons (dv 2) da_nil))⟩)
    (dss_cons (ds_if (dt_cmp (od_in hu2) (dv 0) (dv 1) (by rfl))
      (dss_one (ds_ret (de_bm PySem.F.plainAttrs_list PySem.F.slot_list_index PySem.F.type_list_index (md_index (hu65 hu2)) (dv 1) (da_cons (dv 0) da_nil))))
      dss_nil)
    (dss_one (ds_ret (de_neg de_int)))))

/-! l_wanted -/
def t_l_wanted : DTS := (dSeq (dIf (dTest (dOp (dIn false) (dVar 0) (dTup (dCons (dC (.str "on")) (dCons (dC (.str "back")) dNil)))))
      (dRet (dLstF (dCons (dTup (dCons (dC (.str "word")) (dCons (dVar 1) dNil))) dNil)))
      dNx)
    (dSeq (dIf (dTest (dOp (dIn false) (dVar 0) (dTup (dCons (dC (.str "at")) (dCons (dC (.str "off")) dNil)))))
      (dRet (dLstF (dCons (dTup (dCons (dC (.str "mark")) (dCons (dVar 1) dNil))) dNil)))
      dNx)
    (dSeq (dIf (dTest (dOp (dEq false) (dVar 0) (dC (.str "many"))))
      (dRet (dLstF (dCons (dTup (dCons (dC (.str "part")) (dCons (dOp dAddF (dVar 1) (dC (.int 1))) dNil))) dNil)))
      dNx)
    (dSeq (dIf (dTest (dOp (dEq false) (dVar 0) (dC (.str "stay"))))
      (dRet (dLstF dNil))
      dNx)
    (dRet (dLstF (dCons (dTup (dCons (dC (.str "number")) (dCons (dVar 1) dNil))) dNil)))))))
abbrev N_l_wanted : List Str := ["_law_word", "_law_deep"]
theorem ok_l_wanted {P : Program} {w : World} {K : PySem.W.Frag} {mg : Str → Option Value} {base : Heap} (T : Txt w K mg) {sp : DSp}
    (mono : SpMono sp) (len : ∀ ds S Q E, sp ds S Q E → ds.length = 2)
    (h : ∀ ds S Q E, sp ds S Q E → t_l_wanted (dEnd Q E) (dstart ["_law_word", "_law_deep"] ds) S) : DFn P w K mg base 1 T.a_l_wanted T.f_l_wanted ["_law_word", "_law_deep"] sp := by
  refine dfn_of2 (t := t_l_wanted) T.F_l_wanted sc_l_wanted mono len (fun cdv A outer s H E hr gu => ?_) h
  have hu1 := hu_of hr
  have hu2 := hu_big hr
  exact (dss_cons (ds_if (dt_cmp (od_in hu2) (dv 0) (de_tup (da_cons de_str (da_cons de_str da_nil))) (by rfl))
      (dss_one (ds_ret (de_lstF (da_cons (de_tup (da_cons de_str (da_cons (dv 1) da_nil))) da_nil))))
      dss_nil)
    (dss_cons (ds_if (dt_cmp (od_in hu2) (dv 0) (de_tup (da_cons de_str (da_cons de_str da_nil))) (by rfl))
      (dss_one (ds_ret (de_lstF (da_cons (de_tup (da_cons de_str (da_cons (dv 1) da_nil))) da_nil))))
      dss_nil)
    (dss_cons (ds_if (dt_cmp (od_eq hr.units) (dv 0) de_str (nomark _))
      (dss_one (ds_ret (de_lstF (da_cons (de_tup (da_cons de_str (da_cons (de_op od_addF (dv 1) de_int) da_nil))) da_nil))))
      dss_nil)
    (dss_cons (ds_if (dt_cmp (od_eq hr.units) (dv 0) de_str (nomark _))
      (dss_one (ds_ret (de_lstF da_nil)))
      dss_nil)
    (dss_one (ds_ret (de_lstF (da_cons (de_tup (da_cons de_str (da_cons (dv 1) da_nil))) da_nil))))))))

/-! is_word -/
def t_is_word : DTS := (dRet (dOrV (dCall sp_is_name (dCons (dVar 0) dNil)) (dAndV (dIsi "str" (dVar 0)) (dOp (dEq false) (dVar 0) (dC (.str "*"))))))
abbrev N_is_word : List Str := ["thing"]
theorem ok_is_word {P : Program} {w : World} {K : PySem.W.Frag} {mg : Str → Option Value} {base : Heap} (T : Txt w K mg) (G_is_name : DFn P w K mg base 1 T.a_is_name T.f_is_name ["thing"] sp_is_name) {sp : DSp}
    (mono : SpMono sp) (len : ∀ ds S Q E, sp ds S Q E → ds.length = 1)
    (h : ∀ ds S Q E, sp ds S Q E → t_is_word (dEnd Q E) (dstart ["thing"] ds) S) : DFn P w K mg base 2 T.a_is_word T.f_is_word ["thing"] sp := by
  refine dfn_of2 (t := t_is_word) T.F_is_word sc_is_word mono len (fun cdv A outer s H E hr gu => ?_) h
  have hu1 := hu_of hr
  have hu2 := hu_big hr
  exact (dss_one (ds_ret (de_or (de_call G_is_name (hr.mono (by decide)) gu (by rfl) T.m_is_name T.F_is_name.kp T.d_is_name (da_cons (dv 0) da_nil)) (de_one (de_and (de_isi (T := "str") (by decide) (dv 0) (by rfl) T.b_isinstance (by rfl) T.b_str (by decide +kernel)) (de_one (de_cmp (od_eq hr.units) (dv 0) (de_gstr (by rfl) T.g_ANY_WORD) (nomark _))))))))

/-! l_names -/
def t_l_names : DTS := (dSeq (dAsg (dC (.str "abcdefghijklmnopqrstuvwxyz")) (dGN 2))
    (dSeq (dAsg (dBM "str" mJoin (dC (.str "")) (dCons (dFz (dLc (dRng1 (dCons (dC (.int 8)) dNil)) (dGN 9) dYes (dOp dIxS (dVar 2) (dCall sp_l_next (dCons (dVar 0) (dCons (dC (.int 26)) dNil)))) [9])) dNil)) (dGN 3))
    (dSeq (dAsg (dCall sp_l_next (dCons (dVar 0) (dCons (dC (.int 3)) dNil))) (dGN 4))
    (dSeq (dAsg (dCall sp_l_next (dCons (dVar 0) (dCons (dC (.int 8)) dNil))) (dGN 5))
    (dSeq (dIf (dTest (dOp (dEq false) (dVar 4) (dC (.int 0))))
      (dAsg (dLc (dRng1 (dCons (dC (.int 8)) dNil)) (dGN 9) dYes (dSlF (dVar 3) dNoP (dSoP (dOp dAddF (dVar 9) (dC (.int 1))))) [9]) (dGN 6))
      (dIf (dTest (dOp (dEq false) (dVar 4) (dC (.int 1))))
      (dAsg (dLst (dCons (dC (.str "on")) (dCons (dC (.str "back")) (dCons (dC (.str "at")) (dCons (dC (.str "off")) (dCons (dC (.str "stay")) (dCons (dC (.str "many")) (dCons (dC (.str "then")) (dCons (dC (.str "either")) dNil))))))))) (dGN 6))
      (dSeq (dAsg (dCall sp_l_next (dCons (dVar 0) (dCons (dOp dAddF (dVar 5) (dC (.int 1))) dNil))) (dGN 7))
    (dSeq (dAsg (dCall sp_l_next (dCons (dVar 0) (dCons (dC (.int 26)) dNil))) (dGN 8))
    (dSeq (dAsg (dLst dNil) (dGN 6))
    (dFor (dRng1 (dCons (dC (.int 8)) dNil)) (dGN 9)
      (dSeq (dAsg (dOp dIxS (dVar 2) (dOp rMod (dOp dAddF (dVar 8) (dOp dMul (dC (.int 5)) (dVar 9))) (dC (.int 26)))) (dGN 10))
    (dDrop (dBM "list" mAppend (dVar 6) (dCons (dOp dAddF (dOp dAddF (dSlF (dVar 3) dNoP (dSoP (dVar 7))) (dVar 10)) (dSlF (dVar 3) (dSoP (dOp dAddF (dVar 7) (dC (.int 1)))) (dSoP (dOp dAddF (dVar 5) (dC (.int 1)))))) dNil))))))))))
    (dRet (dSlF (dOp dAddF (dSlF (dVar 6) (dSoP (dVar 5)) dNoP) (dSlF (dVar 6) dNoP (dSoP (dVar 5)))) dNoP (dSoP (dVar 1)))))))))
abbrev N_l_names : List Str := ["_law_feed_here", "_law_many", "_law_letters", "_law_word", "_law_way", "_law_turn", "_law_names_here", "_law_place", "_law_start", "_law_k", "_law_sign"]
theorem ok_l_names {P : Program} {w : World} {K : PySem.W.Frag} {mg : Str → Option Value} {base : Heap} (T : Txt w K mg) (G_l_next : DFn P w K mg base 1 T.a_l_next T.f_l_next ["_law_feed_here", "_law_many"] sp_l_next) {sp : DSp}
    (mono : SpMono sp) (len : ∀ ds S Q E, sp ds S Q E → ds.length = 2)
    (h : ∀ ds S Q E, sp ds S Q E → t_l_names (dEnd Q E) (dstart ["_law_feed_here", "_law_many", "_law_letters", "_law_word", "_law_way", "_law_turn", "_law_names_here", "_law_place", "_law_start", "_law_k", "_law_sign"] ds) S) : DFn P w K mg base 2 T.a_l_names T.f_l_names ["_law_feed_here", "_law_many"] sp := by
  refine dfn_of2 (t := t_l_names) T.F_l_names sc_l_names mono len (fun cdv A outer s H E hr gu => ?_) h
  have hu1 := hu_of hr
  have hu2 := hu_big hr
  exact (dss_cons (ds_set (i := 2) sc_l_names.nd rfl (by first | exact Or.inl rfl | exact Or.inr rfl) de_str)
    (dss_cons (ds_set (i := 3) sc_l_names.nd rfl (by first | exact Or.inl rfl | exact Or.inr rfl) (de_bm PySem.F.plainAttrs_str PySem.F.slot_str_join PySem.F.type_str_join md_join de_str (da_cons (de_fz (de_lc (own := [("_law_k", 9)]) rfl sc_l_names.nd (di_rng1 (by rfl) T.b_range (da_cons de_int da_nil)) (blkOk_by (own := [("_law_k", 9)]) (N := ["_law_feed_here", "_law_many", "_law_letters", "_law_word", "_law_way", "_law_turn", "_law_names_here", "_law_place", "_law_start", "_law_k", "_law_sign"]) (sc := defScope s_l_names) (by decide +kernel)) ⟨fun _ _ _ _ _ => (dw_name (i := 9) sc_l_names.nd rfl (by first | exact Or.inl rfl | exact Or.inr rfl) (by decide)), fun _ _ _ _ _ => dts_nil, fun _ _ _ _ _ => (de_ix (ixD_any hu2) (dv 2) (de_call G_l_next (hr.mono (by decide)) gu (by rfl) T.m_l_next T.F_l_next.kp T.d_l_next (da_cons (dv 0) (da_cons de_int da_nil))))⟩)) da_nil)))
    (dss_cons (ds_set (i := 4) sc_l_names.nd rfl (by first | exact Or.inl rfl | exact Or.inr rfl) (de_call G_l_next (hr.mono (by decide)) gu (by rfl) T.m_l_next T.F_l_next.kp T.d_l_next (da_cons (dv 0) (da_cons de_int da_nil))))
    (dss_cons (ds_set (i := 5) sc_l_names.nd rfl (by first | exact Or.inl rfl | exact Or.inr rfl) (de_call G_l_next (hr.mono (by decide)) gu (by rfl) T.m_l_next T.F_l_next.kp T.d_l_next (da_cons (dv 0) (da_cons de_int da_nil))))
    (dss_cons (ds_if (dt_cmp (od_eq hr.units) (dv 4) de_int (nomark _))
      (dss_one (ds_setLc (i := 6) (own := [("_law_k", 9)]) rfl sc_l_names.nd rfl rfl (sw_true rfl rfl rfl (by decide +kernel)) (di_rng1 (by rfl) T.b_range (da_cons de_int da_nil)) (blkOk_by (own := [("_law_k", 9)]) (N := ["_law_feed_here", "_law_many", "_law_letters", "_law_word", "_law_way", "_law_turn", "_law_names_here", "_law_place", "_law_start", "_law_k", "_law_sign"]) (sc := defScope s_l_names) (by decide +kernel)) ⟨fun _ _ _ _ _ => (dw_name (i := 9) sc_l_names.nd rfl (by first | exact Or.inl rfl | exact Or.inr rfl) (by decide)), fun _ _ _ _ _ => dts_nil, fun _ _ _ _ _ => (de_slF (dv 3) do_none (do_some (de_op od_addF (dv 9) de_int)))⟩))
      (dss_one (ds_if (dt_cmp (od_eq hr.units) (dv 4) de_int (nomark _))
      (dss_one (ds_set (i := 6) sc_l_names.nd rfl (by first | exact Or.inl rfl | exact Or.inr rfl) (de_lst (da_cons de_str (da_cons de_str (da_cons de_str (da_cons de_str (da_cons de_str (da_cons de_str (da_cons de_str (da_cons de_str da_nil)))))))))))
      (dss_cons (ds_set (i := 7) sc_l_names.nd rfl (by first | exact Or.inl rfl | exact Or.inr rfl) (de_call G_l_next (hr.mono (by decide)) gu (by rfl) T.m_l_next T.F_l_next.kp T.d_l_next (da_cons (dv 0) (da_cons (de_op od_addF (dv 5) de_int) da_nil))))
    (dss_cons (ds_set (i := 8) sc_l_names.nd rfl (by first | exact Or.inl rfl | exact Or.inr rfl) (de_call G_l_next (hr.mono (by decide)) gu (by rfl) T.m_l_next T.F_l_next.kp T.d_l_next (da_cons (dv 0) (da_cons de_int da_nil))))
    (dss_cons (ds_set (i := 6) sc_l_names.nd rfl (by first | exact Or.inl rfl | exact Or.inr rfl) (de_lst da_nil))
    (dss_one (ds_for (passes_of rfl) rfl (di_rng1 (by rfl) T.b_range (da_cons de_int da_nil)) (dg_name (i := 9) sc_l_names.nd rfl (by first | exact Or.inl rfl | exact Or.inr rfl))
      (dss_cons (ds_set (i := 10) sc_l_names.nd rfl (by first | exact Or.inl rfl | exact Or.inr rfl) (de_ix (ixD_any hu2) (dv 2) (de_op od_mod (de_op od_addF (dv 8) (de_op od_mul de_int (dv 9))) de_int)))
    (dss_one (ds_expr (de_bm PySem.F.plainAttrs_list PySem.F.slot_list_append PySem.F.type_list_append md_append (dv 6) (da_cons (de_op od_addF (de_op od_addF (de_slF (dv 3) do_none (do_some (dv 7))) (dv 10)) (de_slF (dv 3) (do_some (de_op od_addF (dv 7) de_int)) (do_some (de_op od_addF (dv 5) de_int)))) da_nil)))))))))))))
    (dss_one (ds_ret (de_slF (de_op od_addF (de_slF (dv 6) (do_some (dv 5)) do_none) (de_slF (dv 6) do_none (do_some (dv 5)))) do_none (do_some (dv 1))))))))))

/-! l_leaf -/
def t_l_leaf : DTS := (dSeq (dAsg (dCall sp_l_next (dCons (dVar 0) (dCons (dC (.int 8)) dNil))) (dGN 2))
    (dSeq (dIf (dTest (dOp (dEq false) (dVar 2) (dC (.int 0))))
      (dRet (dTup (dCons (dC (.str "stay")) dNil)))
      dNx)
    (dSeq (dIf (dTest (dOp rLt (dVar 2) (dC (.int 3))))
      (dRet (dTup (dCons (dOp dIxS (dLstF (dCons (dC (.str "at")) (dCons (dC (.str "off")) dNil))) (dOp rSub (dVar 2) (dC (.int 1)))) (dCons (dOp dIxS (dOp dIxS (dVar 1) (dC (.int 2))) (dCall sp_l_next (dCons (dVar 0) (dCons (dCB cLen (dCons (dOp dIxS (dVar 1) (dC (.int 2))) dNil)) dNil)))) dNil))))
      dNx)
    (dSeq (dAsg (dOp dIxS (dOp dAddF (dLstF (dCons (dC (.str "*")) dNil)) (dOp dIxS (dVar 1) (dC (.int 1)))) (dCall sp_l_next (dCons (dVar 0) (dCons (dOp dAddF (dC (.int 1)) (dCB cLen (dCons (dOp dIxS (dVar 1) (dC (.int 1))) dNil))) dNil)))) (dGN 3))
    (dRet (dTup (dCons (dC (.str "step")) (dCons (dOp dIxS (dLstF (dCons (dC (.str "on")) (dCons (dC (.str "on")) (dCons (dC (.str "back")) dNil)))) (dCall sp_l_next (dCons (dVar 0) (dCons (dC (.int 3)) dNil)))) (dCons (dVar 3) dNil)))))))))
abbrev N_l_leaf : List Str := ["_law_feed_here", "_law_names_here", "_law_way", "_law_word"]
theorem ok_l_leaf {P : Program} {w : World} {K : PySem.W.Frag} {mg : Str → Option Value} {base : Heap} (T : Txt w K mg) (G_l_next : DFn P w K mg base 1 T.a_l_next T.f_l_next ["_law_feed_here", "_law_many"] sp_l_next) {sp : DSp}
    (mono : SpMono sp) (len : ∀ ds S Q E, sp ds S Q E → ds.length = 2)
    (h : ∀ ds S Q E, sp ds S Q E → t_l_leaf (dEnd Q E) (dstart ["_law_feed_here", "_law_names_here", "_law_way", "_law_word"] ds) S) : DFn P w K mg base 2 T.a_l_leaf T.f_l_leaf ["_law_feed_here", "_law_names_here"] sp := by
  refine dfn_of2 (t := t_l_leaf) T.F_l_leaf sc_l_leaf mono len (fun cdv A outer s H E hr gu => ?_) h
  have hu1 := hu_of hr
  have hu2 := hu_big hr
  exact (dss_cons (ds_set (i := 2) sc_l_leaf.nd rfl (by first | exact Or.inl rfl | exact Or.inr rfl) (de_call G_l_next (hr.mono (by decide)) gu (by rfl) T.m_l_next T.F_l_next.kp T.d_l_next (da_cons (dv 0) (da_cons de_int da_nil))))
    (dss_cons (ds_if (dt_cmp (od_eq hr.units) (dv 2) de_int (nomark _))
      (dss_one (ds_ret (de_tup (da_cons de_str da_nil))))
      dss_nil)
    (dss_cons (ds_if (dt_cmp od_lt (dv 2) de_int (nomark _))
      (dss_one (ds_ret (de_tup (da_cons (de_ix (ixD_any hu2) (de_lstF (da_cons de_str (da_cons de_str da_nil))) (de_op od_sub (dv 2) de_int)) (da_cons (de_ix (ixD_any hu2) (de_ix (ixD_any hu2) (dv 1) de_int) (de_call G_l_next (hr.mono (by decide)) gu (by rfl) T.m_l_next T.F_l_next.kp T.d_l_next (da_cons (dv 0) (da_cons (de_callB cd_len (by rfl) T.b_len (by decide +kernel) (da_cons (de_ix (ixD_any hu2) (dv 1) de_int) da_nil)) da_nil)))) da_nil)))))
      dss_nil)
    (dss_cons (ds_set (i := 3) sc_l_leaf.nd rfl (by first | exact Or.inl rfl | exact Or.inr rfl) (de_ix (ixD_any hu2) (de_op od_addF (de_lstF (da_cons de_str da_nil)) (de_ix (ixD_any hu2) (dv 1) de_int)) (de_call G_l_next (hr.mono (by decide)) gu (by rfl) T.m_l_next T.F_l_next.kp T.d_l_next (da_cons (dv 0) (da_cons (de_op od_addF de_int (de_callB cd_len (by rfl) T.b_len (by decide +kernel) (da_cons (de_ix (ixD_any hu2) (dv 1) de_int) da_nil))) da_nil)))))
    (dss_one (ds_ret (de_tup (da_cons de_str (da_cons (de_ix (ixD_any hu2) (de_lstF (da_cons de_str (da_cons de_str (da_cons de_str da_nil)))) (de_call G_l_next (hr.mono (by decide)) gu (by rfl) T.m_l_next T.F_l_next.kp T.d_l_next (da_cons (dv 0) (da_cons de_int da_nil)))) (da_cons (dv 3) da_nil))))))))))

/-! l_fit -/
def t_l_fit : DTS := (dSeq (dIf (dTest (dOp (dEq false) (dVar 0) (dC (.str "word"))))
      (dRet (dOrV (dOp (dEq false) (dVar 1) (dC (.str "*"))) (dCall sp_l_is_name (dCons (dVar 1) dNil))))
      dNx)
    (dSeq (dIf (dTest (dOp (dEq false) (dVar 0) (dC (.str "mark"))))
      (dRet (dCall sp_l_is_name (dCons (dVar 1) dNil)))
      dNx)
    (dRet (dOp (dIn false) (dVar 1) (dTup (dCons (dC (.str "stay")) (dCons (dC (.str "on")) (dCons (dC (.str "back")) (dCons (dC (.str "at")) (dCons (dC (.str "off")) (dCons (dC (.str "then")) (dCons (dC (.str "either")) (dCons (dC (.str "many")) dNil)))))))))))))
abbrev N_l_fit : List Str := ["_law_sort", "_law_word"]
theorem ok_l_fit {P : Program} {w : World} {K : PySem.W.Frag} {mg : Str → Option Value} {base : Heap} (T : Txt w K mg) (G_l_is_name : DFn P w K mg base 1 T.a_l_is_name T.f_l_is_name ["_law_word"] sp_l_is_name) {sp : DSp}
    (mono : SpMono sp) (len : ∀ ds S Q E, sp ds S Q E → ds.length = 2)
    (h : ∀ ds S Q E, sp ds S Q E → t_l_fit (dEnd Q E) (dstart ["_law_sort", "_law_word"] ds) S) : DFn P w K mg base 2 T.a_l_fit T.f_l_fit ["_law_sort", "_law_word"] sp := by
  refine dfn_of2 (t := t_l_fit) T.F_l_fit sc_l_fit mono len (fun cdv A outer s H E hr gu => ?_) h
  have hu1 := hu_of hr
  have hu2 := hu_big hr
  exact (dss_cons (ds_if (dt_cmp (od_eq hr.units) (dv 0) de_str (nomark _))
      (dss_one (ds_ret (de_or (de_cmp (od_eq hr.units) (dv 1) de_str (nomark _)) (de_one (de_call G_l_is_name (hr.mono (by decide)) gu (by rfl) T.m_l_is_name T.F_l_is_name.kp T.d_l_is_name (da_cons (dv 1) da_nil))))))
      dss_nil)
    (dss_cons (ds_if (dt_cmp (od_eq hr.units) (dv 0) de_str (nomark _))
      (dss_one (ds_ret (de_call G_l_is_name (hr.mono (by decide)) gu (by rfl) T.m_l_is_name T.F_l_is_name.kp T.d_l_is_name (da_cons (dv 1) da_nil))))
      dss_nil)
    (dss_one (ds_ret (de_cmp (od_in hu2) (dv 1) (de_tup (da_cons de_str (da_cons de_str (da_cons de_str (da_cons de_str (da_cons de_str (da_cons de_str (da_cons de_str (da_cons de_str da_nil))))))))) (by rfl))))))

/-! l_spoilt -/
def t_l_spoilt : DTS := (dSeq (dAsg (dLstF (dCons (dC (.str "")) (dCons (dC (.str "stay")) (dCons (dC (.str "on")) (dCons (dC (.str "back")) (dCons (dC (.str "at")) (dCons (dC (.str "off")) (dCons (dC (.str "then")) (dCons (dC (.str "either")) (dCons (dC (.str "many")) (dCons (dC (.str "*")) (dCons (dC (.str "0")) (dCons (dC (.str "1")) (dCons (dC (.str "2")) (dCons (dC (.str "3")) (dCons (dC (.str "03")) (dCons (dC (.str "39")) dNil))))))))))))))))) (dGN 3))
    (dSeq (dAsg (dOp dAddF (dVar 3) (dLstF (dCons (dC (.str "40")) (dCons (dC (.str "100")) (dCons (dC (.str "-1")) (dCons (dC (.str "Stay")) (dCons (dC (.str "no")) (dCons (dC (.str "a")) (dCons (dC (.str "abcdefghi")) (dCons (dC (.str "A")) (dCons (dC (.str "**")) dNil))))))))))) (dGN 3))
    (dSeq (dAsg (dOp dAddF (dOp dAddF (dOp dAddF (dVar 3) (dLstF (dCons (dC (.str "a*")) (dCons (dC (.str "1a")) (dCons (dC (.str "or")) (dCons (dC (.str "step")) (dCons (dC (.str "-")) dNil))))))) (dOp dIxS (dVar 2) (dC (.int 1)))) (dOp dIxS (dVar 2) (dC (.int 2)))) (dGN 3))
    (dSeq (dAsg (dCall sp_l_next (dCons (dVar 0) (dCons (dCB cLen (dCons (dVar 1) dNil)) dNil))) (dGN 4))
    (dSeq (dAsg (dOp dIxS (dVar 1) (dVar 4)) (dGN 5))
    (dSeq (dAsg (dCall sp_l_next (dCons (dVar 0) (dCons (dOp dAddF (dCB cLen (dCons (dVar 5) dNil)) (dC (.int 1))) dNil))) (dGN 6))
    (dSeq (dAsg (dOp dIxS (dC (.str "ayz A0*")) (dCall sp_l_next (dCons (dVar 0) (dCons (dC (.int 7)) dNil)))) (dGN 7))
    (dSeq (dAsg (dOp dIxS (dVar 3) (dCall sp_l_next (dCons (dVar 0) (dCons (dCB cLen (dCons (dVar 3) dNil)) dNil)))) (dGN 8))
    (dSeq (dAsg (dSlF (dVar 1) dNoP (dSoP (dVar 4))) (dGN 9))
    (dSeq (dAsg (dSlF (dVar 1) (dSoP (dOp dAddF (dVar 4) (dC (.int 1)))) dNoP) (dGN 10))
    (dSeq (dAsg (dLst (dCons (dOp dAddF (dVar 9) (dVar 10)) (dCons (dOp dAddF (dOp dAddF (dVar 9) (dLstF (dCons (dVar 5) (dCons (dVar 5) dNil)))) (dVar 10)) dNil))) (dGN 11))
    (dSeq (dAsg (dOp dAdd (dVar 11) (dLstF (dCons (dOp dAddF (dVar 1) (dLstF (dCons (dVar 8) dNil))) (dCons (dVar 9) dNil)))) (dGN 11))
    (dSeq (dDrop (dBM "list" mAppend (dVar 11) (dCons (dOp dAddF (dOp dAddF (dOp dAddF (dVar 9) (dSlF (dVar 10) dNoP (dSoP (dC (.int 1))))) (dLstF (dCons (dVar 5) dNil))) (dSlF (dVar 10) (dSoP (dC (.int 1))) dNoP)) dNil)))
    (dSeq (dAsg (dOp dAdd (dVar 11) (dFz (dOp dMul (dLst (dCons (dOp dAddF (dOp dAddF (dVar 9) (dLstF (dCons (dVar 8) dNil))) (dVar 10)) dNil)) (dC (.int 4))))) (dGN 11))
    (dSeq (dDrop (dBM "list" mAppend (dVar 11) (dCons (dOp dAddF (dOp dAddF (dVar 9) (dLstF (dCons (dVar 8) (dCons (dVar 5) dNil)))) (dVar 10)) dNil)))
    (dSeq (dDrop (dBM "list" mAppend (dVar 11) (dCons (dOp dAddF (dOp dAddF (dVar 9) (dLstF (dCons (dOp dAddF (dOp dAddF (dSlF (dVar 5) dNoP (dSoP (dVar 6))) (dVar 7)) (dSlF (dVar 5) (dSoP (dVar 6)) dNoP)) dNil))) (dVar 10)) dNil)))
    (dSeq (dDrop (dBM "list" mAppend (dVar 11) (dCons (dOp dAddF (dOp dAddF (dVar 9) (dLstF (dCons (dOp dAddF (dOp dAddF (dSlF (dVar 5) dNoP (dSoP (dVar 6))) (dVar 7)) (dSlF (dVar 5) (dSoP (dOp dAddF (dVar 6) (dC (.int 1)))) dNoP)) dNil))) (dVar 10)) dNil)))
    (dSeq (dDrop (dBM "list" mAppend (dVar 11) (dCons (dOp dAddF (dOp dAddF (dVar 9) (dLstF (dCons (dOp dAddF (dSlF (dVar 5) dNoP (dSoP (dVar 6))) (dSlF (dVar 5) (dSoP (dOp dAddF (dVar 6) (dC (.int 1)))) dNoP)) dNil))) (dVar 10)) dNil)))
    (dRet (dOp dIxS (dVar 11) (dCall sp_l_next (dCons (dVar 0) (dCons (dC (.int 13)) dNil)))))))))))))))))))))))
abbrev N_l_spoilt : List Str := ["_law_feed_here", "_law_words_here", "_law_names_here", "_law_some", "_law_at", "_law_word", "_law_spot", "_law_sign", "_law_other", "_law_head", "_law_tail", "_law_bent"]
theorem ok_l_spoilt {P : Program} {w : World} {K : PySem.W.Frag} {mg : Str → Option Value} {base : Heap} (T : Txt w K mg) (G_l_next : DFn P w K mg base 1 T.a_l_next T.f_l_next ["_law_feed_here", "_law_many"] sp_l_next) {sp : DSp}
    (mono : SpMono sp) (len : ∀ ds S Q E, sp ds S Q E → ds.length = 3)
    (h : ∀ ds S Q E, sp ds S Q E → t_l_spoilt (dEnd Q E) (dstart ["_law_feed_here", "_law_words_here", "_law_names_here", "_law_some", "_law_at", "_law_word", "_law_spot", "_law_sign", "_law_other", "_law_head", "_law_tail", "_law_bent"] ds) S) : DFn P w K mg base 2 T.a_l_spoilt T.f_l_spoilt ["_law_feed_here", "_law_words_here", "_law_names_here"] sp := by
  refine dfn_of2 (t := t_l_spoilt) T.F_l_spoilt sc_l_spoilt mono len (fun cdv A outer s H E hr gu => ?_) h
  have hu1 := hu_of hr
  have hu2 := hu_big hr
  exact (dss_cons (ds_set (i := 3) sc_l_spoilt.nd rfl (by first | exact Or.inl rfl | exact Or.inr rfl) (de_lstF (da_cons de_str (da_cons de_str (da_cons de_str (da_cons de_str (da_cons de_str (da_cons de_str (da_cons de_str (da_cons de_str (da_cons de_str (da_cons de_str (da_cons de_str (da_cons de_str (da_cons de_str (da_cons de_str (da_cons de_str (da_cons de_str da_nil))))))))))))))))))
    (dss_cons (ds_set (i := 3) sc_l_spoilt.nd rfl (by first | exact Or.inl rfl | exact Or.inr rfl) (de_op od_addF (dv 3) (de_lstF (da_cons de_str (da_cons de_str (da_cons de_str (da_cons de_str (da_cons de_str (da_cons de_str (da_cons de_str (da_cons de_str (da_cons de_str da_nil))))))))))))
    (dss_cons (ds_set (i := 3) sc_l_spoilt.nd rfl (by first | exact Or.inl rfl | exact Or.inr rfl) (de_op od_addF (de_op od_addF (de_op od_addF (dv 3) (de_lstF (da_cons de_str (da_cons de_str (da_cons de_str (da_cons de_str (da_cons de_str da_nil))))))) (de_ix (ixD_any hu2) (dv 2) de_int)) (de_ix (ixD_any hu2) (dv 2) de_int)))
    (dss_cons (ds_set (i := 4) sc_l_spoilt.nd rfl (by first | exact Or.inl rfl | exact Or.inr rfl) (de_call G_l_next (hr.mono (by decide)) gu (by rfl) T.m_l_next T.F_l_next.kp T.d_l_next (da_cons (dv 0) (da_cons (de_callB cd_len (by rfl) T.b_len (by decide +kernel) (da_cons (dv 1) da_nil)) da_nil))))
    (dss_cons (ds_set (i := 5) sc_l_spoilt.nd rfl (by first | exact Or.inl rfl | exact Or.inr rfl) (de_ix (ixD_any hu2) (dv 1) (dv 4)))
    (dss_cons (ds_set (i := 6) sc_l_spoilt.nd rfl (by first | exact Or.inl rfl | exact Or.inr rfl) (de_call G_l_next (hr.mono (by decide)) gu (by rfl) T.m_l_next T.F_l_next.kp T.d_l_next (da_cons (dv 0) (da_cons (de_op od_addF (de_callB cd_len (by rfl) T.b_len (by decide +kernel) (da_cons (dv 5) da_nil)) de_int) da_nil))))
    (dss_cons (ds_set (i := 7) sc_l_spoilt.nd rfl (by first | exact Or.inl rfl | exact Or.inr rfl) (de_ix (ixD_any hu2) de_str (de_call G_l_next (hr.mono (by decide)) gu (by rfl) T.m_l_next T.F_l_next.kp T.d_l_next (da_cons (dv 0) (da_cons de_int da_nil)))))
    (dss_cons (ds_set (i := 8) sc_l_spoilt.nd rfl (by first | exact Or.inl rfl | exact Or.inr rfl) (de_ix (ixD_any hu2) (dv 3) (de_call G_l_next (hr.mono (by decide)) gu (by rfl) T.m_l_next T.F_l_next.kp T.d_l_next (da_cons (dv 0) (da_cons (de_callB cd_len (by rfl) T.b_len (by decide +kernel) (da_cons (dv 3) da_nil)) da_nil)))))
    (dss_cons (ds_set (i := 9) sc_l_spoilt.nd rfl (by first | exact Or.inl rfl | exact Or.inr rfl) (de_slF (dv 1) do_none (do_some (dv 4))))
    (dss_cons (ds_set (i := 10) sc_l_spoilt.nd rfl (by first | exact Or.inl rfl | exact Or.inr rfl) (de_slF (dv 1) (do_some (de_op od_addF (dv 4) de_int)) do_none))
    (dss_cons (ds_set (i := 11) sc_l_spoilt.nd rfl (by first | exact Or.inl rfl | exact Or.inr rfl) (de_lst (da_cons (de_op od_addF (dv 9) (dv 10)) (da_cons (de_op od_addF (de_op od_addF (dv 9) (de_lstF (da_cons (dv 5) (da_cons (dv 5) da_nil)))) (dv 10)) da_nil))))
    (dss_cons (ds_set (i := 11) sc_l_spoilt.nd rfl (by first | exact Or.inl rfl | exact Or.inr rfl) (de_op od_add (dv 11) (de_lstF (da_cons (de_op od_addF (dv 1) (de_lstF (da_cons (dv 8) da_nil))) (da_cons (dv 9) da_nil)))))
    (dss_cons (ds_expr (de_bm PySem.F.plainAttrs_list PySem.F.slot_list_append PySem.F.type_list_append md_append (dv 11) (da_cons (de_op od_addF (de_op od_addF (de_op od_addF (dv 9) (de_slF (dv 10) do_none (do_some de_int))) (de_lstF (da_cons (dv 5) da_nil))) (de_slF (dv 10) (do_some de_int) do_none)) da_nil)))
    (dss_cons (ds_set (i := 11) sc_l_spoilt.nd rfl (by first | exact Or.inl rfl | exact Or.inr rfl) (de_op od_add (dv 11) (de_fz (de_op od_mul (de_lst (da_cons (de_op od_addF (de_op od_addF (dv 9) (de_lstF (da_cons (dv 8) da_nil))) (dv 10)) da_nil)) de_int))))
    (dss_cons (ds_expr (de_bm PySem.F.plainAttrs_list PySem.F.slot_list_append PySem.F.type_list_append md_append (dv 11) (da_cons (de_op od_addF (de_op od_addF (dv 9) (de_lstF (da_cons (dv 8) (da_cons (dv 5) da_nil)))) (dv 10)) da_nil)))
    (dss_cons (ds_expr (de_bm PySem.F.plainAttrs_list PySem.F.slot_list_append PySem.F.type_list_append md_append (dv 11) (da_cons (de_op od_addF (de_op od_addF (dv 9) (de_lstF (da_cons (de_op od_addF (de_op od_addF (de_slF (dv 5) do_none (do_some (dv 6))) (dv 7)) (de_slF (dv 5) (do_some (dv 6)) do_none)) da_nil))) (dv 10)) da_nil)))
    (dss_cons (ds_expr (de_bm PySem.F.plainAttrs_list PySem.F.slot_list_append PySem.F.type_list_append md_append (dv 11) (da_cons (de_op od_addF (de_op od_addF (dv 9) (de_lstF (da_cons (de_op od_addF (de_op od_addF (de_slF (dv 5) do_none (do_some (dv 6))) (dv 7)) (de_slF (dv 5) (do_some (de_op od_addF (dv 6) de_int)) do_none)) da_nil))) (dv 10)) da_nil)))
    (dss_cons (ds_expr (de_bm PySem.F.plainAttrs_list PySem.F.slot_list_append PySem.F.type_list_append md_append (dv 11) (da_cons (de_op od_addF (de_op od_addF (dv 9) (de_lstF (da_cons (de_op od_addF (de_slF (dv 5) do_none (do_some (dv 6))) (de_slF (dv 5) (do_some (de_op od_addF (dv 6) de_int)) do_none)) da_nil))) (dv 10)) da_nil)))
    (dss_one (ds_ret (de_ix (ixD_any hu2) (dv 11) (de_call G_l_next (hr.mono (by decide)) gu (by rfl) T.m_l_next T.F_l_next.kp T.d_l_next (da_cons (dv 0) (da_cons de_int da_nil))))))))))))))))))))))))

/-! l_great -/
def t_l_great : DTS := (dSeq (dIf (dTest (dOp (dEq false) (dCall sp_l_next (dCons (dVar 0) (dCons (dC (.int 2)) dNil))) (dC (.int 0))))
      (dSeq (dAsg (dOp dAddF (dC (.int 37)) (dCall sp_l_next (dCons (dVar 0) (dCons (dC (.int 4)) dNil)))) (dGN 1))
    (dRet (dOp dAddF (dLstF (dCons (dC (.str "then")) (dCons (dCB cStr (dCons (dVar 1) dNil)) dNil))) (dFz (dOp dMul (dLst (dCons (dC (.str "stay")) dNil)) (dVar 1))))))
      dNx)
    (dSeq (dAsg (dLstF dNil) (dGN 2))
    (dSeq (dFor (dRng1 (dCons (dOp dAddF (dC (.int 8)) (dCall sp_l_next (dCons (dVar 0) (dCons (dC (.int 4)) dNil)))) dNil)) (dGN 3)
      (dAsg (dOp dAddF (dVar 2) (dOp dIxS (dLstF (dCons (dLstF (dCons (dC (.str "many")) dNil)) (dCons (dLstF (dCons (dC (.str "then")) (dCons (dC (.str "1")) dNil))) (dCons (dLstF (dCons (dC (.str "either")) (dCons (dC (.str "1")) dNil))) dNil)))) (dCall sp_l_next (dCons (dVar 0) (dCons (dC (.int 3)) dNil))))) (dGN 2)))
    (dRet (dOp dAddF (dVar 2) (dLstF (dCons (dC (.str "stay")) dNil)))))))
abbrev N_l_great : List Str := ["_law_feed_here", "_law_many", "_law_words_here", "_law_k"]
theorem ok_l_great {P : Program} {w : World} {K : PySem.W.Frag} {mg : Str → Option Value} {base : Heap} (T : Txt w K mg) (G_l_next : DFn P w K mg base 1 T.a_l_next T.f_l_next ["_law_feed_here", "_law_many"] sp_l_next) {sp : DSp}
    (mono : SpMono sp) (len : ∀ ds S Q E, sp ds S Q E → ds.length = 1)
    (h : ∀ ds S Q E, sp ds S Q E → t_l_great (dEnd Q E) (dstart ["_law_feed_here", "_law_many", "_law_words_here", "_law_k"] ds) S) : DFn P w K mg base 2 T.a_l_great T.f_l_great ["_law_feed_here"] sp := by
  refine dfn_of2 (t := t_l_great) T.F_l_great sc_l_great mono len (fun cdv A outer s H E hr gu => ?_) h
  have hu1 := hu_of hr
  have hu2 := hu_big hr
  exact (dss_cons (ds_if (dt_cmp (od_eq hr.units) (de_call G_l_next (hr.mono (by decide)) gu (by rfl) T.m_l_next T.F_l_next.kp T.d_l_next (da_cons (dv 0) (da_cons de_int da_nil))) de_int (nomark _))
      (dss_cons (ds_set (i := 1) sc_l_great.nd rfl (by first | exact Or.inl rfl | exact Or.inr rfl) (de_op od_addF de_int (de_call G_l_next (hr.mono (by decide)) gu (by rfl) T.m_l_next T.F_l_next.kp T.d_l_next (da_cons (dv 0) (da_cons de_int da_nil)))))
    (dss_one (ds_ret (de_op od_addF (de_lstF (da_cons de_str (da_cons (de_callTy cd_str (by rfl) T.b_str (by decide +kernel) (da_cons (dv 1) da_nil)) da_nil))) (de_fz (de_op od_mul (de_lst (da_cons de_str da_nil)) (dv 1)))))))
      dss_nil)
    (dss_cons (ds_set (i := 2) sc_l_great.nd rfl (by first | exact Or.inl rfl | exact Or.inr rfl) (de_lstF da_nil))
    (dss_cons (ds_for (passes_of rfl) rfl (di_rng1 (by rfl) T.b_range (da_cons (de_op od_addF de_int (de_call G_l_next (hr.mono (by decide)) gu (by rfl) T.m_l_next T.F_l_next.kp T.d_l_next (da_cons (dv 0) (da_cons de_int da_nil)))) da_nil)) (dg_name (i := 3) sc_l_great.nd rfl (by first | exact Or.inl rfl | exact Or.inr rfl))
      (dss_one (ds_set (i := 2) sc_l_great.nd rfl (by first | exact Or.inl rfl | exact Or.inr rfl) (de_op od_addF (dv 2) (de_ix (ixD_any hu2) (de_lstF (da_cons (de_lstF (da_cons de_str da_nil)) (da_cons (de_lstF (da_cons de_str (da_cons de_str da_nil))) (da_cons (de_lstF (da_cons de_str (da_cons de_str da_nil))) da_nil)))) (de_call G_l_next (hr.mono (by decide)) gu (by rfl) T.m_l_next T.F_l_next.kp T.d_l_next (da_cons (dv 0) (da_cons de_int da_nil))))))))
    (dss_one (ds_ret (de_op od_addF (dv 2) (de_lstF (da_cons de_str da_nil))))))))

/-! Reader_next_word -/
def t_Reader_next_word (C_NoText : Addr) (C_Reader : Addr) : DTS := (dSeq (dIf (dTest (dOp (dEq false) (dFld C_Reader "at_word" (dVar 0)) (dCB cLen (dCons (dFld C_Reader "words_read" (dVar 0)) dNil))))
      (dRaise C_NoText (sp_NoText_init C_NoText) (dCons (dFld C_Reader "at_word" (dVar 0)) dNil))
      dNx)
    (dSeq (dPutF C_Reader "at_word" (dVar 0) (dOp dAddF (dFld C_Reader "at_word" (dVar 0)) (dC (.int 1))))
    (dRet (dOp dIxS (dFld C_Reader "words_read" (dVar 0)) (dOp rSub (dFld C_Reader "at_word" (dVar 0)) (dC (.int 1)))))))
abbrev N_Reader_next_word : List Str := ["self"]
theorem ok_Reader_next_word {P : Program} {w : World} {K : PySem.W.Frag} {mg : Str → Option Value} {base : Heap} (T : Txt w K mg) (G_NoText_init : DFn P w K mg base 1 T.a_NoText_init T.f_NoText_init ["self", "at"] (sp_NoText_init T.C_NoText)) {sp : DSp}
    (mono : SpMono sp) (len : ∀ ds S Q E, sp ds S Q E → ds.length = 1)
    (h : ∀ ds S Q E, sp ds S Q E → (t_Reader_next_word T.C_NoText T.C_Reader) (dEnd Q E) (dstart ["self"] ds) S) : DFn P w K mg base 3 T.a_Reader_next_word T.f_Reader_next_word ["self"] sp := by
  refine dfn_of2 (t := (t_Reader_next_word T.C_NoText T.C_Reader)) T.F_Reader_next_word sc_Reader_next_word mono len (fun cdv A outer s H E hr gu => ?_) h
  have hu1 := hu_of hr
  have hu2 := hu_big hr
  exact (dss_cons (ds_if (dt_cmp (od_eq hr.units) (de_fld (dv 0) T.c_Reader T.n_Reader_at_word) (de_callB cd_len (by rfl) T.b_len (by decide +kernel) (da_cons (de_fld (dv 0) T.c_Reader T.n_Reader_words_read) da_nil)) (nomark _))
      (dss_one (ds_raise rfl T.x_NoText G_NoText_init (hr.mono (by omega)) gu T.d_NoText_init (by rfl) T.g_NoText (da_cons (de_fld (dv 0) T.c_Reader T.n_Reader_at_word) da_nil)))
      dss_nil)
    (dss_cons (ds_fput (dv 0) (de_op od_addF (de_fld (dv 0) T.c_Reader T.n_Reader_at_word) de_int) T.c_Reader T.n_Reader_at_word)
    (dss_one (ds_ret (de_ix (ixD_any hu2) (de_fld (dv 0) T.c_Reader T.n_Reader_words_read) (de_op od_sub (de_fld (dv 0) T.c_Reader T.n_Reader_at_word) de_int))))))
end K11X
set_option maxRecDepth 100000
set_option maxHeartbeats 4000000
namespace K11X
open PySem PySem.Spec L2
open L11
open Sh hiding N_parts_of r_parts_of t_parts_of
open Dt hiding delo_upo nkeys

/-! Reader_ask_last -/
def t_Reader_ask_last (C_NoText : Addr) (C_Reader : Addr) : DTS := (dIf (dNot (dTest (dVar 1)))
      (dRaise C_NoText (sp_NoText_init C_NoText) (dCons (dOp rSub (dFld C_Reader "at_word" (dVar 0)) (dC (.int 1))) dNil))
      dNx)
abbrev N_Reader_ask_last : List Str := ["self", "good"]
theorem ok_Reader_ask_last {P : Program} {w : World} {K : PySem.W.Frag} {mg : Str → Option Value} {base : Heap} (T : Txt w K mg) (G_NoText_init : DFn P w K mg base 1 T.a_NoText_init T.f_NoText_init ["self", "at"] (sp_NoText_init T.C_NoText)) {sp : DSp}
    (mono : SpMono sp) (len : ∀ ds S Q E, sp ds S Q E → ds.length = 2)
    (h : ∀ ds S Q E, sp ds S Q E → (t_Reader_ask_last T.C_NoText T.C_Reader) (dEnd Q E) (dstart ["self", "good"] ds) S) : DFn P w K mg base 3 T.a_Reader_ask_last T.f_Reader_ask_last ["self", "good"] sp := by
  refine dfn_of2 (t := (t_Reader_ask_last T.C_NoText T.C_Reader)) T.F_Reader_ask_last sc_Reader_ask_last mono len (fun cdv A outer s H E hr gu => ?_) h
  have hu1 := hu_of hr
  have hu2 := hu_big hr
  exact (dss_one (ds_if (dt_not (dt_val (dv 1)))
      (dss_one (ds_raise rfl T.x_NoText G_NoText_init (hr.mono (by omega)) gu T.d_NoText_init (by rfl) T.g_NoText (da_cons (de_op od_sub (de_fld (dv 0) T.c_Reader T.n_Reader_at_word) de_int) da_nil)))
      dss_nil))

/-! Reader_ask_end -/
def t_Reader_ask_end (C_NoText : Addr) (C_Reader : Addr) : DTS := (dIf (dTest (dOp rLt (dFld C_Reader "at_word" (dVar 0)) (dCB cLen (dCons (dFld C_Reader "words_read" (dVar 0)) dNil))))
      (dRaise C_NoText (sp_NoText_init C_NoText) (dCons (dFld C_Reader "at_word" (dVar 0)) dNil))
      dNx)
abbrev N_Reader_ask_end : List Str := ["self"]
theorem ok_Reader_ask_end {P : Program} {w : World} {K : PySem.W.Frag} {mg : Str → Option Value} {base : Heap} (T : Txt w K mg) (G_NoText_init : DFn P w K mg base 1 T.a_NoText_init T.f_NoText_init ["self", "at"] (sp_NoText_init T.C_NoText)) {sp : DSp}
    (mono : SpMono sp) (len : ∀ ds S Q E, sp ds S Q E → ds.length = 1)
    (h : ∀ ds S Q E, sp ds S Q E → (t_Reader_ask_end T.C_NoText T.C_Reader) (dEnd Q E) (dstart ["self"] ds) S) : DFn P w K mg base 3 T.a_Reader_ask_end T.f_Reader_ask_end ["self"] sp := by
  refine dfn_of2 (t := (t_Reader_ask_end T.C_NoText T.C_Reader)) T.F_Reader_ask_end sc_Reader_ask_end mono len (fun cdv A outer s H E hr gu => ?_) h
  have hu1 := hu_of hr
  have hu2 := hu_big hr
  exact (dss_one (ds_if (dt_cmp od_lt (de_fld (dv 0) T.c_Reader T.n_Reader_at_word) (de_callB cd_len (by rfl) T.b_len (by decide +kernel) (da_cons (de_fld (dv 0) T.c_Reader T.n_Reader_words_read) da_nil)) (nomark _))
      (dss_one (ds_raise rfl T.x_NoText G_NoText_init (hr.mono (by omega)) gu T.d_NoText_init (by rfl) T.g_NoText (da_cons (de_fld (dv 0) T.c_Reader T.n_Reader_at_word) da_nil)))
      dss_nil))

/-! l_wrong -/
def t_l_wrong : DTS := (dSeq (dAsg (dLst (dCons (dTup (dCons (dC (.str "part")) (dCons (dC (.int 1)) dNil))) dNil)) (dGN 1))
    (dSeq (dAsg (dC (.int 0)) (dGN 2))
    (dSeq (dFor (dRng1 (dCons (dCB cLen (dCons (dVar 0) dNil)) dNil)) (dGN 3)
      (dSeq (dIf (dTest (dOp (dEq false) (dVar 1) (dLstF dNil)))
      (dRet (dVar 3))
      dNx)
    (dSeq (dAsg (dBM "list" mPop (dVar 1) dNil) (dGTupA 2 (dGCons (dGN 4) (dGCons (dGN 5) dGNil))))
    (dIf (dTest (dOp (dEq false) (dVar 4) (dC (.str "number"))))
      (dSeq (dIf (dTest (dOp rLt (dCall sp_l_number (dCons (dOp dIxS (dVar 0) (dVar 3)) dNil)) (dC (.int 0))))
      (dRet (dVar 3))
      dNx)
    (dAsg (dOp dAdd (dVar 1) (dFz (dOp dMul (dLst (dCons (dTup (dCons (dC (.str "part")) (dCons (dOp dAddF (dVar 5) (dC (.int 1))) dNil))) dNil)) (dCall sp_l_number (dCons (dOp dIxS (dVar 0) (dVar 3)) dNil))))) (dGN 1)))
      (dIf (dNot (dTest (dCall sp_l_fit (dCons (dVar 4) (dCons (dOp dIxS (dVar 0) (dVar 3)) dNil)))))
      (dRet (dVar 3))
      (dIf (dTest (dOp (dEq false) (dVar 4) (dC (.str "part"))))
      (dSeq (dAsg (dOp dAddF (dVar 2) (dC (.int 1))) (dGN 2))
    (dSeq (dIf (dOr (dTest (dOp rGt (dVar 5) (dC (.int 10)))) (dTest (dOp rGt (dVar 2) (dC (.int 40)))))
      (dRet (dVar 3))
      dNx)
    (dAsg (dOp dAdd (dVar 1) (dCall sp_l_wanted (dCons (dOp dIxS (dVar 0) (dVar 3)) (dCons (dVar 5) dNil)))) (dGN 1))))
      dNx))))))
    (dSeq (dIf (dTest (dOp (dEq true) (dVar 1) (dLstF dNil)))
      (dRet (dCB cLen (dCons (dVar 0) dNil)))
      dNx)
    (dRet (dC .non))))))
abbrev N_l_wrong : List Str := ["_law_words_here", "_law_wanted_here", "_law_parts", "_law_at", "_law_sort", "_law_deep"]
theorem ok_l_wrong {P : Program} {w : World} {K : PySem.W.Frag} {mg : Str → Option Value} {base : Heap} (T : Txt w K mg) (G_l_number : DFn P w K mg base 1 T.a_l_number T.f_l_number ["_law_word"] sp_l_number) (G_l_wanted : DFn P w K mg base 1 T.a_l_wanted T.f_l_wanted ["_law_word", "_law_deep"] sp_l_wanted) (G_l_fit : DFn P w K mg base 2 T.a_l_fit T.f_l_fit ["_law_sort", "_law_word"] sp_l_fit) {sp : DSp}
    (mono : SpMono sp) (len : ∀ ds S Q E, sp ds S Q E → ds.length = 1)
    (h : ∀ ds S Q E, sp ds S Q E → t_l_wrong (dEnd Q E) (dstart ["_law_words_here", "_law_wanted_here", "_law_parts", "_law_at", "_law_sort", "_law_deep"] ds) S) : DFn P w K mg base 3 T.a_l_wrong T.f_l_wrong ["_law_words_here"] sp := by
  refine dfn_of2 (t := t_l_wrong) T.F_l_wrong sc_l_wrong mono len (fun cdv A outer s H E hr gu => ?_) h
  have hu1 := hu_of hr
  have hu2 := hu_big hr
  exact (dss_cons (ds_set (i := 1) sc_l_wrong.nd rfl (by first | exact Or.inl rfl | exact Or.inr rfl) (de_lst (da_cons (de_tup (da_cons de_str (da_cons de_int da_nil))) da_nil)))
    (dss_cons (ds_set (i := 2) sc_l_wrong.nd rfl (by first | exact Or.inl rfl | exact Or.inr rfl) de_int)
    (dss_cons (ds_for (passes_of rfl) rfl (di_rng1 (by rfl) T.b_range (da_cons (de_callB cd_len (by rfl) T.b_len (by decide +kernel) (da_cons (dv 0) da_nil)) da_nil)) (dg_name (i := 3) sc_l_wrong.nd rfl (by first | exact Or.inl rfl | exact Or.inr rfl))
      (dss_cons (ds_if (dt_cmp (od_eq hr.units) (dv 1) (de_lstF da_nil) (nomark _))
      (dss_one (ds_ret (dv 3)))
      dss_nil)
    (dss_cons (ds_asg (de_bm0 PySem.F.plainAttrs_list PySem.F.slot_list_pop PySem.F.type_list_pop md_pop (dv 1)) (dg_tupA rfl (dgs_cons (dg_name (i := 4) sc_l_wrong.nd rfl (by first | exact Or.inl rfl | exact Or.inr rfl)) (dgs_cons (dg_name (i := 5) sc_l_wrong.nd rfl (by first | exact Or.inl rfl | exact Or.inr rfl)) dgs_nil))))
    (dss_one (ds_if (dt_cmp (od_eq hr.units) (dv 4) de_str (nomark _))
      (dss_cons (ds_if (dt_cmp od_lt (de_call G_l_number (hr.mono (by decide)) gu (by rfl) T.m_l_number T.F_l_number.kp T.d_l_number (da_cons (de_ix (ixD_any hu2) (dv 0) (dv 3)) da_nil)) de_int (nomark _))
      (dss_one (ds_ret (dv 3)))
      dss_nil)
    (dss_one (ds_set (i := 1) sc_l_wrong.nd rfl (by first | exact Or.inl rfl | exact Or.inr rfl) (de_op od_add (dv 1) (de_fz (de_op od_mul (de_lst (da_cons (de_tup (da_cons de_str (da_cons (de_op od_addF (dv 5) de_int) da_nil))) da_nil)) (de_call G_l_number (hr.mono (by decide)) gu (by rfl) T.m_l_number T.F_l_number.kp T.d_l_number (da_cons (de_ix (ixD_any hu2) (dv 0) (dv 3)) da_nil))))))))
      (dss_one (ds_if (dt_not (dt_val (de_call G_l_fit (hr.mono (by decide)) gu (by rfl) T.m_l_fit T.F_l_fit.kp T.d_l_fit (da_cons (dv 4) (da_cons (de_ix (ixD_any hu2) (dv 0) (dv 3)) da_nil)))))
      (dss_one (ds_ret (dv 3)))
      (dss_one (ds_if (dt_cmp (od_eq hr.units) (dv 4) de_str (nomark _))
      (dss_cons (ds_set (i := 2) sc_l_wrong.nd rfl (by first | exact Or.inl rfl | exact Or.inr rfl) (de_op od_addF (dv 2) de_int))
    (dss_cons (ds_if (DWt.pt (dw_or (dt_cmp od_gt (dv 5) de_int (nomark _)) (dw_or1 (dt_cmp od_gt (dv 2) de_int (nomark _)))))
      (dss_one (ds_ret (dv 3)))
      dss_nil)
    (dss_one (ds_set (i := 1) sc_l_wrong.nd rfl (by first | exact Or.inl rfl | exact Or.inr rfl) (de_op od_add (dv 1) (de_call G_l_wanted (hr.mono (by decide)) gu (by rfl) T.m_l_wanted T.F_l_wanted.kp T.d_l_wanted (da_cons (de_ix (ixD_any hu2) (dv 0) (dv 3)) (da_cons (dv 5) da_nil))))))))
      dss_nil)))))))))
    (dss_cons (ds_if (dt_cmp (od_ne hr.units) (dv 1) (de_lstF da_nil) (nomark _))
      (dss_one (ds_ret (de_callB cd_len (by rfl) T.b_len (by decide +kernel) (da_cons (dv 0) da_nil))))
      dss_nil)
    (dss_one (ds_ret de_non))))))

/-! Reader_name_next -/
def t_Reader_name_next (C_NoText : Addr) (C_Reader : Addr) : DTS := (dSeq (dAsg (dMeth C_Reader "next_word" (sp_Reader_next_word C_NoText C_Reader) (dVar 0) dNil) (dGN 1))
    (dSeq (dDrop (dMeth C_Reader "ask_last" (sp_Reader_ask_last C_NoText C_Reader) (dVar 0) (dCons (dCall sp_is_name (dCons (dVar 1) dNil)) dNil)))
    (dRet (dVar 1))))
abbrev N_Reader_name_next : List Str := ["self", "word"]
theorem ok_Reader_name_next {P : Program} {w : World} {K : PySem.W.Frag} {mg : Str → Option Value} {base : Heap} (T : Txt w K mg) (G_is_name : DFn P w K mg base 1 T.a_is_name T.f_is_name ["thing"] sp_is_name) (G_Reader_next_word : DFn P w K mg base 3 T.a_Reader_next_word T.f_Reader_next_word ["self"] (sp_Reader_next_word T.C_NoText T.C_Reader)) (G_Reader_ask_last : DFn P w K mg base 3 T.a_Reader_ask_last T.f_Reader_ask_last ["self", "good"] (sp_Reader_ask_last T.C_NoText T.C_Reader)) {sp : DSp}
    (mono : SpMono sp) (len : ∀ ds S Q E, sp ds S Q E → ds.length = 1)
    (h : ∀ ds S Q E, sp ds S Q E → (t_Reader_name_next T.C_NoText T.C_Reader) (dEnd Q E) (dstart ["self", "word"] ds) S) : DFn P w K mg base 4 T.a_Reader_name_next T.f_Reader_name_next ["self"] sp := by
  refine dfn_of2 (t := (t_Reader_name_next T.C_NoText T.C_Reader)) T.F_Reader_name_next sc_Reader_name_next mono len (fun cdv A outer s H E hr gu => ?_) h
  have hu1 := hu_of hr
  have hu2 := hu_big hr
  exact (dss_cons (ds_set (i := 1) sc_Reader_name_next.nd rfl (by first | exact Or.inl rfl | exact Or.inr rfl) (de_meth0 (dv 0) T.c_Reader T.M_Reader_next_word G_Reader_next_word (hr.mono (by decide)) gu T.d_Reader_next_word))
    (dss_cons (ds_expr (de_meth (dv 0) T.c_Reader T.M_Reader_ask_last G_Reader_ask_last (hr.mono (by decide)) gu T.d_Reader_ask_last (da_cons (de_call G_is_name (hr.mono (by decide)) gu (by rfl) T.m_is_name T.F_is_name.kp T.d_is_name (da_cons (dv 1) da_nil)) da_nil)))
    (dss_one (ds_ret (dv 1)))))

/-! l_pattern -/
def t_l_pattern (spR : DSp) : DTS := (dSeq (dAsg (dCall sp_l_next (dCons (dVar 0) (dCons (dC (.int 8)) dNil))) (dGN 3))
    (dSeq (dIf (dOr (dTest (dOp (dEq false) (dVar 2) (dC (.int 0)))) (dTest (dOp rLt (dVar 3) (dC (.int 2)))))
      (dRet (dCall sp_l_leaf (dCons (dVar 0) (dCons (dVar 1) dNil))))
      dNx)
    (dSeq (dIf (dTest (dOp rLt (dVar 3) (dC (.int 4))))
      (dRet (dTup (dCons (dC (.str "many")) (dCons (dCall spR (dCons (dVar 0) (dCons (dVar 1) (dCons (dOp rSub (dVar 2) (dC (.int 1))) dNil)))) dNil))))
      dNx)
    (dSeq (dAsg (dOp dIxS (dLstF (dCons (dC (.int 2)) (dCons (dC (.int 1)) (dCons (dC (.int 3)) (dCons (dC (.int 0)) (dCons (dC (.int 2)) (dCons (dC (.int 2)) dNil))))))) (dCall sp_l_next (dCons (dVar 0) (dCons (dC (.int 6)) dNil)))) (dGN 4))
    (dSeq (dAsg (dCB cTuple (dCons (dFz (dLc (dRng1 (dCons (dVar 4) dNil)) (dGN 6) dYes (dCall spR (dCons (dVar 0) (dCons (dVar 1) (dCons (dOp rSub (dVar 2) (dC (.int 1))) dNil)))) [6])) dNil)) (dGN 5))
    (dRet (dTup (dCons (dOp dIxS (dLstF (dCons (dC (.str "then")) (dCons (dC (.str "either")) dNil))) (dOp rMod (dVar 3) (dC (.int 2)))) (dCons (dVar 5) dNil)))))))))
abbrev N_l_pattern : List Str := ["_law_feed_here", "_law_names_here", "_law_deep", "_law_way", "_law_many", "_law_parts", "_law_k"]
theorem ok_l_pattern {P : Program} {w : World} {K : PySem.W.Frag} {mg : Str → Option Value} {base : Heap} (T : Txt w K mg) (G_l_next : DFn P w K mg base 1 T.a_l_next T.f_l_next ["_law_feed_here", "_law_many"] sp_l_next) (G_l_leaf : DFn P w K mg base 2 T.a_l_leaf T.f_l_leaf ["_law_feed_here", "_law_names_here"] sp_l_leaf) (n : Nat) {spR : DSp} (G_l_pattern : DFn P w K mg base (2 + n) T.a_l_pattern T.f_l_pattern ["_law_feed_here", "_law_names_here", "_law_deep"] spR) {sp : DSp}
    (mono : SpMono sp) (len : ∀ ds S Q E, sp ds S Q E → ds.length = 3)
    (h : ∀ ds S Q E, sp ds S Q E → (t_l_pattern spR) (dEnd Q E) (dstart ["_law_feed_here", "_law_names_here", "_law_deep", "_law_way", "_law_many", "_law_parts", "_law_k"] ds) S) : DFn P w K mg base (2 + n + 1) T.a_l_pattern T.f_l_pattern ["_law_feed_here", "_law_names_here", "_law_deep"] sp := by
  refine dfn_of2 (t := (t_l_pattern spR)) T.F_l_pattern sc_l_pattern mono len (fun cdv A outer s H E hr gu => ?_) h
  have hu1 := hu_of hr
  have hu2 := hu_big hr
  exact (dss_cons (ds_set (i := 3) sc_l_pattern.nd rfl (by first | exact Or.inl rfl | exact Or.inr rfl) (de_call G_l_next (hr.mono (by omega)) gu (by rfl) T.m_l_next T.F_l_next.kp T.d_l_next (da_cons (dv 0) (da_cons de_int da_nil))))
    (dss_cons (ds_if (DWt.pt (dw_or (dt_cmp (od_eq hr.units) (dv 2) de_int (nomark _)) (dw_or1 (dt_cmp od_lt (dv 3) de_int (nomark _)))))
      (dss_one (ds_ret (de_call G_l_leaf (hr.mono (by omega)) gu (by rfl) T.m_l_leaf T.F_l_leaf.kp T.d_l_leaf (da_cons (dv 0) (da_cons (dv 1) da_nil)))))
      dss_nil)
    (dss_cons (ds_if (dt_cmp od_lt (dv 3) de_int (nomark _))
      (dss_one (ds_ret (de_tup (da_cons de_str (da_cons (de_call G_l_pattern (hr.mono (Nat.le_refl _)) gu (by rfl) T.m_l_pattern T.F_l_pattern.kp T.d_l_pattern (da_cons (dv 0) (da_cons (dv 1) (da_cons (de_op od_sub (dv 2) de_int) da_nil)))) da_nil)))))
      dss_nil)
    (dss_cons (ds_set (i := 4) sc_l_pattern.nd rfl (by first | exact Or.inl rfl | exact Or.inr rfl) (de_ix (ixD_any hu2) (de_lstF (da_cons de_int (da_cons de_int (da_cons de_int (da_cons de_int (da_cons de_int (da_cons de_int da_nil))))))) (de_call G_l_next (hr.mono (by omega)) gu (by rfl) T.m_l_next T.F_l_next.kp T.d_l_next (da_cons (dv 0) (da_cons de_int da_nil)))))
    (dss_cons (ds_set (i := 5) sc_l_pattern.nd rfl (by first | exact Or.inl rfl | exact Or.inr rfl) (de_callTy cd_tuple (by rfl) T.b_tuple (by decide +kernel) (da_cons (de_fz (de_lc (own := [("_law_k", 6)]) rfl sc_l_pattern.nd (di_rng1 (by rfl) T.b_range (da_cons (dv 4) da_nil)) (blkOk_by (own := [("_law_k", 6)]) (N := ["_law_feed_here", "_law_names_here", "_law_deep", "_law_way", "_law_many", "_law_parts", "_law_k"]) (sc := defScope s_l_pattern) (by decide +kernel)) ⟨fun _ _ _ _ _ => (dw_name (i := 6) sc_l_pattern.nd rfl (by first | exact Or.inl rfl | exact Or.inr rfl) (by decide)), fun _ _ _ _ _ => dts_nil, fun _ _ _ _ _ => (de_call G_l_pattern (hr.mono (Nat.le_refl _)) gu (by rfl) T.m_l_pattern T.F_l_pattern.kp T.d_l_pattern (da_cons (dv 0) (da_cons (dv 1) (da_cons (de_op od_sub (dv 2) de_int) da_nil))))⟩)) da_nil)))
    (dss_one (ds_ret (de_tup (da_cons (de_ix (ixD_any hu2) (de_lstF (da_cons de_str (da_cons de_str da_nil))) (de_op od_mod (dv 3) de_int)) (da_cons (dv 5) da_nil))))))))))

/-! words_of -/
def t_words_of (spR : DSp) : DTS := (dSeq (dIf (dTest (dOp (dEq false) (dOp dIxS (dVar 0) (dC (.int 0))) (dC (.str "step"))))
      (dRet (dLstF (dCons (dOp dIxS (dVar 0) (dC (.int 1))) (dCons (dOp dIxS (dVar 0) (dC (.int 2))) dNil))))
      dNx)
    (dSeq (dAsg (dLst (dCons (dOp dIxS (dVar 0) (dC (.int 0))) dNil)) (dGN 1))
    (dSeq (dIf (dTest (dOp (dIn false) (dOp dIxS (dVar 0) (dC (.int 0))) (dTup (dCons (dC (.str "at")) (dCons (dC (.str "off")) dNil)))))
      (dDrop (dBM "list" mAppend (dVar 1) (dCons (dOp dIxS (dVar 0) (dC (.int 1))) dNil)))
      dNx)
    (dSeq (dIf (dTest (dOp (dIn false) (dOp dIxS (dVar 0) (dC (.int 0))) (dTup (dCons (dC (.str "then")) (dCons (dC (.str "either")) dNil)))))
      (dDrop (dBM "list" mAppend (dVar 1) (dCons (dCB cStr (dCons (dCB cLen (dCons (dOp dIxS (dVar 0) (dC (.int 1))) dNil)) dNil)) dNil)))
      dNx)
    (dSeq (dFor (dSeqI (dCall sp_parts_of (dCons (dVar 0) dNil))) (dGN 2)
      (dDrop (dBM "list" mExtend (dVar 1) (dCons (dCall spR (dCons (dVar 2) dNil)) dNil))))
    (dRet (dVar 1)))))))
abbrev N_words_of : List Str := ["pattern", "words", "part"]
theorem ok_words_of {P : Program} {w : World} {K : PySem.W.Frag} {mg : Str → Option Value} {base : Heap} (T : Txt w K mg) (G_parts_of : DFn P w K mg base 1 T.a_parts_of T.f_parts_of ["pattern"] sp_parts_of) (n : Nat) {spR : DSp} (G_words_of : DFn P w K mg base (1 + n) T.a_words_of T.f_words_of ["pattern"] spR) {sp : DSp}
    (mono : SpMono sp) (len : ∀ ds S Q E, sp ds S Q E → ds.length = 1)
    (h : ∀ ds S Q E, sp ds S Q E → (t_words_of spR) (dEnd Q E) (dstart ["pattern", "words", "part"] ds) S) : DFn P w K mg base (1 + n + 1) T.a_words_of T.f_words_of ["pattern"] sp := by
  refine dfn_of2 (t := (t_words_of spR)) T.F_words_of sc_words_of mono len (fun cdv A outer s H E hr gu => ?_) h
  have hu1 := hu_of hr
  have hu2 := hu_big hr
  exact (dss_cons (ds_if (dt_cmp (od_eq hr.units) (de_ix (ixD_any hu2) (dv 0) de_int) de_str (nomark _))
      (dss_one (ds_ret (de_lstF (da_cons (de_ix (ixD_any hu2) (dv 0) de_int) (da_cons (de_ix (ixD_any hu2) (dv 0) de_int) da_nil)))))
      dss_nil)
    (dss_cons (ds_set (i := 1) sc_words_of.nd rfl (by first | exact Or.inl rfl | exact Or.inr rfl) (de_lst (da_cons (de_ix (ixD_any hu2) (dv 0) de_int) da_nil)))
    (dss_cons (ds_if (dt_cmp (od_in hu2) (de_ix (ixD_any hu2) (dv 0) de_int) (de_tup (da_cons de_str (da_cons de_str da_nil))) (by rfl))
      (dss_one (ds_expr (de_bm PySem.F.plainAttrs_list PySem.F.slot_list_append PySem.F.type_list_append md_append (dv 1) (da_cons (de_ix (ixD_any hu2) (dv 0) de_int) da_nil))))
      dss_nil)
    (dss_cons (ds_if (dt_cmp (od_in hu2) (de_ix (ixD_any hu2) (dv 0) de_int) (de_tup (da_cons de_str (da_cons de_str da_nil))) (by rfl))
      (dss_one (ds_expr (de_bm PySem.F.plainAttrs_list PySem.F.slot_list_append PySem.F.type_list_append md_append (dv 1) (da_cons (de_callTy cd_str (by rfl) T.b_str (by decide +kernel) (da_cons (de_callB cd_len (by rfl) T.b_len (by decide +kernel) (da_cons (de_ix (ixD_any hu2) (dv 0) de_int) da_nil)) da_nil)) da_nil))))
      dss_nil)
    (dss_cons (ds_for (passes_of rfl) rfl (di_seq (de_call G_parts_of (hr.mono (by omega)) gu (by rfl) T.m_parts_of T.F_parts_of.kp T.d_parts_of (da_cons (dv 0) da_nil))) (dg_name (i := 2) sc_words_of.nd rfl (by first | exact Or.inl rfl | exact Or.inr rfl))
      (dss_one (ds_expr (de_bm PySem.F.plainAttrs_list PySem.F.slot_list_extend PySem.F.type_list_extend md_extend (dv 1) (da_cons (de_call G_words_of (hr.mono (Nat.le_refl _)) gu (by rfl) T.m_words_of T.F_words_of.kp T.d_words_of (da_cons (dv 2) da_nil)) da_nil)))))
    (dss_one (ds_ret (dv 1))))))))

/-! shown -/
def t_shown : DTS := (dRet (dBM "str" mJoin (dC (.str " ")) (dCons (dCall (sp_words_of 20) (dCons (dVar 0) dNil)) dNil)))
abbrev N_shown : List Str := ["pattern"]
theorem ok_shown {P : Program} {w : World} {K : PySem.W.Frag} {mg : Str → Option Value} {base : Heap} (T : Txt w K mg) (G_words_of : DFn P w K mg base 22 T.a_words_of T.f_words_of ["pattern"] (sp_words_of 20)) {sp : DSp}
    (mono : SpMono sp) (len : ∀ ds S Q E, sp ds S Q E → ds.length = 1)
    (h : ∀ ds S Q E, sp ds S Q E → t_shown (dEnd Q E) (dstart ["pattern"] ds) S) : DFn P w K mg base 23 T.a_shown T.f_shown ["pattern"] sp := by
  refine dfn_of2 (t := t_shown) T.F_shown sc_shown mono len (fun cdv A outer s H E hr gu => ?_) h
  have hu1 := hu_of hr
  have hu2 := hu_big hr
  exact (dss_one (ds_ret (de_bm PySem.F.plainAttrs_str PySem.F.slot_str_join PySem.F.type_str_join md_join de_str (da_cons (de_call G_words_of (hr.mono (by decide)) gu (by rfl) T.m_words_of T.F_words_of.kp T.d_words_of (da_cons (dv 0) da_nil)) da_nil))))

/-! Reader_pattern -/
def t_Reader_pattern (C_NoText : Addr) (C_Reader : Addr) (spR : DSp) : DTS := (dSeq (dAsg (dMeth C_Reader "next_word" (sp_Reader_next_word C_NoText C_Reader) (dVar 0) dNil) (dGN 2))
    (dSeq (dPutF C_Reader "parts_read" (dVar 0) (dOp dAddF (dFld C_Reader "parts_read" (dVar 0)) (dC (.int 1))))
    (dSeq (dDrop (dMeth C_Reader "ask_last" (sp_Reader_ask_last C_NoText C_Reader) (dVar 0) (dCons (dAndV (dOp (dIn false) (dVar 2) (dC (.tup [.str "stay", .str "on", .str "back", .str "at", .str "off", .str "then", .str "either", .str "many"]))) (dAndV (dOp rLe (dVar 1) (dC (.int 10))) (dOp rLe (dFld C_Reader "parts_read" (dVar 0)) (dC (.int 40))))) dNil)))
    (dSeq (dIf (dTest (dOp (dIn false) (dVar 2) (dC (.tup [.str "on", .str "back"]))))
      (dSeq (dAsg (dMeth C_Reader "next_word" (sp_Reader_next_word C_NoText C_Reader) (dVar 0) dNil) (dGN 3))
    (dSeq (dDrop (dMeth C_Reader "ask_last" (sp_Reader_ask_last C_NoText C_Reader) (dVar 0) (dCons (dCall sp_is_word (dCons (dVar 3) dNil)) dNil)))
    (dRet (dTup (dCons (dC (.str "step")) (dCons (dVar 2) (dCons (dVar 3) dNil)))))))
      dNx)
    (dSeq (dIf (dTest (dOp (dIn false) (dVar 2) (dTup (dCons (dC (.str "at")) (dCons (dC (.str "off")) dNil)))))
      (dRet (dTup (dCons (dVar 2) (dCons (dMeth C_Reader "name_next" (sp_Reader_name_next C_NoText C_Reader) (dVar 0) dNil) dNil))))
      dNx)
    (dSeq (dIf (dTest (dOp (dEq false) (dVar 2) (dC (.str "many"))))
      (dRet (dTup (dCons (dVar 2) (dCons (dMeth C_Reader "pattern" spR (dVar 0) (dCons (dOp dAddF (dVar 1) (dC (.int 1))) dNil)) dNil))))
      dNx)
    (dSeq (dIf (dTest (dOp (dEq false) (dVar 2) (dC (.str "stay"))))
      (dRet (dTup (dCons (dVar 2) dNil)))
      dNx)
    (dSeq (dAsg (dCall sp_number_of (dCons (dMeth C_Reader "next_word" (sp_Reader_next_word C_NoText C_Reader) (dVar 0) dNil) dNil)) (dGN 4))
    (dSeq (dDrop (dMeth C_Reader "ask_last" (sp_Reader_ask_last C_NoText C_Reader) (dVar 0) (dCons (dAndV (dOp (dIsN true) (dVar 4) (dC .non)) (dOp rLe (dVar 4) (dC (.int 39)))) dNil)))
    (dRet (dTup (dCons (dVar 2) (dCons (dCB cTuple (dCons (dFz (dLcX (dRng1 (dCons (dVar 4) dNil)) (dGN 5) (dMeth C_Reader "pattern" spR (dVar 0) (dCons (dOp dAddF (dVar 1) (dC (.int 1))) dNil)) [5])) dNil)) dNil)))))))))))))
abbrev N_Reader_pattern : List Str := ["self", "deep", "head", "word", "many", "k"]
theorem ok_Reader_pattern {P : Program} {w : World} {K : PySem.W.Frag} {mg : Str → Option Value} {base : Heap} (T : Txt w K mg) (G_number_of : DFn P w K mg base 1 T.a_number_of T.f_number_of ["word"] sp_number_of) (G_is_word : DFn P w K mg base 2 T.a_is_word T.f_is_word ["thing"] sp_is_word) (G_Reader_next_word : DFn P w K mg base 3 T.a_Reader_next_word T.f_Reader_next_word ["self"] (sp_Reader_next_word T.C_NoText T.C_Reader)) (G_Reader_ask_last : DFn P w K mg base 3 T.a_Reader_ask_last T.f_Reader_ask_last ["self", "good"] (sp_Reader_ask_last T.C_NoText T.C_Reader)) (G_Reader_name_next : DFn P w K mg base 4 T.a_Reader_name_next T.f_Reader_name_next ["self"] (sp_Reader_name_next T.C_NoText T.C_Reader)) (n : Nat) {spR : DSp} (G_Reader_pattern : DFn P w K mg base (4 + n) T.a_Reader_pattern T.f_Reader_pattern ["self", "deep"] spR) {sp : DSp}
    (mono : SpMono sp) (len : ∀ ds S Q E, sp ds S Q E → ds.length = 2)
    (h : ∀ ds S Q E, sp ds S Q E → (t_Reader_pattern T.C_NoText T.C_Reader spR) (dEnd Q E) (dstart ["self", "deep", "head", "word", "many", "k"] ds) S) : DFn P w K mg base (4 + n + 1) T.a_Reader_pattern T.f_Reader_pattern ["self", "deep"] sp := by
  refine dfn_of2 (t := (t_Reader_pattern T.C_NoText T.C_Reader spR)) T.F_Reader_pattern sc_Reader_pattern mono len (fun cdv A outer s H E hr gu => ?_) h
  have hu1 := hu_of hr
  have hu2 := hu_big hr
  exact (dss_cons (ds_set (i := 2) sc_Reader_pattern.nd rfl (by first | exact Or.inl rfl | exact Or.inr rfl) (de_meth0 (dv 0) T.c_Reader T.M_Reader_next_word G_Reader_next_word (hr.mono (by omega)) gu T.d_Reader_next_word))
    (dss_cons (ds_fput (dv 0) (de_op od_addF (de_fld (dv 0) T.c_Reader T.n_Reader_parts_read) de_int) T.c_Reader T.n_Reader_parts_read)
    (dss_cons (ds_expr (de_meth (dv 0) T.c_Reader T.M_Reader_ask_last G_Reader_ask_last (hr.mono (by omega)) gu T.d_Reader_ask_last (da_cons (de_and (de_cmp (od_in hu2) (dv 2) (de_gtup (by rfl) T.g_HEADS T.l_HEADS T.z_HEADS T.v_HEADS) (by rfl)) (de_and (de_cmp od_le (dv 1) (de_gint (by rfl) T.g_MOST_DEEP) (nomark _)) (de_one (de_cmp od_le (de_fld (dv 0) T.c_Reader T.n_Reader_parts_read) (de_gint (by rfl) T.g_MOST_PARTS) (nomark _))))) da_nil)))
    (dss_cons (ds_if (dt_cmp (od_in hu2) (dv 2) (de_gtup (by rfl) T.g_SIDES T.l_SIDES T.z_SIDES T.v_SIDES) (by rfl))
      (dss_cons (ds_set (i := 3) sc_Reader_pattern.nd rfl (by first | exact Or.inl rfl | exact Or.inr rfl) (de_meth0 (dv 0) T.c_Reader T.M_Reader_next_word G_Reader_next_word (hr.mono (by omega)) gu T.d_Reader_next_word))
    (dss_cons (ds_expr (de_meth (dv 0) T.c_Reader T.M_Reader_ask_last G_Reader_ask_last (hr.mono (by omega)) gu T.d_Reader_ask_last (da_cons (de_call G_is_word (hr.mono (by omega)) gu (by rfl) T.m_is_word T.F_is_word.kp T.d_is_word (da_cons (dv 3) da_nil)) da_nil)))
    (dss_one (ds_ret (de_tup (da_cons de_str (da_cons (dv 2) (da_cons (dv 3) da_nil))))))))
      dss_nil)
    (dss_cons (ds_if (dt_cmp (od_in hu2) (dv 2) (de_tup (da_cons de_str (da_cons de_str da_nil))) (by rfl))
      (dss_one (ds_ret (de_tup (da_cons (dv 2) (da_cons (de_meth0 (dv 0) T.c_Reader T.M_Reader_name_next G_Reader_name_next (hr.mono (by omega)) gu T.d_Reader_name_next) da_nil)))))
      dss_nil)
    (dss_cons (ds_if (dt_cmp (od_eq hr.units) (dv 2) de_str (nomark _))
      (dss_one (ds_ret (de_tup (da_cons (dv 2) (da_cons (de_meth (dv 0) T.c_Reader T.M_Reader_pattern G_Reader_pattern (hr.mono (Nat.le_refl _)) gu T.d_Reader_pattern (da_cons (de_op od_addF (dv 1) de_int) da_nil)) da_nil)))))
      dss_nil)
    (dss_cons (ds_if (dt_cmp (od_eq hr.units) (dv 2) de_str (nomark _))
      (dss_one (ds_ret (de_tup (da_cons (dv 2) da_nil))))
      dss_nil)
    (dss_cons (ds_set (i := 4) sc_Reader_pattern.nd rfl (by first | exact Or.inl rfl | exact Or.inr rfl) (de_call G_number_of (hr.mono (by omega)) gu (by rfl) T.m_number_of T.F_number_of.kp T.d_number_of (da_cons (de_meth0 (dv 0) T.c_Reader T.M_Reader_next_word G_Reader_next_word (hr.mono (by omega)) gu T.d_Reader_next_word) da_nil)))
    (dss_cons (ds_expr (de_meth (dv 0) T.c_Reader T.M_Reader_ask_last G_Reader_ask_last (hr.mono (by omega)) gu T.d_Reader_ask_last (da_cons (de_and (de_cmp od_isnt (dv 4) de_non (nomark _)) (de_one (de_cmp od_le (dv 4) (de_gint (by rfl) T.g_MOST_WITHIN) (nomark _)))) da_nil)))
    (dss_one (ds_ret (de_tup (da_cons (dv 2) (da_cons (de_callTy cd_tuple (by rfl) T.b_tuple (by decide +kernel) (da_cons (de_fz (de_lcX (own := [("k", 5)]) rfl rfl rfl sc_Reader_pattern.nd (di_rng1 (by rfl) T.b_range (da_cons (dv 4) da_nil)) (blkOk_by (own := [("k", 5)]) (N := ["self", "deep", "head", "word", "many", "k"]) (sc := defScope s_Reader_pattern) (by decide +kernel)) ⟨fun _ _ _ _ _ _ => (dw_name (i := 5) sc_Reader_pattern.nd rfl (by first | exact Or.inl rfl | exact Or.inr rfl) (by decide)), fun _ _ _ _ _ _ => (de_meth (dv 0) T.c_Reader T.M_Reader_pattern G_Reader_pattern (hr.mono (Nat.le_refl _)) gu T.d_Reader_pattern (da_cons (de_op od_addF (dv 1) de_int) da_nil))⟩)) da_nil)) da_nil))))))))))))))

/-! read_pattern -/
def t_read_pattern (C_NoText : Addr) (C_Reader : Addr) : DTS := (dSeq (dAsg (dMake C_Reader (sp_Reader_init C_Reader) (dCons (dBM "str" mSplit (dVar 0) (dCons (dC (.str " ")) dNil)) (dCons (dC (.int 0)) dNil))) (dGN 1))
    (dSeq (dAsg (dMeth C_Reader "pattern" (sp_Reader_pattern C_NoText C_Reader 20) (dVar 1) (dCons (dC (.int 1)) dNil)) (dGN 2))
    (dSeq (dDrop (dMeth C_Reader "ask_end" (sp_Reader_ask_end C_NoText C_Reader) (dVar 1) dNil))
    (dRet (dVar 2)))))
abbrev N_read_pattern : List Str := ["text", "reader", "pattern"]
theorem ok_read_pattern {P : Program} {w : World} {K : PySem.W.Frag} {mg : Str → Option Value} {base : Heap} (T : Txt w K mg) (G_Reader_init : DFn P w K mg base 1 T.a_Reader_init T.f_Reader_init ["self", "words", "at"] (sp_Reader_init T.C_Reader)) (G_Reader_ask_end : DFn P w K mg base 3 T.a_Reader_ask_end T.f_Reader_ask_end ["self"] (sp_Reader_ask_end T.C_NoText T.C_Reader)) (G_Reader_pattern : DFn P w K mg base 25 T.a_Reader_pattern T.f_Reader_pattern ["self", "deep"] (sp_Reader_pattern T.C_NoText T.C_Reader 20)) {sp : DSp}
    (mono : SpMono sp) (len : ∀ ds S Q E, sp ds S Q E → ds.length = 1)
    (h : ∀ ds S Q E, sp ds S Q E → (t_read_pattern T.C_NoText T.C_Reader) (dEnd Q E) (dstart ["text", "reader", "pattern"] ds) S) : DFn P w K mg base 26 T.a_read_pattern T.f_read_pattern ["text"] sp := by
  refine dfn_of2 (t := (t_read_pattern T.C_NoText T.C_Reader)) T.F_read_pattern sc_read_pattern mono len (fun cdv A outer s H E hr gu => ?_) h
  have hu1 := hu_of hr
  have hu2 := hu_big hr
  exact (dss_cons (ds_set (i := 1) sc_read_pattern.nd rfl (by first | exact Or.inl rfl | exact Or.inr rfl) (de_make T.k_Reader G_Reader_init (hr.mono (by decide)) gu (by rfl) T.g_Reader T.d_Reader_init (da_cons (de_bm PySem.F.plainAttrs_str PySem.F.slot_str_split PySem.F.type_str_split md_split (dv 0) (da_cons de_str da_nil)) (da_cons de_int da_nil))))
    (dss_cons (ds_set (i := 2) sc_read_pattern.nd rfl (by first | exact Or.inl rfl | exact Or.inr rfl) (de_meth (dv 1) T.c_Reader T.M_Reader_pattern G_Reader_pattern (hr.mono (by decide)) gu T.d_Reader_pattern (da_cons de_int da_nil)))
    (dss_cons (ds_expr (de_meth0 (dv 1) T.c_Reader T.M_Reader_ask_end G_Reader_ask_end (hr.mono (by decide)) gu T.d_Reader_ask_end))
    (dss_one (ds_ret (dv 2))))))

/-! l_right -/
def t_l_right (C_NoText : Addr) (C_Reader : Addr) : DTS := (dSeq (dAsg (dC .non) (dGN 1))
    (dSeq (dAsg (dC .non) (dGN 2))
    (dSeq (dTry [(C_NoText, true)] 3
      (dAsg (dCall (sp_read_pattern C_NoText C_Reader) (dCons (dVar 0) dNil)) (dGN 1))
      (dAsg (dVar 3) (dGN 2)))
    (dSeq (dAsg (dCall sp_l_wrong (dCons (dBM "str" mSplit (dVar 0) (dCons (dC (.str " ")) dNil)) dNil)) (dGN 4))
    (dSeq (dIf (dTest (dOp (dIsN false) (dVar 4) (dC .non)))
      (dRet (dAndV (dOp (dIsN false) (dVar 2) (dC .non)) (dOp (dEq false) (dCall sp_shown (dCons (dVar 1) dNil)) (dVar 0))))
      dNx)
    (dSeq (dIf (dOr (dTest (dOp (dIsN false) (dVar 2) (dC .non))) (dOr (dTest (dOp (dEq true) (dCall (sp_l_own C_NoText) (dCons (dVar 2) dNil)) (dC (.str "text")))) (dTest (dIsi "bool" (dFldX [C_NoText] "at" (dVar 2))))))
      (dRet (dC (.bl false)))
      dNx)
    (dRet (dAndV (dIsi "int" (dFldX [C_NoText] "at" (dVar 2))) (dOp (dEq false) (dFldX [C_NoText] "at" (dVar 2)) (dVar 4))))))))))
abbrev N_l_right : List Str := ["_law_text", "_law_found", "_law_caught", "_law_e", "_law_due"]
theorem ok_l_right {P : Program} {w : World} {K : PySem.W.Frag} {mg : Str → Option Value} {base : Heap} (T : Txt w K mg) (G_l_own : DFn P w K mg base 1 T.a_l_own T.f_l_own ["_law_e"] (sp_l_own T.C_NoText)) (G_l_wrong : DFn P w K mg base 3 T.a_l_wrong T.f_l_wrong ["_law_words_here"] sp_l_wrong) (G_shown : DFn P w K mg base 23 T.a_shown T.f_shown ["pattern"] sp_shown) (G_read_pattern : DFn P w K mg base 26 T.a_read_pattern T.f_read_pattern ["text"] (sp_read_pattern T.C_NoText T.C_Reader)) {sp : DSp}
    (mono : SpMono sp) (len : ∀ ds S Q E, sp ds S Q E → ds.length = 1)
    (h : ∀ ds S Q E, sp ds S Q E → (t_l_right T.C_NoText T.C_Reader) (dEnd Q E) (dstart ["_law_text", "_law_found", "_law_caught", "_law_e", "_law_due"] ds) S) : DFn P w K mg base 27 T.a_l_right T.f_l_right ["_law_text"] sp := by
  refine dfn_of2 (t := (t_l_right T.C_NoText T.C_Reader)) T.F_l_right sc_l_right mono len (fun cdv A outer s H E hr gu => ?_) h
  have hu1 := hu_of hr
  have hu2 := hu_big hr
  exact (dss_cons (ds_set (i := 1) sc_l_right.nd rfl (by first | exact Or.inl rfl | exact Or.inr rfl) de_non)
    (dss_cons (ds_set (i := 2) sc_l_right.nd rfl (by first | exact Or.inl rfl | exact Or.inr rfl) de_non)
    (dss_cons (ds_try (i := 3) rfl rfl rfl sc_l_right.nd rfl rfl ⟨by rfl, by decide, .inl T.g_PathError⟩ T.ex_PathError (fun pn xe hp => (dss_one (ds_set (i := 1) sc_l_right.nd rfl (by first | exact Or.inl rfl | exact Or.inr rfl) (de_call G_read_pattern (hr.mono (by decide)) gu (by rfl) T.m_read_pattern T.F_read_pattern.kp T.d_read_pattern (da_cons (dv 0) da_nil))))) (fun a pn => (dss_one (ds_set (i := 2) sc_l_right.nd rfl (by first | exact Or.inl rfl | exact Or.inr rfl) (dv 3)))))
    (dss_cons (ds_set (i := 4) sc_l_right.nd rfl (by first | exact Or.inl rfl | exact Or.inr rfl) (de_call G_l_wrong (hr.mono (by decide)) gu (by rfl) T.m_l_wrong T.F_l_wrong.kp T.d_l_wrong (da_cons (de_bm PySem.F.plainAttrs_str PySem.F.slot_str_split PySem.F.type_str_split md_split (dv 0) (da_cons de_str da_nil)) da_nil)))
    (dss_cons (ds_if (dt_cmp od_is (dv 4) de_non (nomark _))
      (dss_one (ds_ret (de_and (de_cmp od_is (dv 2) de_non (nomark _)) (de_one (de_cmp (od_eq hr.units) (de_call G_shown (hr.mono (by decide)) gu (by rfl) T.m_shown T.F_shown.kp T.d_shown (da_cons (dv 1) da_nil)) (dv 0) (nomark _))))))
      dss_nil)
    (dss_cons (ds_if (DWt.pt (dw_or (dt_cmp od_is (dv 2) de_non (nomark _)) (dw_or (dt_cmp (od_ne hr.units) (de_call G_l_own (hr.mono (by decide)) gu (by rfl) T.m_l_own T.F_l_own.kp T.d_l_own (da_cons (dv 2) da_nil)) de_str (nomark _)) (dw_or1 (dt_val (de_isi (T := "bool") (by decide) (de_fldx (fx_cons T.x_NoText (by decide +kernel) fx_nil) (dv 2)) (by rfl) T.b_isinstance (by rfl) T.b_bool (by decide +kernel)))))))
      (dss_one (ds_ret de_bl))
      dss_nil)
    (dss_one (ds_ret (de_and (de_isi (T := "int") (by decide) (de_fldx (fx_cons T.x_NoText (by decide +kernel) fx_nil) (dv 2)) (by rfl) T.b_isinstance (by rfl) T.b_int (by decide +kernel)) (de_one (de_cmp (od_eq hr.units) (de_fldx (fx_cons T.x_NoText (by decide +kernel) fx_nil) (dv 2)) (dv 4) (nomark _))))))))))))

/-! law -/
def t_law (C_NoText : Addr) (C_Reader : Addr) : DTS := (dSeq (dAsg (dCall sp_l_feed (dCons (dCall sp_l_cell_at (dCons (dVar 0) (dCons (dC (.int 0)) dNil))) dNil)) (dGN 1))
    (dSeq (dAsg (dLstF (dCons (dLstF dNil) (dCons (dCall sp_l_names (dCons (dVar 1) (dCons (dC (.int 3)) dNil))) (dCons (dCall sp_l_names (dCons (dVar 1) (dCons (dC (.int 3)) dNil))) dNil)))) (dGN 2))
    (dSeq (dFor (dRng1 (dCons (dOp dAddF (dC (.int 1)) (dCB cMin2 (dCons (dC (.int 12)) (dCons (dCB cLen (dCons (dVar 0) dNil)) dNil)))) dNil)) (dGN 3)
      (dSeq (dAsg (dCall sp_l_feed (dCons (dCall sp_l_cell_at (dCons (dVar 0) (dCons (dOp dAddF (dC (.int 1)) (dVar 3)) dNil))) dNil)) (dGN 1))
    (dSeq (dAsg (dCall sp_l_words (dCons (dCall (sp_l_pattern 3) (dCons (dVar 1) (dCons (dVar 2) (dCons (dC (.int 3)) dNil)))) dNil)) (dGN 4))
    (dSeq (dIf (dTest (dOp (dEq false) (dCall sp_l_next (dCons (dVar 1) (dCons (dC (.int 6)) dNil))) (dC (.int 0))))
      (dAsg (dCall sp_l_great (dCons (dVar 1) dNil)) (dGN 4))
      dNx)
    (dSeq (dIf (dNot (dTest (dCall (sp_l_right C_NoText C_Reader) (dCons (dBM "str" mJoin (dC (.str " ")) (dCons (dVar 4) dNil)) dNil))))
      (dRet (dC (.bl false)))
      dNx)
    (dFor (dRng1 (dCons (dC (.int 6)) dNil)) (dGN 5)
      (dSeq (dAsg (dCall sp_l_spoilt (dCons (dVar 1) (dCons (dVar 4) (dCons (dVar 2) dNil)))) (dGN 6))
    (dSeq (dIf (dAnd (dTest (dOp (dEq true) (dVar 6) (dLstF dNil))) (dTest (dOp (dEq false) (dCall sp_l_next (dCons (dVar 1) (dCons (dC (.int 3)) dNil))) (dC (.int 0)))))
      (dAsg (dCall sp_l_spoilt (dCons (dVar 1) (dCons (dVar 6) (dCons (dVar 2) dNil)))) (dGN 6))
      dNx)
    (dIf (dNot (dTest (dCall (sp_l_right C_NoText C_Reader) (dCons (dBM "str" mJoin (dC (.str " ")) (dCons (dVar 6) dNil)) dNil))))
      (dRet (dC (.bl false)))
      dNx)))))))))
    (dRet (dCall (sp_l_right C_NoText C_Reader) (dCons (dC (.str "")) dNil))))))
abbrev N_law : List Str := ["_law_script", "_law_feed_here", "_law_names_here", "_law_k", "_law_words_here", "_law_j", "_law_bent"]
theorem ok_law {P : Program} {w : World} {K : PySem.W.Frag} {mg : Str → Option Value} {base : Heap} (T : Txt w K mg) (G_l_cell_at : DFn P w K mg base 1 T.a_l_cell_at T.f_l_cell_at ["_law_script", "_law_k"] sp_l_cell_at) (G_l_feed : DFn P w K mg base 1 T.a_l_feed T.f_l_feed ["_law_cell"] sp_l_feed) (G_l_next : DFn P w K mg base 1 T.a_l_next T.f_l_next ["_law_feed_here", "_law_many"] sp_l_next) (G_l_words : DFn P w K mg base 1 T.a_l_words T.f_l_words ["_law_pattern_here"] sp_l_words) (G_l_names : DFn P w K mg base 2 T.a_l_names T.f_l_names ["_law_feed_here", "_law_many"] sp_l_names) (G_l_spoilt : DFn P w K mg base 2 T.a_l_spoilt T.f_l_spoilt ["_law_feed_here", "_law_words_here", "_law_names_here"] sp_l_spoilt) (G_l_great : DFn P w K mg base 2 T.a_l_great T.f_l_great ["_law_feed_here"] sp_l_great) (G_l_pattern : DFn P w K mg base 6 T.a_l_pattern T.f_l_pattern ["_law_feed_here", "_law_names_here", "_law_deep"] (sp_l_pattern 3)) (G_l_right : DFn P w K mg base 27 T.a_l_right T.f_l_right ["_law_text"] (sp_l_right T.C_NoText T.C_Reader)) {sp : DSp}
    (mono : SpMono sp) (len : ∀ ds S Q E, sp ds S Q E → ds.length = 1)
    (h : ∀ ds S Q E, sp ds S Q E → (t_law T.C_NoText T.C_Reader) (dEnd Q E) (dstart ["_law_script", "_law_feed_here", "_law_names_here", "_law_k", "_law_words_here", "_law_j", "_law_bent"] ds) S) : DFn P w K mg base 28 T.a_law T.f_law ["_law_script"] sp := by
  refine dfn_of2 (t := (t_law T.C_NoText T.C_Reader)) T.F_law sc_law mono len (fun cdv A outer s H E hr gu => ?_) h
  have hu1 := hu_of hr
  have hu2 := hu_big hr
  exact (dss_cons (ds_set (i := 1) sc_law.nd rfl (by first | exact Or.inl rfl | exact Or.inr rfl) (de_call G_l_feed (hr.mono (by decide)) gu (by rfl) T.m_l_feed T.F_l_feed.kp T.d_l_feed (da_cons (de_call G_l_cell_at (hr.mono (by decide)) gu (by rfl) T.m_l_cell_at T.F_l_cell_at.kp T.d_l_cell_at (da_cons (dv 0) (da_cons de_int da_nil))) da_nil)))
    (dss_cons (ds_set (i := 2) sc_law.nd rfl (by first | exact Or.inl rfl | exact Or.inr rfl) (de_lstF (da_cons (de_lstF da_nil) (da_cons (de_call G_l_names (hr.mono (by decide)) gu (by rfl) T.m_l_names T.F_l_names.kp T.d_l_names (da_cons (dv 1) (da_cons de_int da_nil))) (da_cons (de_call G_l_names (hr.mono (by decide)) gu (by rfl) T.m_l_names T.F_l_names.kp T.d_l_names (da_cons (dv 1) (da_cons de_int da_nil))) da_nil)))))
    (dss_cons (ds_for (passes_of rfl) rfl (di_rng1 (by rfl) T.b_range (da_cons (de_op od_addF de_int (de_callB (cd_min2 rfl) (by rfl) T.b_min (by decide +kernel) (da_cons de_int (da_cons (de_callB cd_len (by rfl) T.b_len (by decide +kernel) (da_cons (dv 0) da_nil)) da_nil)))) da_nil)) (dg_name (i := 3) sc_law.nd rfl (by first | exact Or.inl rfl | exact Or.inr rfl))
      (dss_cons (ds_set (i := 1) sc_law.nd rfl (by first | exact Or.inl rfl | exact Or.inr rfl) (de_call G_l_feed (hr.mono (by decide)) gu (by rfl) T.m_l_feed T.F_l_feed.kp T.d_l_feed (da_cons (de_call G_l_cell_at (hr.mono (by decide)) gu (by rfl) T.m_l_cell_at T.F_l_cell_at.kp T.d_l_cell_at (da_cons (dv 0) (da_cons (de_op od_addF de_int (dv 3)) da_nil))) da_nil)))
    (dss_cons (ds_set (i := 4) sc_law.nd rfl (by first | exact Or.inl rfl | exact Or.inr rfl) (de_call G_l_words (hr.mono (by decide)) gu (by rfl) T.m_l_words T.F_l_words.kp T.d_l_words (da_cons (de_call G_l_pattern (hr.mono (by decide)) gu (by rfl) T.m_l_pattern T.F_l_pattern.kp T.d_l_pattern (da_cons (dv 1) (da_cons (dv 2) (da_cons de_int da_nil)))) da_nil)))
    (dss_cons (ds_if (dt_cmp (od_eq hr.units) (de_call G_l_next (hr.mono (by decide)) gu (by rfl) T.m_l_next T.F_l_next.kp T.d_l_next (da_cons (dv 1) (da_cons de_int da_nil))) de_int (nomark _))
      (dss_one (ds_set (i := 4) sc_law.nd rfl (by first | exact Or.inl rfl | exact Or.inr rfl) (de_call G_l_great (hr.mono (by decide)) gu (by rfl) T.m_l_great T.F_l_great.kp T.d_l_great (da_cons (dv 1) da_nil))))
      dss_nil)
    (dss_cons (ds_if (dt_not (dt_val (de_call G_l_right (hr.mono (by decide)) gu (by rfl) T.m_l_right T.F_l_right.kp T.d_l_right (da_cons (de_bm PySem.F.plainAttrs_str PySem.F.slot_str_join PySem.F.type_str_join md_join de_str (da_cons (dv 4) da_nil)) da_nil))))
      (dss_one (ds_ret de_bl))
      dss_nil)
    (dss_one (ds_for (passes_of rfl) rfl (di_rng1 (by rfl) T.b_range (da_cons de_int da_nil)) (dg_name (i := 5) sc_law.nd rfl (by first | exact Or.inl rfl | exact Or.inr rfl))
      (dss_cons (ds_set (i := 6) sc_law.nd rfl (by first | exact Or.inl rfl | exact Or.inr rfl) (de_call G_l_spoilt (hr.mono (by decide)) gu (by rfl) T.m_l_spoilt T.F_l_spoilt.kp T.d_l_spoilt (da_cons (dv 1) (da_cons (dv 4) (da_cons (dv 2) da_nil)))))
    (dss_cons (ds_if (DWt.pt (dw_and (dt_cmp (od_ne hr.units) (dv 6) (de_lstF da_nil) (nomark _)) (dw_and1 (dt_cmp (od_eq hr.units) (de_call G_l_next (hr.mono (by decide)) gu (by rfl) T.m_l_next T.F_l_next.kp T.d_l_next (da_cons (dv 1) (da_cons de_int da_nil))) de_int (nomark _)))))
      (dss_one (ds_set (i := 6) sc_law.nd rfl (by first | exact Or.inl rfl | exact Or.inr rfl) (de_call G_l_spoilt (hr.mono (by decide)) gu (by rfl) T.m_l_spoilt T.F_l_spoilt.kp T.d_l_spoilt (da_cons (dv 1) (da_cons (dv 6) (da_cons (dv 2) da_nil))))))
      dss_nil)
    (dss_one (ds_if (dt_not (dt_val (de_call G_l_right (hr.mono (by decide)) gu (by rfl) T.m_l_right T.F_l_right.kp T.d_l_right (da_cons (de_bm PySem.F.plainAttrs_str PySem.F.slot_str_join PySem.F.type_str_join md_join de_str (da_cons (dv 6) da_nil)) da_nil))))
      (dss_one (ds_ret de_bl))
      dss_nil)))))))))))
    (dss_one (ds_ret (de_call G_l_right (hr.mono (by decide)) gu (by rfl) T.m_l_right T.F_l_right.kp T.d_l_right (da_cons de_str da_nil)))))))
end K11X
set_option maxRecDepth 100000
set_option maxHeartbeats 4000000
namespace K11X
open PySem PySem.Spec L2
open L11
open Sh hiding N_parts_of r_parts_of t_parts_of
open Dt hiding delo_upo nkeys

section
theorem all_go {P : Program} {w : World} {K : PySem.W.Frag} {mg : Str → Option Value} {base : Heap} (T : Txt w K mg) : DFn P w K mg base 28 T.a_law T.f_law ["_law_script"] sp_law := by
  have G_NoText_init : DFn P w K mg base 1 T.a_NoText_init T.f_NoText_init ["self", "at"] (sp_NoText_init T.C_NoText) := ok_NoText_init T (sp_NoText_init_mono T.C_NoText) (fun ds S Q E h => by first | (obtain ⟨rfl, _⟩ := h; rfl) | (obtain ⟨_, rfl, _⟩ := h; rfl) | (obtain ⟨_, _, rfl, _⟩ := h; rfl) | (obtain ⟨_, _, _, rfl, _⟩ := h; rfl) | (obtain ⟨_, _, _, _, rfl, _⟩ := h; rfl) | (obtain ⟨_, _, _, _, _, rfl, _⟩ := h; rfl) | (obtain ⟨_, _, _, _, _, _, rfl, _⟩ := h; rfl) | (obtain ⟨_, _, _, _, _, _, _, rfl, _⟩ := h; rfl) | (obtain ⟨_, _, _, _, _, _, _, _, rfl, _⟩ := h; rfl) | (obtain ⟨_, _, _, _, _, _, _, _, _, rfl, _⟩ := h; rfl) | (obtain ⟨_, _, _, _, _, _, _, _, _, _, rfl, _⟩ := h; rfl) | (obtain ⟨_, _, _, _, _, _, _, _, _, _, _, rfl, _⟩ := h; rfl) | (obtain ⟨_, _, _, _, _, _, _, _, _, _, _, _, rfl, _⟩ := h; rfl) | (obtain ⟨_, _, _, _, _, _, _, _, _, _, _, _, _, rfl, _⟩ := h; rfl) | (obtain ⟨_, _, _, _, _, _, _, _, _, _, _, _, _, _, rfl, _⟩ := h; rfl) | (obtain ⟨_, _, _, _, _, _, _, _, _, _, _, _, _, _, _, rfl, _⟩ := h; rfl) | (obtain ⟨_, _, _, _, _, _, _, _, _, _, _, _, _, _, _, _, rfl, _⟩ := h; rfl) | (obtain ⟨_, _, _, _, _, _, _, _, _, _, _, _, _, _, _, _, _, rfl, _⟩ := h; rfl) | (obtain ⟨_, rfl⟩ := h; rfl)) r_NoText_init
  have G_is_name : DFn P w K mg base 1 T.a_is_name T.f_is_name ["thing"] sp_is_name := ok_is_name T sp_is_name_mono (fun ds S Q E h => by first | (obtain ⟨_, rfl, _⟩ := h; rfl) | (obtain ⟨_, _, rfl, _⟩ := h; rfl) | (obtain ⟨rfl, _⟩ := h; rfl) | (obtain ⟨_, _, _, rfl, _⟩ := h; rfl) | (obtain ⟨_, _, _, _, rfl, _⟩ := h; rfl) | (obtain ⟨_, _, _, _, _, rfl, _⟩ := h; rfl) | (obtain ⟨_, _, _, _, _, _, rfl, _⟩ := h; rfl) | (obtain ⟨_, _, _, _, _, _, _, rfl, _⟩ := h; rfl) | (obtain ⟨_, _, _, _, _, _, _, _, rfl, _⟩ := h; rfl) | (obtain ⟨_, _, _, _, _, _, _, _, _, rfl, _⟩ := h; rfl) | (obtain ⟨_, _, _, _, _, _, _, _, _, _, rfl, _⟩ := h; rfl) | (obtain ⟨_, _, _, _, _, _, _, _, _, _, _, rfl, _⟩ := h; rfl) | (obtain ⟨_, _, _, _, _, _, _, _, _, _, _, _, rfl, _⟩ := h; rfl) | (obtain ⟨_, _, _, _, _, _, _, _, _, _, _, _, _, rfl, _⟩ := h; rfl) | (obtain ⟨_, _, _, _, _, _, _, _, _, _, _, _, _, _, rfl, _⟩ := h; rfl) | (obtain ⟨_, _, _, _, _, _, _, _, _, _, _, _, _, _, _, rfl, _⟩ := h; rfl) | (obtain ⟨_, _, _, _, _, _, _, _, _, _, _, _, _, _, _, _, rfl, _⟩ := h; rfl) | (obtain ⟨_, _, _, _, _, _, _, _, _, _, _, _, _, _, _, _, _, rfl, _⟩ := h; rfl) | (obtain ⟨_, rfl⟩ := h; rfl)) r_is_name
  have G_parts_of : DFn P w K mg base 1 T.a_parts_of T.f_parts_of ["pattern"] sp_parts_of := ok_parts_of T sp_parts_of_mono (fun ds S Q E h => by first | (obtain ⟨_, rfl, _⟩ := h; rfl) | (obtain ⟨rfl, _⟩ := h; rfl) | (obtain ⟨_, _, _, rfl, _⟩ := h; rfl) | (obtain ⟨_, _, rfl, _⟩ := h; rfl) | (obtain ⟨_, _, _, _, rfl, _⟩ := h; rfl) | (obtain ⟨_, _, _, _, _, rfl, _⟩ := h; rfl) | (obtain ⟨_, _, _, _, _, _, rfl, _⟩ := h; rfl) | (obtain ⟨_, _, _, _, _, _, _, rfl, _⟩ := h; rfl) | (obtain ⟨_, _, _, _, _, _, _, _, rfl, _⟩ := h; rfl) | (obtain ⟨_, rfl⟩ := h; rfl)) r_parts_of
  have G_number_of : DFn P w K mg base 1 T.a_number_of T.f_number_of ["word"] sp_number_of := ok_number_of T sp_number_of_mono (fun ds S Q E h => by first | (obtain ⟨_, rfl, _⟩ := h; rfl) | (obtain ⟨rfl, _⟩ := h; rfl) | (obtain ⟨_, _, _, rfl, _⟩ := h; rfl) | (obtain ⟨_, _, rfl, _⟩ := h; rfl) | (obtain ⟨_, _, _, _, rfl, _⟩ := h; rfl) | (obtain ⟨_, _, _, _, _, rfl, _⟩ := h; rfl) | (obtain ⟨_, _, _, _, _, _, rfl, _⟩ := h; rfl) | (obtain ⟨_, _, _, _, _, _, _, rfl, _⟩ := h; rfl) | (obtain ⟨_, _, _, _, _, _, _, _, rfl, _⟩ := h; rfl) | (obtain ⟨_, rfl⟩ := h; rfl)) r_number_of
  have G_Reader_init : DFn P w K mg base 1 T.a_Reader_init T.f_Reader_init ["self", "words", "at"] (sp_Reader_init T.C_Reader) := ok_Reader_init T (sp_Reader_init_mono T.C_Reader) (fun ds S Q E h => by first | (obtain ⟨_, _, rfl, _⟩ := h; rfl) | (obtain ⟨_, _, _, rfl, _⟩ := h; rfl) | (obtain ⟨rfl, _⟩ := h; rfl) | (obtain ⟨_, rfl, _⟩ := h; rfl) | (obtain ⟨_, _, _, _, rfl, _⟩ := h; rfl) | (obtain ⟨_, _, _, _, _, rfl, _⟩ := h; rfl) | (obtain ⟨_, _, _, _, _, _, rfl, _⟩ := h; rfl) | (obtain ⟨_, _, _, _, _, _, _, rfl, _⟩ := h; rfl) | (obtain ⟨_, _, _, _, _, _, _, _, rfl, _⟩ := h; rfl) | (obtain ⟨_, _, _, _, _, _, _, _, _, rfl, _⟩ := h; rfl) | (obtain ⟨_, _, _, _, _, _, _, _, _, _, rfl, _⟩ := h; rfl) | (obtain ⟨_, _, _, _, _, _, _, _, _, _, _, rfl, _⟩ := h; rfl) | (obtain ⟨_, _, _, _, _, _, _, _, _, _, _, _, rfl, _⟩ := h; rfl) | (obtain ⟨_, _, _, _, _, _, _, _, _, _, _, _, _, rfl, _⟩ := h; rfl) | (obtain ⟨_, _, _, _, _, _, _, _, _, _, _, _, _, _, rfl, _⟩ := h; rfl) | (obtain ⟨_, _, _, _, _, _, _, _, _, _, _, _, _, _, _, rfl, _⟩ := h; rfl) | (obtain ⟨_, _, _, _, _, _, _, _, _, _, _, _, _, _, _, _, rfl, _⟩ := h; rfl) | (obtain ⟨_, _, _, _, _, _, _, _, _, _, _, _, _, _, _, _, _, rfl, _⟩ := h; rfl) | (obtain ⟨_, rfl⟩ := h; rfl)) r_Reader_init
  have G_l_cell_at : DFn P w K mg base 1 T.a_l_cell_at T.f_l_cell_at ["_law_script", "_law_k"] sp_l_cell_at := ok_l_cell_at T sp_l_cell_at_mono (fun ds S Q E h => by first | (obtain ⟨_, _, rfl, _⟩ := h; rfl) | (obtain ⟨rfl, _⟩ := h; rfl) | (obtain ⟨_, _, _, rfl, _⟩ := h; rfl) | (obtain ⟨_, _, _, _, rfl, _⟩ := h; rfl) | (obtain ⟨_, _, _, _, _, rfl, _⟩ := h; rfl) | (obtain ⟨_, rfl, _⟩ := h; rfl) | (obtain ⟨_, _, _, _, _, _, rfl, _⟩ := h; rfl) | (obtain ⟨_, _, _, _, _, _, _, rfl, _⟩ := h; rfl) | (obtain ⟨_, _, _, _, _, _, _, _, rfl, _⟩ := h; rfl) | (obtain ⟨_, rfl⟩ := h; rfl)) r_l_cell_at
  have G_l_feed : DFn P w K mg base 1 T.a_l_feed T.f_l_feed ["_law_cell"] sp_l_feed := ok_l_feed T sp_l_feed_mono (fun ds S Q E h => by first | (obtain ⟨_, rfl, _⟩ := h; rfl) | (obtain ⟨rfl, _⟩ := h; rfl) | (obtain ⟨_, _, _, rfl, _⟩ := h; rfl) | (obtain ⟨_, _, rfl, _⟩ := h; rfl) | (obtain ⟨_, _, _, _, rfl, _⟩ := h; rfl) | (obtain ⟨_, _, _, _, _, rfl, _⟩ := h; rfl) | (obtain ⟨_, _, _, _, _, _, rfl, _⟩ := h; rfl) | (obtain ⟨_, _, _, _, _, _, _, rfl, _⟩ := h; rfl) | (obtain ⟨_, _, _, _, _, _, _, _, rfl, _⟩ := h; rfl) | (obtain ⟨_, rfl⟩ := h; rfl)) r_l_feed
  have G_l_next : DFn P w K mg base 1 T.a_l_next T.f_l_next ["_law_feed_here", "_law_many"] sp_l_next := ok_l_next T sp_l_next_mono (fun ds S Q E h => by first | (obtain ⟨_, _, _, _, rfl, _⟩ := h; rfl) | (obtain ⟨rfl, _⟩ := h; rfl) | (obtain ⟨_, _, _, rfl, _⟩ := h; rfl) | (obtain ⟨_, _, rfl, _⟩ := h; rfl) | (obtain ⟨_, _, _, _, _, rfl, _⟩ := h; rfl) | (obtain ⟨_, rfl, _⟩ := h; rfl) | (obtain ⟨_, _, _, _, _, _, rfl, _⟩ := h; rfl) | (obtain ⟨_, _, _, _, _, _, _, rfl, _⟩ := h; rfl) | (obtain ⟨_, _, _, _, _, _, _, _, rfl, _⟩ := h; rfl) | (obtain ⟨_, rfl⟩ := h; rfl)) r_l_next
  have G_l_own : DFn P w K mg base 1 T.a_l_own T.f_l_own ["_law_e"] (sp_l_own T.C_NoText) := ok_l_own T (sp_l_own_mono T.C_NoText) (fun ds S Q E h => by first | (obtain ⟨_, _, rfl, _⟩ := h; rfl) | (obtain ⟨_, _, _, _, rfl, _⟩ := h; rfl) | (obtain ⟨_, _, _, rfl, _⟩ := h; rfl) | (obtain ⟨_, _, _, _, _, rfl, _⟩ := h; rfl) | (obtain ⟨rfl, _⟩ := h; rfl) | (obtain ⟨_, rfl, _⟩ := h; rfl) | (obtain ⟨_, _, _, _, _, _, rfl, _⟩ := h; rfl) | (obtain ⟨_, _, _, _, _, _, _, rfl, _⟩ := h; rfl) | (obtain ⟨_, _, _, _, _, _, _, _, rfl, _⟩ := h; rfl) | (obtain ⟨_, _, _, _, _, _, _, _, _, rfl, _⟩ := h; rfl) | (obtain ⟨_, _, _, _, _, _, _, _, _, _, rfl, _⟩ := h; rfl) | (obtain ⟨_, _, _, _, _, _, _, _, _, _, _, rfl, _⟩ := h; rfl) | (obtain ⟨_, _, _, _, _, _, _, _, _, _, _, _, rfl, _⟩ := h; rfl) | (obtain ⟨_, _, _, _, _, _, _, _, _, _, _, _, _, rfl, _⟩ := h; rfl) | (obtain ⟨_, _, _, _, _, _, _, _, _, _, _, _, _, _, rfl, _⟩ := h; rfl) | (obtain ⟨_, _, _, _, _, _, _, _, _, _, _, _, _, _, _, rfl, _⟩ := h; rfl) | (obtain ⟨_, _, _, _, _, _, _, _, _, _, _, _, _, _, _, _, rfl, _⟩ := h; rfl) | (obtain ⟨_, _, _, _, _, _, _, _, _, _, _, _, _, _, _, _, _, rfl, _⟩ := h; rfl) | (obtain ⟨_, rfl⟩ := h; rfl)) r_l_own
  have G_l_words : DFn P w K mg base 1 T.a_l_words T.f_l_words ["_law_pattern_here"] sp_l_words := ok_l_words T sp_l_words_mono (fun ds S Q E h => by first | (obtain ⟨_, _, rfl, _⟩ := h; rfl) | (obtain ⟨_, rfl, _⟩ := h; rfl) | (obtain ⟨rfl, _⟩ := h; rfl) | (obtain ⟨_, _, _, rfl, _⟩ := h; rfl) | (obtain ⟨_, _, _, _, rfl, _⟩ := h; rfl) | (obtain ⟨_, _, _, _, _, rfl, _⟩ := h; rfl) | (obtain ⟨_, _, _, _, _, _, rfl, _⟩ := h; rfl) | (obtain ⟨_, _, _, _, _, _, _, rfl, _⟩ := h; rfl) | (obtain ⟨_, _, _, _, _, _, _, _, rfl, _⟩ := h; rfl) | (obtain ⟨_, _, _, _, _, _, _, _, _, rfl, _⟩ := h; rfl) | (obtain ⟨_, _, _, _, _, _, _, _, _, _, rfl, _⟩ := h; rfl) | (obtain ⟨_, _, _, _, _, _, _, _, _, _, _, rfl, _⟩ := h; rfl) | (obtain ⟨_, _, _, _, _, _, _, _, _, _, _, _, rfl, _⟩ := h; rfl) | (obtain ⟨_, _, _, _, _, _, _, _, _, _, _, _, _, rfl, _⟩ := h; rfl) | (obtain ⟨_, _, _, _, _, _, _, _, _, _, _, _, _, _, rfl, _⟩ := h; rfl) | (obtain ⟨_, _, _, _, _, _, _, _, _, _, _, _, _, _, _, rfl, _⟩ := h; rfl) | (obtain ⟨_, _, _, _, _, _, _, _, _, _, _, _, _, _, _, _, rfl, _⟩ := h; rfl) | (obtain ⟨_, _, _, _, _, _, _, _, _, _, _, _, _, _, _, _, _, rfl, _⟩ := h; rfl) | (obtain ⟨_, rfl⟩ := h; rfl)) r_l_words
  have G_l_is_name : DFn P w K mg base 1 T.a_l_is_name T.f_l_is_name ["_law_word"] sp_l_is_name := ok_l_is_name T sp_l_is_name_mono (fun ds S Q E h => by first | (obtain ⟨_, rfl, _⟩ := h; rfl) | (obtain ⟨rfl, _⟩ := h; rfl) | (obtain ⟨_, _, _, rfl, _⟩ := h; rfl) | (obtain ⟨_, _, rfl, _⟩ := h; rfl) | (obtain ⟨_, _, _, _, rfl, _⟩ := h; rfl) | (obtain ⟨_, _, _, _, _, rfl, _⟩ := h; rfl) | (obtain ⟨_, _, _, _, _, _, rfl, _⟩ := h; rfl) | (obtain ⟨_, _, _, _, _, _, _, rfl, _⟩ := h; rfl) | (obtain ⟨_, _, _, _, _, _, _, _, rfl, _⟩ := h; rfl) | (obtain ⟨_, rfl⟩ := h; rfl)) r_l_is_name
  have G_l_number : DFn P w K mg base 1 T.a_l_number T.f_l_number ["_law_word"] sp_l_number := ok_l_number T sp_l_number_mono (fun ds S Q E h => by first | (obtain ⟨_, rfl, _⟩ := h; rfl) | (obtain ⟨rfl, _⟩ := h; rfl) | (obtain ⟨_, _, _, rfl, _⟩ := h; rfl) | (obtain ⟨_, _, rfl, _⟩ := h; rfl) | (obtain ⟨_, _, _, _, rfl, _⟩ := h; rfl) | (obtain ⟨_, _, _, _, _, rfl, _⟩ := h; rfl) | (obtain ⟨_, _, _, _, _, _, rfl, _⟩ := h; rfl) | (obtain ⟨_, _, _, _, _, _, _, rfl, _⟩ := h; rfl) | (obtain ⟨_, _, _, _, _, _, _, _, rfl, _⟩ := h; rfl) | (obtain ⟨_, rfl⟩ := h; rfl)) r_l_number
  have G_l_wanted : DFn P w K mg base 1 T.a_l_wanted T.f_l_wanted ["_law_word", "_law_deep"] sp_l_wanted := ok_l_wanted T sp_l_wanted_mono (fun ds S Q E h => by first | (obtain ⟨_, _, rfl, _⟩ := h; rfl) | (obtain ⟨rfl, _⟩ := h; rfl) | (obtain ⟨_, _, _, rfl, _⟩ := h; rfl) | (obtain ⟨_, _, _, _, rfl, _⟩ := h; rfl) | (obtain ⟨_, _, _, _, _, rfl, _⟩ := h; rfl) | (obtain ⟨_, rfl, _⟩ := h; rfl) | (obtain ⟨_, _, _, _, _, _, rfl, _⟩ := h; rfl) | (obtain ⟨_, _, _, _, _, _, _, rfl, _⟩ := h; rfl) | (obtain ⟨_, _, _, _, _, _, _, _, rfl, _⟩ := h; rfl) | (obtain ⟨_, rfl⟩ := h; rfl)) r_l_wanted
  have G_is_word : DFn P w K mg base 2 T.a_is_word T.f_is_word ["thing"] sp_is_word := ok_is_word T (G_is_name := G_is_name) sp_is_word_mono (fun ds S Q E h => by first | (obtain ⟨_, rfl, _⟩ := h; rfl) | (obtain ⟨_, _, rfl, _⟩ := h; rfl) | (obtain ⟨rfl, _⟩ := h; rfl) | (obtain ⟨_, _, _, rfl, _⟩ := h; rfl) | (obtain ⟨_, _, _, _, rfl, _⟩ := h; rfl) | (obtain ⟨_, _, _, _, _, rfl, _⟩ := h; rfl) | (obtain ⟨_, _, _, _, _, _, rfl, _⟩ := h; rfl) | (obtain ⟨_, _, _, _, _, _, _, rfl, _⟩ := h; rfl) | (obtain ⟨_, _, _, _, _, _, _, _, rfl, _⟩ := h; rfl) | (obtain ⟨_, _, _, _, _, _, _, _, _, rfl, _⟩ := h; rfl) | (obtain ⟨_, _, _, _, _, _, _, _, _, _, rfl, _⟩ := h; rfl) | (obtain ⟨_, _, _, _, _, _, _, _, _, _, _, rfl, _⟩ := h; rfl) | (obtain ⟨_, _, _, _, _, _, _, _, _, _, _, _, rfl, _⟩ := h; rfl) | (obtain ⟨_, _, _, _, _, _, _, _, _, _, _, _, _, rfl, _⟩ := h; rfl) | (obtain ⟨_, _, _, _, _, _, _, _, _, _, _, _, _, _, rfl, _⟩ := h; rfl) | (obtain ⟨_, _, _, _, _, _, _, _, _, _, _, _, _, _, _, rfl, _⟩ := h; rfl) | (obtain ⟨_, _, _, _, _, _, _, _, _, _, _, _, _, _, _, _, rfl, _⟩ := h; rfl) | (obtain ⟨_, _, _, _, _, _, _, _, _, _, _, _, _, _, _, _, _, rfl, _⟩ := h; rfl) | (obtain ⟨_, rfl⟩ := h; rfl)) r_is_word
  have G_l_names : DFn P w K mg base 2 T.a_l_names T.f_l_names ["_law_feed_here", "_law_many"] sp_l_names := ok_l_names T (G_l_next := G_l_next) sp_l_names_mono (fun ds S Q E h => by first | (obtain ⟨_, _, _, _, rfl, _⟩ := h; rfl) | (obtain ⟨rfl, _⟩ := h; rfl) | (obtain ⟨_, _, _, rfl, _⟩ := h; rfl) | (obtain ⟨_, _, rfl, _⟩ := h; rfl) | (obtain ⟨_, _, _, _, _, rfl, _⟩ := h; rfl) | (obtain ⟨_, rfl, _⟩ := h; rfl) | (obtain ⟨_, _, _, _, _, _, rfl, _⟩ := h; rfl) | (obtain ⟨_, _, _, _, _, _, _, rfl, _⟩ := h; rfl) | (obtain ⟨_, _, _, _, _, _, _, _, rfl, _⟩ := h; rfl) | (obtain ⟨_, rfl⟩ := h; rfl)) r_l_names
  have G_l_leaf : DFn P w K mg base 2 T.a_l_leaf T.f_l_leaf ["_law_feed_here", "_law_names_here"] sp_l_leaf := ok_l_leaf T (G_l_next := G_l_next) sp_l_leaf_mono (fun ds S Q E h => by first | (obtain ⟨_, _, _, _, _, _, rfl, _⟩ := h; rfl) | (obtain ⟨_, _, _, _, _, rfl, _⟩ := h; rfl) | (obtain ⟨_, _, rfl, _⟩ := h; rfl) | (obtain ⟨rfl, _⟩ := h; rfl) | (obtain ⟨_, rfl, _⟩ := h; rfl) | (obtain ⟨_, _, _, rfl, _⟩ := h; rfl) | (obtain ⟨_, _, _, _, rfl, _⟩ := h; rfl) | (obtain ⟨_, _, _, _, _, _, _, rfl, _⟩ := h; rfl) | (obtain ⟨_, _, _, _, _, _, _, _, rfl, _⟩ := h; rfl) | (obtain ⟨_, _, _, _, _, _, _, _, _, rfl, _⟩ := h; rfl) | (obtain ⟨_, _, _, _, _, _, _, _, _, _, rfl, _⟩ := h; rfl) | (obtain ⟨_, _, _, _, _, _, _, _, _, _, _, rfl, _⟩ := h; rfl) | (obtain ⟨_, _, _, _, _, _, _, _, _, _, _, _, rfl, _⟩ := h; rfl) | (obtain ⟨_, _, _, _, _, _, _, _, _, _, _, _, _, rfl, _⟩ := h; rfl) | (obtain ⟨_, _, _, _, _, _, _, _, _, _, _, _, _, _, rfl, _⟩ := h; rfl) | (obtain ⟨_, _, _, _, _, _, _, _, _, _, _, _, _, _, _, rfl, _⟩ := h; rfl) | (obtain ⟨_, _, _, _, _, _, _, _, _, _, _, _, _, _, _, _, rfl, _⟩ := h; rfl) | (obtain ⟨_, _, _, _, _, _, _, _, _, _, _, _, _, _, _, _, _, rfl, _⟩ := h; rfl) | (obtain ⟨_, rfl⟩ := h; rfl)) r_l_leaf
  have G_l_fit : DFn P w K mg base 2 T.a_l_fit T.f_l_fit ["_law_sort", "_law_word"] sp_l_fit := ok_l_fit T (G_l_is_name := G_l_is_name) sp_l_fit_mono (fun ds S Q E h => by first | (obtain ⟨_, _, rfl, _⟩ := h; rfl) | (obtain ⟨rfl, _⟩ := h; rfl) | (obtain ⟨_, _, _, rfl, _⟩ := h; rfl) | (obtain ⟨_, _, _, _, rfl, _⟩ := h; rfl) | (obtain ⟨_, _, _, _, _, rfl, _⟩ := h; rfl) | (obtain ⟨_, rfl, _⟩ := h; rfl) | (obtain ⟨_, _, _, _, _, _, rfl, _⟩ := h; rfl) | (obtain ⟨_, _, _, _, _, _, _, rfl, _⟩ := h; rfl) | (obtain ⟨_, _, _, _, _, _, _, _, rfl, _⟩ := h; rfl) | (obtain ⟨_, rfl⟩ := h; rfl)) r_l_fit
  have G_l_spoilt : DFn P w K mg base 2 T.a_l_spoilt T.f_l_spoilt ["_law_feed_here", "_law_words_here", "_law_names_here"] sp_l_spoilt := ok_l_spoilt T (G_l_next := G_l_next) sp_l_spoilt_mono (fun ds S Q E h => by first | (obtain ⟨_, _, _, _, _, _, rfl, _⟩ := h; rfl) | (obtain ⟨_, _, _, _, _, _, _, _, rfl, _⟩ := h; rfl) | (obtain ⟨rfl, _⟩ := h; rfl) | (obtain ⟨_, rfl, _⟩ := h; rfl) | (obtain ⟨_, _, rfl, _⟩ := h; rfl) | (obtain ⟨_, _, _, rfl, _⟩ := h; rfl) | (obtain ⟨_, _, _, _, rfl, _⟩ := h; rfl) | (obtain ⟨_, _, _, _, _, rfl, _⟩ := h; rfl) | (obtain ⟨_, _, _, _, _, _, _, rfl, _⟩ := h; rfl) | (obtain ⟨_, _, _, _, _, _, _, _, _, rfl, _⟩ := h; rfl) | (obtain ⟨_, _, _, _, _, _, _, _, _, _, rfl, _⟩ := h; rfl) | (obtain ⟨_, _, _, _, _, _, _, _, _, _, _, rfl, _⟩ := h; rfl) | (obtain ⟨_, _, _, _, _, _, _, _, _, _, _, _, rfl, _⟩ := h; rfl) | (obtain ⟨_, _, _, _, _, _, _, _, _, _, _, _, _, rfl, _⟩ := h; rfl) | (obtain ⟨_, _, _, _, _, _, _, _, _, _, _, _, _, _, rfl, _⟩ := h; rfl) | (obtain ⟨_, _, _, _, _, _, _, _, _, _, _, _, _, _, _, rfl, _⟩ := h; rfl) | (obtain ⟨_, _, _, _, _, _, _, _, _, _, _, _, _, _, _, _, rfl, _⟩ := h; rfl) | (obtain ⟨_, _, _, _, _, _, _, _, _, _, _, _, _, _, _, _, _, rfl, _⟩ := h; rfl) | (obtain ⟨_, rfl⟩ := h; rfl)) r_l_spoilt
  have G_l_great : DFn P w K mg base 2 T.a_l_great T.f_l_great ["_law_feed_here"] sp_l_great := ok_l_great T (G_l_next := G_l_next) sp_l_great_mono (fun ds S Q E h => by first | (obtain ⟨_, _, _, _, rfl, _⟩ := h; rfl) | (obtain ⟨_, _, _, _, _, _, rfl, _⟩ := h; rfl) | (obtain ⟨_, _, _, rfl, _⟩ := h; rfl) | (obtain ⟨_, rfl, _⟩ := h; rfl) | (obtain ⟨rfl, _⟩ := h; rfl) | (obtain ⟨_, _, rfl, _⟩ := h; rfl) | (obtain ⟨_, _, _, _, _, rfl, _⟩ := h; rfl) | (obtain ⟨_, _, _, _, _, _, _, rfl, _⟩ := h; rfl) | (obtain ⟨_, _, _, _, _, _, _, _, rfl, _⟩ := h; rfl) | (obtain ⟨_, _, _, _, _, _, _, _, _, rfl, _⟩ := h; rfl) | (obtain ⟨_, _, _, _, _, _, _, _, _, _, rfl, _⟩ := h; rfl) | (obtain ⟨_, _, _, _, _, _, _, _, _, _, _, rfl, _⟩ := h; rfl) | (obtain ⟨_, _, _, _, _, _, _, _, _, _, _, _, rfl, _⟩ := h; rfl) | (obtain ⟨_, _, _, _, _, _, _, _, _, _, _, _, _, rfl, _⟩ := h; rfl) | (obtain ⟨_, _, _, _, _, _, _, _, _, _, _, _, _, _, rfl, _⟩ := h; rfl) | (obtain ⟨_, _, _, _, _, _, _, _, _, _, _, _, _, _, _, rfl, _⟩ := h; rfl) | (obtain ⟨_, _, _, _, _, _, _, _, _, _, _, _, _, _, _, _, rfl, _⟩ := h; rfl) | (obtain ⟨_, _, _, _, _, _, _, _, _, _, _, _, _, _, _, _, _, rfl, _⟩ := h; rfl) | (obtain ⟨_, rfl⟩ := h; rfl)) r_l_great
  have G_Reader_next_word : DFn P w K mg base 3 T.a_Reader_next_word T.f_Reader_next_word ["self"] (sp_Reader_next_word T.C_NoText T.C_Reader) := ok_Reader_next_word T (G_NoText_init := G_NoText_init) (sp_Reader_next_word_mono T.C_NoText T.C_Reader) (fun ds S Q E h => by first | (obtain ⟨_, _, _, _, _, rfl, _⟩ := h; rfl) | (obtain ⟨_, _, _, _, _, _, rfl, _⟩ := h; rfl) | (obtain ⟨rfl, _⟩ := h; rfl) | (obtain ⟨_, rfl, _⟩ := h; rfl) | (obtain ⟨_, _, rfl, _⟩ := h; rfl) | (obtain ⟨_, _, _, rfl, _⟩ := h; rfl) | (obtain ⟨_, _, _, _, rfl, _⟩ := h; rfl) | (obtain ⟨_, _, _, _, _, _, _, rfl, _⟩ := h; rfl) | (obtain ⟨_, _, _, _, _, _, _, _, rfl, _⟩ := h; rfl) | (obtain ⟨_, _, _, _, _, _, _, _, _, rfl, _⟩ := h; rfl) | (obtain ⟨_, _, _, _, _, _, _, _, _, _, rfl, _⟩ := h; rfl) | (obtain ⟨_, _, _, _, _, _, _, _, _, _, _, rfl, _⟩ := h; rfl) | (obtain ⟨_, _, _, _, _, _, _, _, _, _, _, _, rfl, _⟩ := h; rfl) | (obtain ⟨_, _, _, _, _, _, _, _, _, _, _, _, _, rfl, _⟩ := h; rfl) | (obtain ⟨_, _, _, _, _, _, _, _, _, _, _, _, _, _, rfl, _⟩ := h; rfl) | (obtain ⟨_, _, _, _, _, _, _, _, _, _, _, _, _, _, _, rfl, _⟩ := h; rfl) | (obtain ⟨_, _, _, _, _, _, _, _, _, _, _, _, _, _, _, _, rfl, _⟩ := h; rfl) | (obtain ⟨_, _, _, _, _, _, _, _, _, _, _, _, _, _, _, _, _, rfl, _⟩ := h; rfl) | (obtain ⟨_, rfl⟩ := h; rfl)) r_Reader_next_word
  have G_Reader_ask_last : DFn P w K mg base 3 T.a_Reader_ask_last T.f_Reader_ask_last ["self", "good"] (sp_Reader_ask_last T.C_NoText T.C_Reader) := ok_Reader_ask_last T (G_NoText_init := G_NoText_init) (sp_Reader_ask_last_mono T.C_NoText T.C_Reader) (fun ds S Q E h => by first | (obtain ⟨_, _, _, _, _, _, rfl, _⟩ := h; rfl) | (obtain ⟨_, rfl, _⟩ := h; rfl) | (obtain ⟨rfl, _⟩ := h; rfl) | (obtain ⟨_, _, rfl, _⟩ := h; rfl) | (obtain ⟨_, _, _, rfl, _⟩ := h; rfl) | (obtain ⟨_, _, _, _, rfl, _⟩ := h; rfl) | (obtain ⟨_, _, _, _, _, rfl, _⟩ := h; rfl) | (obtain ⟨_, _, _, _, _, _, _, rfl, _⟩ := h; rfl) | (obtain ⟨_, _, _, _, _, _, _, _, rfl, _⟩ := h; rfl) | (obtain ⟨_, _, _, _, _, _, _, _, _, rfl, _⟩ := h; rfl) | (obtain ⟨_, _, _, _, _, _, _, _, _, _, rfl, _⟩ := h; rfl) | (obtain ⟨_, _, _, _, _, _, _, _, _, _, _, rfl, _⟩ := h; rfl) | (obtain ⟨_, _, _, _, _, _, _, _, _, _, _, _, rfl, _⟩ := h; rfl) | (obtain ⟨_, _, _, _, _, _, _, _, _, _, _, _, _, rfl, _⟩ := h; rfl) | (obtain ⟨_, _, _, _, _, _, _, _, _, _, _, _, _, _, rfl, _⟩ := h; rfl) | (obtain ⟨_, _, _, _, _, _, _, _, _, _, _, _, _, _, _, rfl, _⟩ := h; rfl) | (obtain ⟨_, _, _, _, _, _, _, _, _, _, _, _, _, _, _, _, rfl, _⟩ := h; rfl) | (obtain ⟨_, _, _, _, _, _, _, _, _, _, _, _, _, _, _, _, _, rfl, _⟩ := h; rfl) | (obtain ⟨_, rfl⟩ := h; rfl)) r_Reader_ask_last
  have G_Reader_ask_end : DFn P w K mg base 3 T.a_Reader_ask_end T.f_Reader_ask_end ["self"] (sp_Reader_ask_end T.C_NoText T.C_Reader) := ok_Reader_ask_end T (G_NoText_init := G_NoText_init) (sp_Reader_ask_end_mono T.C_NoText T.C_Reader) (fun ds S Q E h => by first | (obtain ⟨_, _, _, _, rfl, _⟩ := h; rfl) | (obtain ⟨_, _, _, _, _, rfl, _⟩ := h; rfl) | (obtain ⟨rfl, _⟩ := h; rfl) | (obtain ⟨_, rfl, _⟩ := h; rfl) | (obtain ⟨_, _, rfl, _⟩ := h; rfl) | (obtain ⟨_, _, _, rfl, _⟩ := h; rfl) | (obtain ⟨_, _, _, _, _, _, rfl, _⟩ := h; rfl) | (obtain ⟨_, _, _, _, _, _, _, rfl, _⟩ := h; rfl) | (obtain ⟨_, _, _, _, _, _, _, _, rfl, _⟩ := h; rfl) | (obtain ⟨_, _, _, _, _, _, _, _, _, rfl, _⟩ := h; rfl) | (obtain ⟨_, _, _, _, _, _, _, _, _, _, rfl, _⟩ := h; rfl) | (obtain ⟨_, _, _, _, _, _, _, _, _, _, _, rfl, _⟩ := h; rfl) | (obtain ⟨_, _, _, _, _, _, _, _, _, _, _, _, rfl, _⟩ := h; rfl) | (obtain ⟨_, _, _, _, _, _, _, _, _, _, _, _, _, rfl, _⟩ := h; rfl) | (obtain ⟨_, _, _, _, _, _, _, _, _, _, _, _, _, _, rfl, _⟩ := h; rfl) | (obtain ⟨_, _, _, _, _, _, _, _, _, _, _, _, _, _, _, rfl, _⟩ := h; rfl) | (obtain ⟨_, _, _, _, _, _, _, _, _, _, _, _, _, _, _, _, rfl, _⟩ := h; rfl) | (obtain ⟨_, _, _, _, _, _, _, _, _, _, _, _, _, _, _, _, _, rfl, _⟩ := h; rfl) | (obtain ⟨_, rfl⟩ := h; rfl)) r_Reader_ask_end
  have G_l_wrong : DFn P w K mg base 3 T.a_l_wrong T.f_l_wrong ["_law_words_here"] sp_l_wrong := ok_l_wrong T (G_l_number := G_l_number) (G_l_wanted := G_l_wanted) (G_l_fit := G_l_fit) sp_l_wrong_mono (fun ds S Q E h => by first | (obtain ⟨_, _, rfl, _⟩ := h; rfl) | (obtain ⟨rfl, _⟩ := h; rfl) | (obtain ⟨_, _, _, rfl, _⟩ := h; rfl) | (obtain ⟨_, _, _, _, rfl, _⟩ := h; rfl) | (obtain ⟨_, _, _, _, _, rfl, _⟩ := h; rfl) | (obtain ⟨_, rfl, _⟩ := h; rfl) | (obtain ⟨_, _, _, _, _, _, rfl, _⟩ := h; rfl) | (obtain ⟨_, _, _, _, _, _, _, rfl, _⟩ := h; rfl) | (obtain ⟨_, _, _, _, _, _, _, _, rfl, _⟩ := h; rfl) | (obtain ⟨_, rfl⟩ := h; rfl)) r_l_wrong
  have G_Reader_name_next : DFn P w K mg base 4 T.a_Reader_name_next T.f_Reader_name_next ["self"] (sp_Reader_name_next T.C_NoText T.C_Reader) := ok_Reader_name_next T (G_is_name := G_is_name) (G_Reader_next_word := G_Reader_next_word) (G_Reader_ask_last := G_Reader_ask_last) (sp_Reader_name_next_mono T.C_NoText T.C_Reader) (fun ds S Q E h => by first | (obtain ⟨_, _, _, _, _, rfl, _⟩ := h; rfl) | (obtain ⟨_, _, _, _, _, _, rfl, _⟩ := h; rfl) | (obtain ⟨rfl, _⟩ := h; rfl) | (obtain ⟨_, rfl, _⟩ := h; rfl) | (obtain ⟨_, _, rfl, _⟩ := h; rfl) | (obtain ⟨_, _, _, rfl, _⟩ := h; rfl) | (obtain ⟨_, _, _, _, rfl, _⟩ := h; rfl) | (obtain ⟨_, _, _, _, _, _, _, rfl, _⟩ := h; rfl) | (obtain ⟨_, _, _, _, _, _, _, _, rfl, _⟩ := h; rfl) | (obtain ⟨_, _, _, _, _, _, _, _, _, rfl, _⟩ := h; rfl) | (obtain ⟨_, _, _, _, _, _, _, _, _, _, rfl, _⟩ := h; rfl) | (obtain ⟨_, _, _, _, _, _, _, _, _, _, _, rfl, _⟩ := h; rfl) | (obtain ⟨_, _, _, _, _, _, _, _, _, _, _, _, rfl, _⟩ := h; rfl) | (obtain ⟨_, _, _, _, _, _, _, _, _, _, _, _, _, rfl, _⟩ := h; rfl) | (obtain ⟨_, _, _, _, _, _, _, _, _, _, _, _, _, _, rfl, _⟩ := h; rfl) | (obtain ⟨_, _, _, _, _, _, _, _, _, _, _, _, _, _, _, rfl, _⟩ := h; rfl) | (obtain ⟨_, _, _, _, _, _, _, _, _, _, _, _, _, _, _, _, rfl, _⟩ := h; rfl) | (obtain ⟨_, _, _, _, _, _, _, _, _, _, _, _, _, _, _, _, _, rfl, _⟩ := h; rfl) | (obtain ⟨_, rfl⟩ := h; rfl)) r_Reader_name_next
  have R_l_pattern : ∀ n, DFn P w K mg base (2 + n + 1) T.a_l_pattern T.f_l_pattern ["_law_feed_here", "_law_names_here", "_law_deep"] (sp_l_pattern n) := fun n => by
    induction n with
    | zero => exact ok_l_pattern T (G_l_next := G_l_next) (G_l_leaf := G_l_leaf) 0 (DFn.never 0) (sp_l_pattern_mono 0) (fun ds S Q E h => by first | (obtain ⟨_, _, _, _, _, _, _, rfl, _⟩ := h; rfl) | (obtain ⟨_, rfl, _⟩ := h; rfl) | (obtain ⟨_, _, _, _, _, _, _, _, rfl, _⟩ := h; rfl) | (obtain ⟨rfl, _⟩ := h; rfl) | (obtain ⟨_, _, rfl, _⟩ := h; rfl) | (obtain ⟨_, _, _, rfl, _⟩ := h; rfl) | (obtain ⟨_, _, _, _, rfl, _⟩ := h; rfl) | (obtain ⟨_, _, _, _, _, rfl, _⟩ := h; rfl) | (obtain ⟨_, _, _, _, _, _, rfl, _⟩ := h; rfl) | (obtain ⟨_, _, _, _, _, _, _, _, _, rfl, _⟩ := h; rfl) | (obtain ⟨_, _, _, _, _, _, _, _, _, _, rfl, _⟩ := h; rfl) | (obtain ⟨_, _, _, _, _, _, _, _, _, _, _, rfl, _⟩ := h; rfl) | (obtain ⟨_, _, _, _, _, _, _, _, _, _, _, _, rfl, _⟩ := h; rfl) | (obtain ⟨_, _, _, _, _, _, _, _, _, _, _, _, _, rfl, _⟩ := h; rfl) | (obtain ⟨_, _, _, _, _, _, _, _, _, _, _, _, _, _, rfl, _⟩ := h; rfl) | (obtain ⟨_, _, _, _, _, _, _, _, _, _, _, _, _, _, _, rfl, _⟩ := h; rfl) | (obtain ⟨_, _, _, _, _, _, _, _, _, _, _, _, _, _, _, _, rfl, _⟩ := h; rfl) | (obtain ⟨_, _, _, _, _, _, _, _, _, _, _, _, _, _, _, _, _, rfl, _⟩ := h; rfl) | (obtain ⟨_, rfl⟩ := h; rfl)) (r_l_pattern 0)
    | succ n ih => exact ok_l_pattern T (G_l_next := G_l_next) (G_l_leaf := G_l_leaf) (n + 1) ih (sp_l_pattern_mono (n + 1)) (fun ds S Q E h => by first | (obtain ⟨_, _, _, _, _, _, _, rfl, _⟩ := h; rfl) | (obtain ⟨_, rfl, _⟩ := h; rfl) | (obtain ⟨_, _, _, _, _, _, _, _, rfl, _⟩ := h; rfl) | (obtain ⟨rfl, _⟩ := h; rfl) | (obtain ⟨_, _, rfl, _⟩ := h; rfl) | (obtain ⟨_, _, _, rfl, _⟩ := h; rfl) | (obtain ⟨_, _, _, _, rfl, _⟩ := h; rfl) | (obtain ⟨_, _, _, _, _, rfl, _⟩ := h; rfl) | (obtain ⟨_, _, _, _, _, _, rfl, _⟩ := h; rfl) | (obtain ⟨_, _, _, _, _, _, _, _, _, rfl, _⟩ := h; rfl) | (obtain ⟨_, _, _, _, _, _, _, _, _, _, rfl, _⟩ := h; rfl) | (obtain ⟨_, _, _, _, _, _, _, _, _, _, _, rfl, _⟩ := h; rfl) | (obtain ⟨_, _, _, _, _, _, _, _, _, _, _, _, rfl, _⟩ := h; rfl) | (obtain ⟨_, _, _, _, _, _, _, _, _, _, _, _, _, rfl, _⟩ := h; rfl) | (obtain ⟨_, _, _, _, _, _, _, _, _, _, _, _, _, _, rfl, _⟩ := h; rfl) | (obtain ⟨_, _, _, _, _, _, _, _, _, _, _, _, _, _, _, rfl, _⟩ := h; rfl) | (obtain ⟨_, _, _, _, _, _, _, _, _, _, _, _, _, _, _, _, rfl, _⟩ := h; rfl) | (obtain ⟨_, _, _, _, _, _, _, _, _, _, _, _, _, _, _, _, _, rfl, _⟩ := h; rfl) | (obtain ⟨_, rfl⟩ := h; rfl)) (r_l_pattern (n + 1))
  have G_l_pattern := R_l_pattern 3
  have R_words_of : ∀ n, DFn P w K mg base (1 + n + 1) T.a_words_of T.f_words_of ["pattern"] (sp_words_of n) := fun n => by
    induction n with
    | zero => exact ok_words_of T (G_parts_of := G_parts_of) 0 (DFn.never 0) (sp_words_of_mono 0) (fun ds S Q E h => by first | (obtain ⟨_, rfl, _⟩ := h; rfl) | (obtain ⟨rfl, _⟩ := h; rfl) | (obtain ⟨_, _, _, rfl, _⟩ := h; rfl) | (obtain ⟨_, _, rfl, _⟩ := h; rfl) | (obtain ⟨_, _, _, _, rfl, _⟩ := h; rfl) | (obtain ⟨_, _, _, _, _, rfl, _⟩ := h; rfl) | (obtain ⟨_, _, _, _, _, _, rfl, _⟩ := h; rfl) | (obtain ⟨_, _, _, _, _, _, _, rfl, _⟩ := h; rfl) | (obtain ⟨_, _, _, _, _, _, _, _, rfl, _⟩ := h; rfl) | (obtain ⟨_, rfl⟩ := h; rfl)) (r_words_of 0)
    | succ n ih => exact ok_words_of T (G_parts_of := G_parts_of) (n + 1) ih (sp_words_of_mono (n + 1)) (fun ds S Q E h => by first | (obtain ⟨_, rfl, _⟩ := h; rfl) | (obtain ⟨rfl, _⟩ := h; rfl) | (obtain ⟨_, _, _, rfl, _⟩ := h; rfl) | (obtain ⟨_, _, rfl, _⟩ := h; rfl) | (obtain ⟨_, _, _, _, rfl, _⟩ := h; rfl) | (obtain ⟨_, _, _, _, _, rfl, _⟩ := h; rfl) | (obtain ⟨_, _, _, _, _, _, rfl, _⟩ := h; rfl) | (obtain ⟨_, _, _, _, _, _, _, rfl, _⟩ := h; rfl) | (obtain ⟨_, _, _, _, _, _, _, _, rfl, _⟩ := h; rfl) | (obtain ⟨_, rfl⟩ := h; rfl)) (r_words_of (n + 1))
  have G_words_of := R_words_of 20
  have G_shown : DFn P w K mg base 23 T.a_shown T.f_shown ["pattern"] sp_shown := ok_shown T (G_words_of := G_words_of) sp_shown_mono (fun ds S Q E h => by first | (obtain ⟨_, rfl, _⟩ := h; rfl) | (obtain ⟨rfl, _⟩ := h; rfl) | (obtain ⟨_, _, _, rfl, _⟩ := h; rfl) | (obtain ⟨_, _, rfl, _⟩ := h; rfl) | (obtain ⟨_, _, _, _, rfl, _⟩ := h; rfl) | (obtain ⟨_, _, _, _, _, rfl, _⟩ := h; rfl) | (obtain ⟨_, _, _, _, _, _, rfl, _⟩ := h; rfl) | (obtain ⟨_, _, _, _, _, _, _, rfl, _⟩ := h; rfl) | (obtain ⟨_, _, _, _, _, _, _, _, rfl, _⟩ := h; rfl) | (obtain ⟨_, rfl⟩ := h; rfl)) r_shown
  have R_Reader_pattern : ∀ n, DFn P w K mg base (4 + n + 1) T.a_Reader_pattern T.f_Reader_pattern ["self", "deep"] (sp_Reader_pattern T.C_NoText T.C_Reader n) := fun n => by
    induction n with
    | zero => exact ok_Reader_pattern T (G_number_of := G_number_of) (G_is_word := G_is_word) (G_Reader_next_word := G_Reader_next_word) (G_Reader_ask_last := G_Reader_ask_last) (G_Reader_name_next := G_Reader_name_next) 0 (DFn.never 0) (sp_Reader_pattern_mono T.C_NoText T.C_Reader 0) (fun ds S Q E h => by first | (obtain ⟨_, _, _, _, _, _, _, _, rfl, _⟩ := h; rfl) | (obtain ⟨_, _, _, _, _, _, rfl, _⟩ := h; rfl) | (obtain ⟨rfl, _⟩ := h; rfl) | (obtain ⟨_, rfl, _⟩ := h; rfl) | (obtain ⟨_, _, rfl, _⟩ := h; rfl) | (obtain ⟨_, _, _, rfl, _⟩ := h; rfl) | (obtain ⟨_, _, _, _, rfl, _⟩ := h; rfl) | (obtain ⟨_, _, _, _, _, rfl, _⟩ := h; rfl) | (obtain ⟨_, _, _, _, _, _, _, rfl, _⟩ := h; rfl) | (obtain ⟨_, _, _, _, _, _, _, _, _, rfl, _⟩ := h; rfl) | (obtain ⟨_, _, _, _, _, _, _, _, _, _, rfl, _⟩ := h; rfl) | (obtain ⟨_, _, _, _, _, _, _, _, _, _, _, rfl, _⟩ := h; rfl) | (obtain ⟨_, _, _, _, _, _, _, _, _, _, _, _, rfl, _⟩ := h; rfl) | (obtain ⟨_, _, _, _, _, _, _, _, _, _, _, _, _, rfl, _⟩ := h; rfl) | (obtain ⟨_, _, _, _, _, _, _, _, _, _, _, _, _, _, rfl, _⟩ := h; rfl) | (obtain ⟨_, _, _, _, _, _, _, _, _, _, _, _, _, _, _, rfl, _⟩ := h; rfl) | (obtain ⟨_, _, _, _, _, _, _, _, _, _, _, _, _, _, _, _, rfl, _⟩ := h; rfl) | (obtain ⟨_, _, _, _, _, _, _, _, _, _, _, _, _, _, _, _, _, rfl, _⟩ := h; rfl) | (obtain ⟨_, rfl⟩ := h; rfl)) (r_Reader_pattern 0)
    | succ n ih => exact ok_Reader_pattern T (G_number_of := G_number_of) (G_is_word := G_is_word) (G_Reader_next_word := G_Reader_next_word) (G_Reader_ask_last := G_Reader_ask_last) (G_Reader_name_next := G_Reader_name_next) (n + 1) ih (sp_Reader_pattern_mono T.C_NoText T.C_Reader (n + 1)) (fun ds S Q E h => by first | (obtain ⟨_, _, _, _, _, _, _, _, rfl, _⟩ := h; rfl) | (obtain ⟨_, _, _, _, _, _, rfl, _⟩ := h; rfl) | (obtain ⟨rfl, _⟩ := h; rfl) | (obtain ⟨_, rfl, _⟩ := h; rfl) | (obtain ⟨_, _, rfl, _⟩ := h; rfl) | (obtain ⟨_, _, _, rfl, _⟩ := h; rfl) | (obtain ⟨_, _, _, _, rfl, _⟩ := h; rfl) | (obtain ⟨_, _, _, _, _, rfl, _⟩ := h; rfl) | (obtain ⟨_, _, _, _, _, _, _, rfl, _⟩ := h; rfl) | (obtain ⟨_, _, _, _, _, _, _, _, _, rfl, _⟩ := h; rfl) | (obtain ⟨_, _, _, _, _, _, _, _, _, _, rfl, _⟩ := h; rfl) | (obtain ⟨_, _, _, _, _, _, _, _, _, _, _, rfl, _⟩ := h; rfl) | (obtain ⟨_, _, _, _, _, _, _, _, _, _, _, _, rfl, _⟩ := h; rfl) | (obtain ⟨_, _, _, _, _, _, _, _, _, _, _, _, _, rfl, _⟩ := h; rfl) | (obtain ⟨_, _, _, _, _, _, _, _, _, _, _, _, _, _, rfl, _⟩ := h; rfl) | (obtain ⟨_, _, _, _, _, _, _, _, _, _, _, _, _, _, _, rfl, _⟩ := h; rfl) | (obtain ⟨_, _, _, _, _, _, _, _, _, _, _, _, _, _, _, _, rfl, _⟩ := h; rfl) | (obtain ⟨_, _, _, _, _, _, _, _, _, _, _, _, _, _, _, _, _, rfl, _⟩ := h; rfl) | (obtain ⟨_, rfl⟩ := h; rfl)) (r_Reader_pattern (n + 1))
  have G_Reader_pattern := R_Reader_pattern 20
  have G_read_pattern : DFn P w K mg base 26 T.a_read_pattern T.f_read_pattern ["text"] (sp_read_pattern T.C_NoText T.C_Reader) := ok_read_pattern T (G_Reader_init := G_Reader_init) (G_Reader_ask_end := G_Reader_ask_end) (G_Reader_pattern := G_Reader_pattern) (sp_read_pattern_mono T.C_NoText T.C_Reader) (fun ds S Q E h => by first | (obtain ⟨_, rfl, _⟩ := h; rfl) | (obtain ⟨rfl, _⟩ := h; rfl) | (obtain ⟨_, _, _, rfl, _⟩ := h; rfl) | (obtain ⟨_, _, rfl, _⟩ := h; rfl) | (obtain ⟨_, _, _, _, rfl, _⟩ := h; rfl) | (obtain ⟨_, _, _, _, _, rfl, _⟩ := h; rfl) | (obtain ⟨_, _, _, _, _, _, rfl, _⟩ := h; rfl) | (obtain ⟨_, _, _, _, _, _, _, rfl, _⟩ := h; rfl) | (obtain ⟨_, _, _, _, _, _, _, _, rfl, _⟩ := h; rfl) | (obtain ⟨_, rfl⟩ := h; rfl)) r_read_pattern
  have G_l_right : DFn P w K mg base 27 T.a_l_right T.f_l_right ["_law_text"] (sp_l_right T.C_NoText T.C_Reader) := ok_l_right T (G_l_own := G_l_own) (G_l_wrong := G_l_wrong) (G_shown := G_shown) (G_read_pattern := G_read_pattern) (sp_l_right_mono T.C_NoText T.C_Reader) (fun ds S Q E h => by first | (obtain ⟨_, _, _, _, _, _, _, _, _, rfl, _⟩ := h; rfl) | (obtain ⟨_, _, _, rfl, _⟩ := h; rfl) | (obtain ⟨_, _, _, _, _, _, rfl, _⟩ := h; rfl) | (obtain ⟨_, rfl, _⟩ := h; rfl) | (obtain ⟨_, _, rfl, _⟩ := h; rfl) | (obtain ⟨_, _, _, _, _, rfl, _⟩ := h; rfl) | (obtain ⟨rfl, _⟩ := h; rfl) | (obtain ⟨_, _, _, _, rfl, _⟩ := h; rfl) | (obtain ⟨_, _, _, _, _, _, _, rfl, _⟩ := h; rfl) | (obtain ⟨_, _, _, _, _, _, _, _, rfl, _⟩ := h; rfl) | (obtain ⟨_, _, _, _, _, _, _, _, _, _, rfl, _⟩ := h; rfl) | (obtain ⟨_, _, _, _, _, _, _, _, _, _, _, rfl, _⟩ := h; rfl) | (obtain ⟨_, _, _, _, _, _, _, _, _, _, _, _, rfl, _⟩ := h; rfl) | (obtain ⟨_, _, _, _, _, _, _, _, _, _, _, _, _, rfl, _⟩ := h; rfl) | (obtain ⟨_, _, _, _, _, _, _, _, _, _, _, _, _, _, rfl, _⟩ := h; rfl) | (obtain ⟨_, _, _, _, _, _, _, _, _, _, _, _, _, _, _, rfl, _⟩ := h; rfl) | (obtain ⟨_, _, _, _, _, _, _, _, _, _, _, _, _, _, _, _, rfl, _⟩ := h; rfl) | (obtain ⟨_, _, _, _, _, _, _, _, _, _, _, _, _, _, _, _, _, rfl, _⟩ := h; rfl) | (obtain ⟨_, rfl⟩ := h; rfl)) r_l_right
  have G_law : DFn P w K mg base 28 T.a_law T.f_law ["_law_script"] sp_law := ok_law T (G_l_cell_at := G_l_cell_at) (G_l_feed := G_l_feed) (G_l_next := G_l_next) (G_l_words := G_l_words) (G_l_names := G_l_names) (G_l_spoilt := G_l_spoilt) (G_l_great := G_l_great) (G_l_pattern := G_l_pattern) (G_l_right := G_l_right) sp_law_mono (fun ds S Q E h => by first | (obtain ⟨_, rfl, _⟩ := h; rfl) | (obtain ⟨rfl, _⟩ := h; rfl) | (obtain ⟨_, _, _, rfl, _⟩ := h; rfl) | (obtain ⟨_, _, rfl, _⟩ := h; rfl) | (obtain ⟨_, _, _, _, rfl, _⟩ := h; rfl) | (obtain ⟨_, _, _, _, _, rfl, _⟩ := h; rfl) | (obtain ⟨_, _, _, _, _, _, rfl, _⟩ := h; rfl) | (obtain ⟨_, _, _, _, _, _, _, rfl, _⟩ := h; rfl) | (obtain ⟨_, _, _, _, _, _, _, _, rfl, _⟩ := h; rfl) | (obtain ⟨_, rfl⟩ := h; rfl)) r_law
  exact G_law
theorem all_mk {l : PySem.W.OpenLaw} {w : World} {K : PySem.W.Frag} {h : Heap} {mg : Str → Option Value} {fa : Addr} (X : K.In h) (G : h.Ns mainGlobals mg) (hfa : mg "law" = some (.ref fa))
    {f0 f1 f2 f3 f4 f5 f6 f7 f8 f9 f10 f11 f12 f13 f14 f15 f16 f17 f18 f19 f20 f21 f22 f23 f24 f25 f26 f27 f28 f29 f30 : Addr} {od0 an0 od1 an1 od2 an2 od3 an3 od4 an4 od5 an5 od6 an6 od7 an7 od8 an8 od9 an9 od10 an10 od11 an11 od12 an12 od13 an13 od14 an14 od15 an15 od16 an16 od17 an17 od18 an18 od19 an19 od20 an20 od21 an21 od22 an22 od23 an23 od24 an24 od25 an25 od26 an26 od27 an27 od28 an28 od29 an29 od30 an30 : Option Addr} {sl0 sl1 sl2 sl3 sl4 sl5 sl6 sl7 sl8 sl9 sl10 sl11 sl12 sl13 sl14 sl15 sl16 sl17 sl18 sl19 sl20 sl21 sl22 sl23 sl24 sl25 sl26 sl27 sl28 sl29 sl30 : Array (Option Value)} {oc0 kV0 dc0 pm0 cd0 ct0 oc1 kV1 dc1 pm1 cd1 ct1 oc2 kV2 dc2 pm2 cd2 ct2 oc3 kV3 dc3 pm3 cd3 ct3 oc4 kV4 dc4 pm4 cd4 ct4 oc5 kV5 dc5 pm5 cd5 ct5 oc6 kV6 dc6 pm6 cd6 ct6 oc7 kV7 dc7 pm7 cd7 ct7 oc8 kV8 dc8 pm8 cd8 ct8 oc9 kV9 dc9 pm9 cd9 ct9 oc10 kV10 dc10 pm10 cd10 ct10 oc11 kV11 dc11 pm11 cd11 ct11 oc12 kV12 dc12 pm12 cd12 ct12 oc13 kV13 dc13 pm13 cd13 ct13 oc14 kV14 dc14 pm14 cd14 ct14 oc15 kV15 dc15 pm15 cd15 ct15 oc16 kV16 dc16 pm16 cd16 ct16 oc17 kV17 dc17 pm17 cd17 ct17 oc18 kV18 dc18 pm18 cd18 ct18 oc19 kV19 dc19 pm19 cd19 ct19 oc20 kV20 dc20 pm20 cd20 ct20 oc21 kV21 dc21 pm21 cd21 ct21 oc22 kV22 dc22 pm22 cd22 ct22 oc23 kV23 dc23 pm23 cd23 ct23 oc24 kV24 dc24 pm24 cd24 ct24 oc25 kV25 dc25 pm25 cd25 ct25 oc26 kV26 dc26 pm26 cd26 ct26 oc27 kV27 dc27 pm27 cd27 ct27 oc28 kV28 dc28 pm28 cd28 ct28 oc29 kV29 dc29 pm29 cd29 ct29 oc30 kV30 dc30 pm30 cd30 ct30 : Value}
    {vC0 : Addr} (aC0 : PySem.W.nsIn K mainGlobals "GoesRound" = some (some (.ref vC0)))
    {vC1 : Addr} (aC1 : PySem.W.nsIn K mainGlobals "NoKnot" = some (some (.ref vC1)))
    {vC2 : Addr} (aC2 : PySem.W.nsIn K mainGlobals "NoLine" = some (some (.ref vC2)))
    {vC3 : Addr} (aC3 : PySem.W.nsIn K mainGlobals "NoMark" = some (some (.ref vC3)))
    {vC4 : Addr} (aC4 : PySem.W.nsIn K mainGlobals "NoMeet" = some (some (.ref vC4)))
    {vC5 : Addr} (aC5 : PySem.W.nsIn K mainGlobals "NoName" = some (some (.ref vC5)))
    {vC6 : Addr} (aC6 : PySem.W.nsIn K mainGlobals "NoPair" = some (some (.ref vC6)))
    {vC7 : Addr} (aC7 : PySem.W.nsIn K mainGlobals "NoSuch" = some (some (.ref vC7)))
    {vC8 : Addr} (aC8 : PySem.W.nsIn K mainGlobals "NoText" = some (some (.ref vC8)))
    {vC9 : Addr} (aC9 : PySem.W.nsIn K mainGlobals "NoTie" = some (some (.ref vC9)))
    {vC10 : Addr} (aC10 : PySem.W.nsIn K mainGlobals "NoWay" = some (some (.ref vC10)))
    {vC11 : Addr} (aC11 : PySem.W.nsIn K mainGlobals "PathError" = some (some (.ref vC11)))
    {vC12 : Addr} (aC12 : PySem.W.nsIn K mainGlobals "Reader" = some (some (.ref vC12))) (pg12 : PySem.W.plainGet K vC12 Str.empty = true) (hd12 : PySem.W.hasDictIn K vC12 = true) (po12 : PySem.W.plainOver K vC12 = true) (sa12 : PySem.W.findIn K (.ref vC12) "__setattr__" = some (some (.builtin "object.__setattr__")))
    (mk12 : PySem.W.makesIn K vC12 = true) (kc12 : PySem.W.keepIn K (.ref vC12) = true)
    {vC13 : Addr} (aC13 : PySem.W.nsIn K mainGlobals "TooLong" = some (some (.ref vC13)))
    {vC14 : Addr} (aC14 : PySem.W.nsIn K mainGlobals "TooMany" = some (some (.ref vC14)))
    {vC15 : Addr} (aC15 : PySem.W.nsIn K mainGlobals "Twice" = some (some (.ref vC15)))
    (nf0 : PySem.W.findIn K (.ref vC12) "at_word" = some none)
    (nf1 : PySem.W.findIn K (.ref vC12) "parts_read" = some none)
    (nf2 : PySem.W.findIn K (.ref vC12) "words_read" = some none)
    (a0 : PySem.W.findIn K (.ref vC8) "__init__" = some (some (.ref f0))) (l0 : K.lookup f0 = some ⟨oc0, od0, .func (PySem.W.fnOf "__init__" "NoText.__init__" (defArgs s_NoText_init) (defBody s_NoText_init) (defScope s_NoText_init) .none kV0 dc0 pm0 an0 cd0 ct0), sl0⟩) (c0 : PySem.W.codeIn K cd0 "NoText.__init__" = true) (k0 : PySem.W.keepIn K (.ref f0) = true)
    {xn0 xq0 : Str} {xN0 : Addr} {xb0 xm0 xu0 : List Value} {xs0 : List Str} {xa0 : Bool} {xc0 : Option Bool} {xd0 : Option Addr} {xk00 xk01 xk02 xk03 xk05 : Option Value}
    (xl0 : K.lookup vC8 = some (excClassObj xn0 xq0 vC8 xN0 xb0 xm0 true xs0 xu0 xa0 xc0 xd0 xk00 xk01 xk02 xk03 xk05 "ValueError.__new__")) (xr0 : PySem.HandSPX.refsVE xm0 = true) (xf0 : xfactB K vC8 f0 ["at"] = true)
    (a1 : PySem.W.nsIn K mainGlobals "is_name" = some (some (.ref f1))) (l1 : K.lookup f1 = some ⟨oc1, od1, .func (PySem.W.fnOf "is_name" "is_name" (defArgs s_is_name) (defBody s_is_name) (defScope s_is_name) .none kV1 dc1 pm1 an1 cd1 ct1), sl1⟩) (c1 : PySem.W.codeIn K cd1 "is_name" = true) (k1 : PySem.W.keepIn K (.ref f1) = true)
    (a2 : PySem.W.nsIn K mainGlobals "parts_of" = some (some (.ref f2))) (l2 : K.lookup f2 = some ⟨oc2, od2, .func (PySem.W.fnOf "parts_of" "parts_of" (defArgs s_parts_of) (defBody s_parts_of) (defScope s_parts_of) .none kV2 dc2 pm2 an2 cd2 ct2), sl2⟩) (c2 : PySem.W.codeIn K cd2 "parts_of" = true) (k2 : PySem.W.keepIn K (.ref f2) = true)
    (a3 : PySem.W.nsIn K mainGlobals "number_of" = some (some (.ref f3))) (l3 : K.lookup f3 = some ⟨oc3, od3, .func (PySem.W.fnOf "number_of" "number_of" (defArgs s_number_of) (defBody s_number_of) (defScope s_number_of) .none kV3 dc3 pm3 an3 cd3 ct3), sl3⟩) (c3 : PySem.W.codeIn K cd3 "number_of" = true) (k3 : PySem.W.keepIn K (.ref f3) = true)
    (a4 : PySem.W.findIn K (.ref vC12) "__init__" = some (some (.ref f4))) (i4 : PySem.W.isFn K (.ref f4) = true) (l4 : K.lookup f4 = some ⟨oc4, od4, .func (PySem.W.fnOf "__init__" "Reader.__init__" (defArgs s_Reader_init) (defBody s_Reader_init) (defScope s_Reader_init) .none kV4 dc4 pm4 an4 cd4 ct4), sl4⟩) (c4 : PySem.W.codeIn K cd4 "Reader.__init__" = true) (k4 : PySem.W.keepIn K (.ref f4) = true)
    (a5 : PySem.W.nsIn K mainGlobals "_law_cell_at" = some (some (.ref f5))) (l5 : K.lookup f5 = some ⟨oc5, od5, .func (PySem.W.fnOf "_law_cell_at" "_law_cell_at" (defArgs s_l_cell_at) (defBody s_l_cell_at) (defScope s_l_cell_at) .none kV5 dc5 pm5 an5 cd5 ct5), sl5⟩) (c5 : PySem.W.codeIn K cd5 "_law_cell_at" = true) (k5 : PySem.W.keepIn K (.ref f5) = true)
    (a6 : PySem.W.nsIn K mainGlobals "_law_feed" = some (some (.ref f6))) (l6 : K.lookup f6 = some ⟨oc6, od6, .func (PySem.W.fnOf "_law_feed" "_law_feed" (defArgs s_l_feed) (defBody s_l_feed) (defScope s_l_feed) .none kV6 dc6 pm6 an6 cd6 ct6), sl6⟩) (c6 : PySem.W.codeIn K cd6 "_law_feed" = true) (k6 : PySem.W.keepIn K (.ref f6) = true)
    (a7 : PySem.W.nsIn K mainGlobals "_law_next" = some (some (.ref f7))) (l7 : K.lookup f7 = some ⟨oc7, od7, .func (PySem.W.fnOf "_law_next" "_law_next" (defArgs s_l_next) (defBody s_l_next) (defScope s_l_next) .none kV7 dc7 pm7 an7 cd7 ct7), sl7⟩) (c7 : PySem.W.codeIn K cd7 "_law_next" = true) (k7 : PySem.W.keepIn K (.ref f7) = true)
    (a8 : PySem.W.nsIn K mainGlobals "_law_own" = some (some (.ref f8))) (l8 : K.lookup f8 = some ⟨oc8, od8, .func (PySem.W.fnOf "_law_own" "_law_own" (defArgs s_l_own) (defBody s_l_own) (defScope s_l_own) .none kV8 dc8 pm8 an8 cd8 ct8), sl8⟩) (c8 : PySem.W.codeIn K cd8 "_law_own" = true) (k8 : PySem.W.keepIn K (.ref f8) = true)
    (a9 : PySem.W.nsIn K mainGlobals "_law_words" = some (some (.ref f9))) (l9 : K.lookup f9 = some ⟨oc9, od9, .func (PySem.W.fnOf "_law_words" "_law_words" (defArgs s_l_words) (defBody s_l_words) (defScope s_l_words) .none kV9 dc9 pm9 an9 cd9 ct9), sl9⟩) (c9 : PySem.W.codeIn K cd9 "_law_words" = true) (k9 : PySem.W.keepIn K (.ref f9) = true)
    (a10 : PySem.W.nsIn K mainGlobals "_law_is_name" = some (some (.ref f10))) (l10 : K.lookup f10 = some ⟨oc10, od10, .func (PySem.W.fnOf "_law_is_name" "_law_is_name" (defArgs s_l_is_name) (defBody s_l_is_name) (defScope s_l_is_name) .none kV10 dc10 pm10 an10 cd10 ct10), sl10⟩) (c10 : PySem.W.codeIn K cd10 "_law_is_name" = true) (k10 : PySem.W.keepIn K (.ref f10) = true)
    (a11 : PySem.W.nsIn K mainGlobals "_law_number" = some (some (.ref f11))) (l11 : K.lookup f11 = some ⟨oc11, od11, .func (PySem.W.fnOf "_law_number" "_law_number" (defArgs s_l_number) (defBody s_l_number) (defScope s_l_number) .none kV11 dc11 pm11 an11 cd11 ct11), sl11⟩) (c11 : PySem.W.codeIn K cd11 "_law_number" = true) (k11 : PySem.W.keepIn K (.ref f11) = true)
    (a12 : PySem.W.nsIn K mainGlobals "_law_wanted" = some (some (.ref f12))) (l12 : K.lookup f12 = some ⟨oc12, od12, .func (PySem.W.fnOf "_law_wanted" "_law_wanted" (defArgs s_l_wanted) (defBody s_l_wanted) (defScope s_l_wanted) .none kV12 dc12 pm12 an12 cd12 ct12), sl12⟩) (c12 : PySem.W.codeIn K cd12 "_law_wanted" = true) (k12 : PySem.W.keepIn K (.ref f12) = true)
    (a13 : PySem.W.nsIn K mainGlobals "is_word" = some (some (.ref f13))) (l13 : K.lookup f13 = some ⟨oc13, od13, .func (PySem.W.fnOf "is_word" "is_word" (defArgs s_is_word) (defBody s_is_word) (defScope s_is_word) .none kV13 dc13 pm13 an13 cd13 ct13), sl13⟩) (c13 : PySem.W.codeIn K cd13 "is_word" = true) (k13 : PySem.W.keepIn K (.ref f13) = true)
    (a14 : PySem.W.nsIn K mainGlobals "_law_names" = some (some (.ref f14))) (l14 : K.lookup f14 = some ⟨oc14, od14, .func (PySem.W.fnOf "_law_names" "_law_names" (defArgs s_l_names) (defBody s_l_names) (defScope s_l_names) .none kV14 dc14 pm14 an14 cd14 ct14), sl14⟩) (c14 : PySem.W.codeIn K cd14 "_law_names" = true) (k14 : PySem.W.keepIn K (.ref f14) = true)
    (a15 : PySem.W.nsIn K mainGlobals "_law_leaf" = some (some (.ref f15))) (l15 : K.lookup f15 = some ⟨oc15, od15, .func (PySem.W.fnOf "_law_leaf" "_law_leaf" (defArgs s_l_leaf) (defBody s_l_leaf) (defScope s_l_leaf) .none kV15 dc15 pm15 an15 cd15 ct15), sl15⟩) (c15 : PySem.W.codeIn K cd15 "_law_leaf" = true) (k15 : PySem.W.keepIn K (.ref f15) = true)
    (a16 : PySem.W.nsIn K mainGlobals "_law_fit" = some (some (.ref f16))) (l16 : K.lookup f16 = some ⟨oc16, od16, .func (PySem.W.fnOf "_law_fit" "_law_fit" (defArgs s_l_fit) (defBody s_l_fit) (defScope s_l_fit) .none kV16 dc16 pm16 an16 cd16 ct16), sl16⟩) (c16 : PySem.W.codeIn K cd16 "_law_fit" = true) (k16 : PySem.W.keepIn K (.ref f16) = true)
    (a17 : PySem.W.nsIn K mainGlobals "_law_spoilt" = some (some (.ref f17))) (l17 : K.lookup f17 = some ⟨oc17, od17, .func (PySem.W.fnOf "_law_spoilt" "_law_spoilt" (defArgs s_l_spoilt) (defBody s_l_spoilt) (defScope s_l_spoilt) .none kV17 dc17 pm17 an17 cd17 ct17), sl17⟩) (c17 : PySem.W.codeIn K cd17 "_law_spoilt" = true) (k17 : PySem.W.keepIn K (.ref f17) = true)
    (a18 : PySem.W.nsIn K mainGlobals "_law_great" = some (some (.ref f18))) (l18 : K.lookup f18 = some ⟨oc18, od18, .func (PySem.W.fnOf "_law_great" "_law_great" (defArgs s_l_great) (defBody s_l_great) (defScope s_l_great) .none kV18 dc18 pm18 an18 cd18 ct18), sl18⟩) (c18 : PySem.W.codeIn K cd18 "_law_great" = true) (k18 : PySem.W.keepIn K (.ref f18) = true)
    (a19 : PySem.W.findIn K (.ref vC12) "next_word" = some (some (.ref f19))) (i19 : PySem.W.isFn K (.ref f19) = true) (l19 : K.lookup f19 = some ⟨oc19, od19, .func (PySem.W.fnOf "next_word" "Reader.next_word" (defArgs s_Reader_next_word) (defBody s_Reader_next_word) (defScope s_Reader_next_word) .none kV19 dc19 pm19 an19 cd19 ct19), sl19⟩) (c19 : PySem.W.codeIn K cd19 "Reader.next_word" = true) (k19 : PySem.W.keepIn K (.ref f19) = true)
    (a20 : PySem.W.findIn K (.ref vC12) "ask_last" = some (some (.ref f20))) (i20 : PySem.W.isFn K (.ref f20) = true) (l20 : K.lookup f20 = some ⟨oc20, od20, .func (PySem.W.fnOf "ask_last" "Reader.ask_last" (defArgs s_Reader_ask_last) (defBody s_Reader_ask_last) (defScope s_Reader_ask_last) .none kV20 dc20 pm20 an20 cd20 ct20), sl20⟩) (c20 : PySem.W.codeIn K cd20 "Reader.ask_last" = true) (k20 : PySem.W.keepIn K (.ref f20) = true)
    (a21 : PySem.W.findIn K (.ref vC12) "ask_end" = some (some (.ref f21))) (i21 : PySem.W.isFn K (.ref f21) = true) (l21 : K.lookup f21 = some ⟨oc21, od21, .func (PySem.W.fnOf "ask_end" "Reader.ask_end" (defArgs s_Reader_ask_end) (defBody s_Reader_ask_end) (defScope s_Reader_ask_end) .none kV21 dc21 pm21 an21 cd21 ct21), sl21⟩) (c21 : PySem.W.codeIn K cd21 "Reader.ask_end" = true) (k21 : PySem.W.keepIn K (.ref f21) = true)
    (a22 : PySem.W.nsIn K mainGlobals "_law_wrong" = some (some (.ref f22))) (l22 : K.lookup f22 = some ⟨oc22, od22, .func (PySem.W.fnOf "_law_wrong" "_law_wrong" (defArgs s_l_wrong) (defBody s_l_wrong) (defScope s_l_wrong) .none kV22 dc22 pm22 an22 cd22 ct22), sl22⟩) (c22 : PySem.W.codeIn K cd22 "_law_wrong" = true) (k22 : PySem.W.keepIn K (.ref f22) = true)
    (a23 : PySem.W.findIn K (.ref vC12) "name_next" = some (some (.ref f23))) (i23 : PySem.W.isFn K (.ref f23) = true) (l23 : K.lookup f23 = some ⟨oc23, od23, .func (PySem.W.fnOf "name_next" "Reader.name_next" (defArgs s_Reader_name_next) (defBody s_Reader_name_next) (defScope s_Reader_name_next) .none kV23 dc23 pm23 an23 cd23 ct23), sl23⟩) (c23 : PySem.W.codeIn K cd23 "Reader.name_next" = true) (k23 : PySem.W.keepIn K (.ref f23) = true)
    (a24 : PySem.W.nsIn K mainGlobals "_law_pattern" = some (some (.ref f24))) (l24 : K.lookup f24 = some ⟨oc24, od24, .func (PySem.W.fnOf "_law_pattern" "_law_pattern" (defArgs s_l_pattern) (defBody s_l_pattern) (defScope s_l_pattern) .none kV24 dc24 pm24 an24 cd24 ct24), sl24⟩) (c24 : PySem.W.codeIn K cd24 "_law_pattern" = true) (k24 : PySem.W.keepIn K (.ref f24) = true)
    (a25 : PySem.W.nsIn K mainGlobals "words_of" = some (some (.ref f25))) (l25 : K.lookup f25 = some ⟨oc25, od25, .func (PySem.W.fnOf "words_of" "words_of" (defArgs s_words_of) (defBody s_words_of) (defScope s_words_of) .none kV25 dc25 pm25 an25 cd25 ct25), sl25⟩) (c25 : PySem.W.codeIn K cd25 "words_of" = true) (k25 : PySem.W.keepIn K (.ref f25) = true)
    (a26 : PySem.W.nsIn K mainGlobals "shown" = some (some (.ref f26))) (l26 : K.lookup f26 = some ⟨oc26, od26, .func (PySem.W.fnOf "shown" "shown" (defArgs s_shown) (defBody s_shown) (defScope s_shown) .none kV26 dc26 pm26 an26 cd26 ct26), sl26⟩) (c26 : PySem.W.codeIn K cd26 "shown" = true) (k26 : PySem.W.keepIn K (.ref f26) = true)
    (a27 : PySem.W.findIn K (.ref vC12) "pattern" = some (some (.ref f27))) (i27 : PySem.W.isFn K (.ref f27) = true) (l27 : K.lookup f27 = some ⟨oc27, od27, .func (PySem.W.fnOf "pattern" "Reader.pattern" (defArgs s_Reader_pattern) (defBody s_Reader_pattern) (defScope s_Reader_pattern) .none kV27 dc27 pm27 an27 cd27 ct27), sl27⟩) (c27 : PySem.W.codeIn K cd27 "Reader.pattern" = true) (k27 : PySem.W.keepIn K (.ref f27) = true)
    (a28 : PySem.W.nsIn K mainGlobals "read_pattern" = some (some (.ref f28))) (l28 : K.lookup f28 = some ⟨oc28, od28, .func (PySem.W.fnOf "read_pattern" "read_pattern" (defArgs s_read_pattern) (defBody s_read_pattern) (defScope s_read_pattern) .none kV28 dc28 pm28 an28 cd28 ct28), sl28⟩) (c28 : PySem.W.codeIn K cd28 "read_pattern" = true) (k28 : PySem.W.keepIn K (.ref f28) = true)
    (a29 : PySem.W.nsIn K mainGlobals "_law_right" = some (some (.ref f29))) (l29 : K.lookup f29 = some ⟨oc29, od29, .func (PySem.W.fnOf "_law_right" "_law_right" (defArgs s_l_right) (defBody s_l_right) (defScope s_l_right) .none kV29 dc29 pm29 an29 cd29 ct29), sl29⟩) (c29 : PySem.W.codeIn K cd29 "_law_right" = true) (k29 : PySem.W.keepIn K (.ref f29) = true)
    (a30 : PySem.W.nsIn K mainGlobals "law" = some (some (.ref f30))) (l30 : K.lookup f30 = some ⟨oc30, od30, .func (PySem.W.fnOf "law" "law" (defArgs s_law) (defBody s_law) (defScope s_law) .none kV30 dc30 pm30 an30 cd30 ct30), sl30⟩) (c30 : PySem.W.codeIn K cd30 "law" = true) (k30 : PySem.W.keepIn K (.ref f30) = true)
    {u0 u1 u2 u3 u4 u5 u6 : Tok}
    {ta0 : Addr} {tn0 : Nat}  {tt0_0 tt0_1 tt0_2 tt0_3 tt0_4 tt0_5 tt0_6 tt0_7 : Tok}
    (gt0 : PySem.W.nsIn K mainGlobals "HEADS" = some (some (.ref ta0))) (lt0 : K.lookup ta0 = some ⟨.type "tuple", none, .seq #[.str "stay" tt0_0, .str "on" tt0_1, .str "back" tt0_2, .str "at" tt0_3, .str "off" tt0_4, .str "then" tt0_5, .str "either" tt0_6, .str "many" tt0_7] tn0, #[]⟩)
    {ta1 : Addr} {tn1 : Nat}  {tt1_0 tt1_1 : Tok}
    (gt1 : PySem.W.nsIn K mainGlobals "SIDES" = some (some (.ref ta1))) (lt1 : K.lookup ta1 = some ⟨.type "tuple", none, .seq #[.str "on" tt1_0, .str "back" tt1_1] tn1, #[]⟩)
    (gg0 : PySem.W.nsIn K mainGlobals "ANY_WORD" = some (some (.str "*" u0)))
    (gg1 : PySem.W.nsIn K mainGlobals "FIGURES" = some (some (.str "0123456789" u1)))
    (gg2 : PySem.W.nsIn K mainGlobals "LETTERS" = some (some (.str "abcdefghijklmnopqrstuvwxyz" u2)))
    (gg3 : PySem.W.nsIn K mainGlobals "MOST_DEEP" = some (some (.int 10 u3)))
    (gg4 : PySem.W.nsIn K mainGlobals "MOST_PARTS" = some (some (.int 40 u4)))
    (gg5 : PySem.W.nsIn K mainGlobals "MOST_SIGNS" = some (some (.int 8 u5)))
    (gg6 : PySem.W.nsIn K mainGlobals "MOST_WITHIN" = some (some (.int 39 u6)))
    (xB0 : basexB K vC11 = true)
    (xK0 : exmfB K (.ref vC11) [(vC8, true)] = true)
    (xK1 : kitfB K (.ref vC0) [(vC8, false)] = true)
    (xK2 : kitfB K (.ref vC1) [(vC8, false)] = true)
    (xK3 : kitfB K (.ref vC2) [(vC8, false)] = true)
    (xK4 : kitfB K (.ref vC3) [(vC8, false)] = true)
    (xK5 : kitfB K (.ref vC4) [(vC8, false)] = true)
    (xK6 : kitfB K (.ref vC5) [(vC8, false)] = true)
    (xK7 : kitfB K (.ref vC6) [(vC8, false)] = true)
    (xK8 : kitfB K (.ref vC7) [(vC8, false)] = true)
    (xK9 : kitfB K (.ref vC8) [(vC8, true)] = true)
    (xK10 : kitfB K (.ref vC9) [(vC8, false)] = true)
    (xK11 : kitfB K (.ref vC10) [(vC8, false)] = true)
    (xK12 : kitfB K (.ref vC13) [(vC8, false)] = true)
    (xK13 : kitfB K (.ref vC14) [(vC8, false)] = true)
    (xK14 : kitfB K (.ref vC15) [(vC8, false)] = true)
    (xK15 : kitfB K (.type "ValueError") [(vC8, true)] = true)
    (z0 : PySem.W.nsIn K mainGlobals "ValueError" = some none)
    (z1 : PySem.W.nsIn K mainGlobals "all" = some none)
    (z2 : PySem.W.nsIn K mainGlobals "bool" = some none)
    (z3 : PySem.W.nsIn K mainGlobals "int" = some none)
    (z4 : PySem.W.nsIn K mainGlobals "isinstance" = some none)
    (z5 : PySem.W.nsIn K mainGlobals "len" = some none)
    (z6 : PySem.W.nsIn K mainGlobals "list" = some none)
    (z7 : PySem.W.nsIn K mainGlobals "max" = some none)
    (z8 : PySem.W.nsIn K mainGlobals "min" = some none)
    (z9 : PySem.W.nsIn K mainGlobals "range" = some none)
    (z10 : PySem.W.nsIn K mainGlobals "reversed" = some none)
    (z11 : PySem.W.nsIn K mainGlobals "str" = some none)
    (z12 : PySem.W.nsIn K mainGlobals "tuple" = some none)
    : ∃ fd : FuncData, (∀ (s : Shared) (v : Value), BindsTo s fd ⟨[v], []⟩ [("_law_script", v)]) ∧ ∀ base : Heap, K.In base → base.Ns mainGlobals mg → DFn l.prog w K mg base 28 fa fd ["_law_script"] sp_law := by
  have e := hfa.symm.trans (PySem.W.mg_of X G a30)
  cases e
  obtain ⟨T, e1, e2⟩ : ∃ T : Txt w K mg, T.a_law = fa ∧ T.f_law = PySem.W.fnOf "law" "law" (defArgs s_law) (defBody s_law) (defScope s_law) .none kV30 dc30 pm30 an30 cd30 ct30 :=
    ⟨{ C_GoesRound := vC0, g_GoesRound := PySem.W.mg_of X G aC0,
       C_NoKnot := vC1, g_NoKnot := PySem.W.mg_of X G aC1,
       C_NoLine := vC2, g_NoLine := PySem.W.mg_of X G aC2,
       C_NoMark := vC3, g_NoMark := PySem.W.mg_of X G aC3,
       C_NoMeet := vC4, g_NoMeet := PySem.W.mg_of X G aC4,
       C_NoName := vC5, g_NoName := PySem.W.mg_of X G aC5,
       C_NoPair := vC6, g_NoPair := PySem.W.mg_of X G aC6,
       C_NoSuch := vC7, g_NoSuch := PySem.W.mg_of X G aC7,
       C_NoText := vC8, g_NoText := PySem.W.mg_of X G aC8,
       C_NoTie := vC9, g_NoTie := PySem.W.mg_of X G aC9,
       C_NoWay := vC10, g_NoWay := PySem.W.mg_of X G aC10,
       C_PathError := vC11, g_PathError := PySem.W.mg_of X G aC11,
       C_Reader := vC12, c_Reader := ⟨pg12, hd12, po12, sa12⟩, g_Reader := PySem.W.mg_of X G aC12,
       C_TooLong := vC13, g_TooLong := PySem.W.mg_of X G aC13,
       C_TooMany := vC14, g_TooMany := PySem.W.mg_of X G aC14,
       C_Twice := vC15, g_Twice := PySem.W.mg_of X G aC15,
       n_Reader_at_word := nf0,
       n_Reader_parts_read := nf1,
       n_Reader_words_read := nf2,
       a_NoText_init := f0, f_NoText_init := _, F_NoText_init := fun_mk (st := s_NoText_init) l0 c0 k0, x_NoText := ext_of xl0 xr0 xf0, d_NoText_init := (fun_mk (st := s_NoText_init) l0 c0 k0).binds (ps := ["self", "at"]) fun _ _ _ _ _ _ us hl => match us, hl with | [_, _], _ => rfl,
       a_is_name := f1, f_is_name := _, F_is_name := fun_mk (st := s_is_name) l1 c1 k1, m_is_name := PySem.W.mg_of X G a1, d_is_name := (fun_mk (st := s_is_name) l1 c1 k1).binds (ps := ["thing"]) fun _ _ _ _ _ _ us hl => match us, hl with | [_], _ => rfl,
       a_parts_of := f2, f_parts_of := _, F_parts_of := fun_mk (st := s_parts_of) l2 c2 k2, m_parts_of := PySem.W.mg_of X G a2, d_parts_of := (fun_mk (st := s_parts_of) l2 c2 k2).binds (ps := ["pattern"]) fun _ _ _ _ _ _ us hl => match us, hl with | [_], _ => rfl,
       a_number_of := f3, f_number_of := _, F_number_of := fun_mk (st := s_number_of) l3 c3 k3, m_number_of := PySem.W.mg_of X G a3, d_number_of := (fun_mk (st := s_number_of) l3 c3 k3).binds (ps := ["word"]) fun _ _ _ _ _ _ us hl => match us, hl with | [_], _ => rfl,
       a_Reader_init := f4, f_Reader_init := _, F_Reader_init := fun_mk (st := s_Reader_init) l4 c4 k4, k_Reader := ⟨mk12, a4, i4, kc12⟩, d_Reader_init := (fun_mk (st := s_Reader_init) l4 c4 k4).binds (ps := ["self", "words", "at"]) fun _ _ _ _ _ _ us hl => match us, hl with | [_, _, _], _ => rfl,
       a_l_cell_at := f5, f_l_cell_at := _, F_l_cell_at := fun_mk (st := s_l_cell_at) l5 c5 k5, m_l_cell_at := PySem.W.mg_of X G a5, d_l_cell_at := (fun_mk (st := s_l_cell_at) l5 c5 k5).binds (ps := ["_law_script", "_law_k"]) fun _ _ _ _ _ _ us hl => match us, hl with | [_, _], _ => rfl,
       a_l_feed := f6, f_l_feed := _, F_l_feed := fun_mk (st := s_l_feed) l6 c6 k6, m_l_feed := PySem.W.mg_of X G a6, d_l_feed := (fun_mk (st := s_l_feed) l6 c6 k6).binds (ps := ["_law_cell"]) fun _ _ _ _ _ _ us hl => match us, hl with | [_], _ => rfl,
       a_l_next := f7, f_l_next := _, F_l_next := fun_mk (st := s_l_next) l7 c7 k7, m_l_next := PySem.W.mg_of X G a7, d_l_next := (fun_mk (st := s_l_next) l7 c7 k7).binds (ps := ["_law_feed_here", "_law_many"]) fun _ _ _ _ _ _ us hl => match us, hl with | [_, _], _ => rfl,
       a_l_own := f8, f_l_own := _, F_l_own := fun_mk (st := s_l_own) l8 c8 k8, m_l_own := PySem.W.mg_of X G a8, d_l_own := (fun_mk (st := s_l_own) l8 c8 k8).binds (ps := ["_law_e"]) fun _ _ _ _ _ _ us hl => match us, hl with | [_], _ => rfl,
       a_l_words := f9, f_l_words := _, F_l_words := fun_mk (st := s_l_words) l9 c9 k9, m_l_words := PySem.W.mg_of X G a9, d_l_words := (fun_mk (st := s_l_words) l9 c9 k9).binds (ps := ["_law_pattern_here"]) fun _ _ _ _ _ _ us hl => match us, hl with | [_], _ => rfl,
       a_l_is_name := f10, f_l_is_name := _, F_l_is_name := fun_mk (st := s_l_is_name) l10 c10 k10, m_l_is_name := PySem.W.mg_of X G a10, d_l_is_name := (fun_mk (st := s_l_is_name) l10 c10 k10).binds (ps := ["_law_word"]) fun _ _ _ _ _ _ us hl => match us, hl with | [_], _ => rfl,
       a_l_number := f11, f_l_number := _, F_l_number := fun_mk (st := s_l_number) l11 c11 k11, m_l_number := PySem.W.mg_of X G a11, d_l_number := (fun_mk (st := s_l_number) l11 c11 k11).binds (ps := ["_law_word"]) fun _ _ _ _ _ _ us hl => match us, hl with | [_], _ => rfl,
       a_l_wanted := f12, f_l_wanted := _, F_l_wanted := fun_mk (st := s_l_wanted) l12 c12 k12, m_l_wanted := PySem.W.mg_of X G a12, d_l_wanted := (fun_mk (st := s_l_wanted) l12 c12 k12).binds (ps := ["_law_word", "_law_deep"]) fun _ _ _ _ _ _ us hl => match us, hl with | [_, _], _ => rfl,
       a_is_word := f13, f_is_word := _, F_is_word := fun_mk (st := s_is_word) l13 c13 k13, m_is_word := PySem.W.mg_of X G a13, d_is_word := (fun_mk (st := s_is_word) l13 c13 k13).binds (ps := ["thing"]) fun _ _ _ _ _ _ us hl => match us, hl with | [_], _ => rfl,
       a_l_names := f14, f_l_names := _, F_l_names := fun_mk (st := s_l_names) l14 c14 k14, m_l_names := PySem.W.mg_of X G a14, d_l_names := (fun_mk (st := s_l_names) l14 c14 k14).binds (ps := ["_law_feed_here", "_law_many"]) fun _ _ _ _ _ _ us hl => match us, hl with | [_, _], _ => rfl,
       a_l_leaf := f15, f_l_leaf := _, F_l_leaf := fun_mk (st := s_l_leaf) l15 c15 k15, m_l_leaf := PySem.W.mg_of X G a15, d_l_leaf := (fun_mk (st := s_l_leaf) l15 c15 k15).binds (ps := ["_law_feed_here", "_law_names_here"]) fun _ _ _ _ _ _ us hl => match us, hl with | [_, _], _ => rfl,
       a_l_fit := f16, f_l_fit := _, F_l_fit := fun_mk (st := s_l_fit) l16 c16 k16, m_l_fit := PySem.W.mg_of X G a16, d_l_fit := (fun_mk (st := s_l_fit) l16 c16 k16).binds (ps := ["_law_sort", "_law_word"]) fun _ _ _ _ _ _ us hl => match us, hl with | [_, _], _ => rfl,
       a_l_spoilt := f17, f_l_spoilt := _, F_l_spoilt := fun_mk (st := s_l_spoilt) l17 c17 k17, m_l_spoilt := PySem.W.mg_of X G a17, d_l_spoilt := (fun_mk (st := s_l_spoilt) l17 c17 k17).binds (ps := ["_law_feed_here", "_law_words_here", "_law_names_here"]) fun _ _ _ _ _ _ us hl => match us, hl with | [_, _, _], _ => rfl,
       a_l_great := f18, f_l_great := _, F_l_great := fun_mk (st := s_l_great) l18 c18 k18, m_l_great := PySem.W.mg_of X G a18, d_l_great := (fun_mk (st := s_l_great) l18 c18 k18).binds (ps := ["_law_feed_here"]) fun _ _ _ _ _ _ us hl => match us, hl with | [_], _ => rfl,
       a_Reader_next_word := f19, f_Reader_next_word := _, F_Reader_next_word := fun_mk (st := s_Reader_next_word) l19 c19 k19, M_Reader_next_word := ⟨a19, i19, k19⟩, d_Reader_next_word := (fun_mk (st := s_Reader_next_word) l19 c19 k19).binds (ps := ["self"]) fun _ _ _ _ _ _ us hl => match us, hl with | [_], _ => rfl,
       a_Reader_ask_last := f20, f_Reader_ask_last := _, F_Reader_ask_last := fun_mk (st := s_Reader_ask_last) l20 c20 k20, M_Reader_ask_last := ⟨a20, i20, k20⟩, d_Reader_ask_last := (fun_mk (st := s_Reader_ask_last) l20 c20 k20).binds (ps := ["self", "good"]) fun _ _ _ _ _ _ us hl => match us, hl with | [_, _], _ => rfl,
       a_Reader_ask_end := f21, f_Reader_ask_end := _, F_Reader_ask_end := fun_mk (st := s_Reader_ask_end) l21 c21 k21, M_Reader_ask_end := ⟨a21, i21, k21⟩, d_Reader_ask_end := (fun_mk (st := s_Reader_ask_end) l21 c21 k21).binds (ps := ["self"]) fun _ _ _ _ _ _ us hl => match us, hl with | [_], _ => rfl,
       a_l_wrong := f22, f_l_wrong := _, F_l_wrong := fun_mk (st := s_l_wrong) l22 c22 k22, m_l_wrong := PySem.W.mg_of X G a22, d_l_wrong := (fun_mk (st := s_l_wrong) l22 c22 k22).binds (ps := ["_law_words_here"]) fun _ _ _ _ _ _ us hl => match us, hl with | [_], _ => rfl,
       a_Reader_name_next := f23, f_Reader_name_next := _, F_Reader_name_next := fun_mk (st := s_Reader_name_next) l23 c23 k23, M_Reader_name_next := ⟨a23, i23, k23⟩, d_Reader_name_next := (fun_mk (st := s_Reader_name_next) l23 c23 k23).binds (ps := ["self"]) fun _ _ _ _ _ _ us hl => match us, hl with | [_], _ => rfl,
       a_l_pattern := f24, f_l_pattern := _, F_l_pattern := fun_mk (st := s_l_pattern) l24 c24 k24, m_l_pattern := PySem.W.mg_of X G a24, d_l_pattern := (fun_mk (st := s_l_pattern) l24 c24 k24).binds (ps := ["_law_feed_here", "_law_names_here", "_law_deep"]) fun _ _ _ _ _ _ us hl => match us, hl with | [_, _, _], _ => rfl,
       a_words_of := f25, f_words_of := _, F_words_of := fun_mk (st := s_words_of) l25 c25 k25, m_words_of := PySem.W.mg_of X G a25, d_words_of := (fun_mk (st := s_words_of) l25 c25 k25).binds (ps := ["pattern"]) fun _ _ _ _ _ _ us hl => match us, hl with | [_], _ => rfl,
       a_shown := f26, f_shown := _, F_shown := fun_mk (st := s_shown) l26 c26 k26, m_shown := PySem.W.mg_of X G a26, d_shown := (fun_mk (st := s_shown) l26 c26 k26).binds (ps := ["pattern"]) fun _ _ _ _ _ _ us hl => match us, hl with | [_], _ => rfl,
       a_Reader_pattern := f27, f_Reader_pattern := _, F_Reader_pattern := fun_mk (st := s_Reader_pattern) l27 c27 k27, M_Reader_pattern := ⟨a27, i27, k27⟩, d_Reader_pattern := (fun_mk (st := s_Reader_pattern) l27 c27 k27).binds (ps := ["self", "deep"]) fun _ _ _ _ _ _ us hl => match us, hl with | [_, _], _ => rfl,
       a_read_pattern := f28, f_read_pattern := _, F_read_pattern := fun_mk (st := s_read_pattern) l28 c28 k28, m_read_pattern := PySem.W.mg_of X G a28, d_read_pattern := (fun_mk (st := s_read_pattern) l28 c28 k28).binds (ps := ["text"]) fun _ _ _ _ _ _ us hl => match us, hl with | [_], _ => rfl,
       a_l_right := f29, f_l_right := _, F_l_right := fun_mk (st := s_l_right) l29 c29 k29, m_l_right := PySem.W.mg_of X G a29, d_l_right := (fun_mk (st := s_l_right) l29 c29 k29).binds (ps := ["_law_text"]) fun _ _ _ _ _ _ us hl => match us, hl with | [_], _ => rfl,
       a_law := fa, f_law := _, F_law := fun_mk (st := s_law) l30 c30 k30, m_law := PySem.W.mg_of X G a30, d_law := (fun_mk (st := s_law) l30 c30 k30).binds (ps := ["_law_script"]) fun _ _ _ _ _ _ us hl => match us, hl with | [_], _ => rfl,
       a_HEADS := ta0, i_HEADS := _, n_HEADS := _, g_HEADS := PySem.W.mg_of X G gt0, l_HEADS := lt0, z_HEADS := (show 8 ≤ sizeLine by decide), v_HEADS := ⟨[.str "stay", .str "on", .str "back", .str "at", .str "off", .str "then", .str "either", .str "many"], .cons ⟨_, rfl⟩ (.cons ⟨_, rfl⟩ (.cons ⟨_, rfl⟩ (.cons ⟨_, rfl⟩ (.cons ⟨_, rfl⟩ (.cons ⟨_, rfl⟩ (.cons ⟨_, rfl⟩ (.cons ⟨_, rfl⟩ (.nil)))))))), fun H => RDs.cons rfl (RDs.cons rfl (RDs.cons rfl (RDs.cons rfl (RDs.cons rfl (RDs.cons rfl (RDs.cons rfl (RDs.cons rfl (.nil))))))))⟩,
       a_SIDES := ta1, i_SIDES := _, n_SIDES := _, g_SIDES := PySem.W.mg_of X G gt1, l_SIDES := lt1, z_SIDES := (show 2 ≤ sizeLine by decide), v_SIDES := ⟨[.str "on", .str "back"], .cons ⟨_, rfl⟩ (.cons ⟨_, rfl⟩ (.nil)), fun H => RDs.cons rfl (RDs.cons rfl (.nil))⟩,
       t_ANY_WORD := _, g_ANY_WORD := PySem.W.mg_of X G gg0,
       t_FIGURES := _, g_FIGURES := PySem.W.mg_of X G gg1,
       t_LETTERS := _, g_LETTERS := PySem.W.mg_of X G gg2,
       t_MOST_DEEP := _, g_MOST_DEEP := PySem.W.mg_of X G gg3,
       t_MOST_PARTS := _, g_MOST_PARTS := PySem.W.mg_of X G gg4,
       t_MOST_SIGNS := _, g_MOST_SIGNS := PySem.W.mg_of X G gg5,
       t_MOST_WITHIN := _, g_MOST_WITHIN := PySem.W.mg_of X G gg6,
       i_PathError := base_of xB0,
       ex_PathError := exmf_of xK0,
       kt_GoesRound := kitf_of xK1,
       kt_NoKnot := kitf_of xK2,
       kt_NoLine := kitf_of xK3,
       kt_NoMark := kitf_of xK4,
       kt_NoMeet := kitf_of xK5,
       kt_NoName := kitf_of xK6,
       kt_NoPair := kitf_of xK7,
       kt_NoSuch := kitf_of xK8,
       kt_NoText := kitf_of xK9,
       kt_NoTie := kitf_of xK10,
       kt_NoWay := kitf_of xK11,
       kt_TooLong := kitf_of xK12,
       kt_TooMany := kitf_of xK13,
       kt_Twice := kitf_of xK14,
       kt_ValueError := kitf_of xK15,
       b_ValueError := PySem.W.mg_none_of X G z0,
       b_all := PySem.W.mg_none_of X G z1,
       b_bool := PySem.W.mg_none_of X G z2,
       b_int := PySem.W.mg_none_of X G z3,
       b_isinstance := PySem.W.mg_none_of X G z4,
       b_len := PySem.W.mg_none_of X G z5,
       b_list := PySem.W.mg_none_of X G z6,
       b_max := PySem.W.mg_none_of X G z7,
       b_min := PySem.W.mg_none_of X G z8,
       b_range := PySem.W.mg_none_of X G z9,
       b_reversed := PySem.W.mg_none_of X G z10,
       b_str := PySem.W.mg_none_of X G z11,
       b_tuple := PySem.W.mg_none_of X G z12 }, rfl, rfl⟩
  refine ⟨PySem.W.fnOf "law" "law" (defArgs s_law) (defBody s_law) (defScope s_law) .none kV30 dc30 pm30 an30 cd30 ct30, fun s v => .of_eq rfl, fun base _ _ => ?_⟩
  rw [← e1, ← e2]
  exact all_go T
end
theorem sp_law_all (ns : List Int) (S : DH) (h : ns.length ≤ 63) : sp_law [.rol (ns.map D.int)] S (fun d _ => d = .bl true) fun _ _ _ => False := ⟨ns, rfl, h, fun _ => rfl⟩
theorem walk {l : PySem.W.OpenLaw} {q : Program} {loose : List Str} {XP : (Str → Option Value) → Heap → Prop} {YP : World → Heap → Prop} {d : DefRec} {K : Params → PySem.W.Frag} (hn : l.most = some 63) (hdf : d.params.defaults = []) (hY : ∀ (w : World) (h : Heap), YP w h → (K w.params).In h)
    (F : ∀ (w : World) (mg : Str → Option Value) (fa : Addr) (h : Heap), (K w.params).In h → h.Ns mainGlobals mg → mg d.name = some (.ref fa) →
      ∃ fd : FuncData, (∀ (s : Shared) (u : Value), BindsTo s fd ⟨[u], []⟩ [("_law_script", u)]) ∧ ∀ base : Heap, (K w.params).In base → base.Ns mainGlobals mg → DFn l.prog w (K w.params) mg base 28 fa fd ["_law_script"] sp_law) : PySem.W.WalkO q loose XP YP l.row.toRowW d [] (fun f vs => PySem.call f vs) :=
  dwalk (n := 63) (k := 28) hn (by decide) hdf ⟨rfl, by decide, by decide⟩ hY F fun ns S hl => sp_law_all ns S hl
end K11X
set_option maxRecDepth 100000
open PySem PySem.W PyProof.Rows
set_option maxRecDepth 100000 in
set_option maxHeartbeats 0 in
theorem K11X.row_holds : OpenRow.Holds (OpenLaw.row PySem.Challenge.rw_pathask_k11_texts_that_write_no_pattern) := by
  have hsaid := K11XS.said; k_headL; (case hw => w_witness2)
  k_fill
  as_aux_lemma =>
    refine K11X.walk (l := PySem.Challenge.rw_pathask_k11_texts_that_write_no_pattern) rfl rfl (fun w h Y => PySem.W.kIn_of Y) ?F
    case F =>
      intro w mg fa h KX G hmg
      refine' K11X.all_mk KX G hmg ?aC0 ?aC1 ?aC2 ?aC3 ?aC4 ?aC5 ?aC6 ?aC7 ?aC8 ?aC9 ?aC10 ?aC11 ?aC12 ?pg12 ?hd12 ?po12 ?sa12 ?mk12 ?kc12 ?aC13 ?aC14 ?aC15 ?nf0 ?nf1 ?nf2 ?a0 ?l0 ?c0 ?k0 ?xl0 ?xr0 ?xf0 ?a1 ?l1 ?c1 ?k1 ?a2 ?l2 ?c2 ?k2 ?a3 ?l3 ?c3 ?k3 ?a4 ?i4 ?l4 ?c4 ?k4 ?a5 ?l5 ?c5 ?k5 ?a6 ?l6 ?c6 ?k6 ?a7 ?l7 ?c7 ?k7 ?a8 ?l8 ?c8 ?k8 ?a9 ?l9 ?c9 ?k9 ?a10 ?l10 ?c10 ?k10 ?a11 ?l11 ?c11 ?k11 ?a12 ?l12 ?c12 ?k12 ?a13 ?l13 ?c13 ?k13 ?a14 ?l14 ?c14 ?k14 ?a15 ?l15 ?c15 ?k15 ?a16 ?l16 ?c16 ?k16 ?a17 ?l17 ?c17 ?k17 ?a18 ?l18 ?c18 ?k18 ?a19 ?i19 ?l19 ?c19 ?k19 ?a20 ?i20 ?l20 ?c20 ?k20 ?a21 ?i21 ?l21 ?c21 ?k21 ?a22 ?l22 ?c22 ?k22 ?a23 ?i23 ?l23 ?c23 ?k23 ?a24 ?l24 ?c24 ?k24 ?a25 ?l25 ?c25 ?k25 ?a26 ?l26 ?c26 ?k26 ?a27 ?i27 ?l27 ?c27 ?k27 ?a28 ?l28 ?c28 ?k28 ?a29 ?l29 ?c29 ?k29 ?a30 ?l30 ?c30 ?k30 ?gt0 ?lt0 ?gt1 ?lt1 ?gg0 ?gg1 ?gg2 ?gg3 ?gg4 ?gg5 ?gg6 ?xB0 ?xK0 ?xK1 ?xK2 ?xK3 ?xK4 ?xK5 ?xK6 ?xK7 ?xK8 ?xK9 ?xK10 ?xK11 ?xK12 ?xK13 ?xK14 ?xK15 ?z0 ?z1 ?z2 ?z3 ?z4 ?z5 ?z6 ?z7 ?z8 ?z9 ?z10 ?z11 ?z12
      (case aC0 => k_is); (case aC1 => k_is); (case aC2 => k_is); (case aC3 => k_is)
      (case aC4 => k_is); (case aC5 => k_is); (case aC6 => k_is); (case aC7 => k_is)
      (case aC8 => k_is); (case aC9 => k_is); (case aC10 => k_is); (case aC11 => k_is)
      (case aC12 => k_is); (case pg12 => k_is); (case hd12 => k_is); (case po12 => k_is)
      (case sa12 => k_is); (case mk12 => k_is); (case kc12 => k_is); (case aC13 => k_is)
      (case aC14 => k_is); (case aC15 => k_is); (case nf0 => k_is); (case nf1 => k_is)
      (case nf2 => k_is); (case a0 => k_is); (case l0 => k_is); (case c0 => k_is)
      (case k0 => k_is); (case xl0 => k_is); (case xr0 => kernel_rfl); (case xf0 => kernel_rfl)
      (case a1 => k_is); (case l1 => k_is); (case c1 => k_is); (case k1 => k_is)
      (case a2 => k_is); (case l2 => k_is); (case c2 => k_is); (case k2 => k_is)
      (case a3 => k_is); (case l3 => k_is); (case c3 => k_is); (case k3 => k_is)
      (case a4 => k_is); (case i4 => k_is); (case l4 => k_is); (case c4 => k_is)
      (case k4 => k_is); (case a5 => k_is); (case l5 => k_is); (case c5 => k_is)
      (case k5 => k_is); (case a6 => k_is); (case l6 => k_is); (case c6 => k_is)
      (case k6 => k_is); (case a7 => k_is); (case l7 => k_is); (case c7 => k_is)
      (case k7 => k_is); (case a8 => k_is); (case l8 => k_is); (case c8 => k_is)
      (case k8 => k_is); (case a9 => k_is); (case l9 => k_is); (case c9 => k_is)
      (case k9 => k_is); (case a10 => k_is); (case l10 => k_is); (case c10 => k_is)
      (case k10 => k_is); (case a11 => k_is); (case l11 => k_is); (case c11 => k_is)
      (case k11 => k_is); (case a12 => k_is); (case l12 => k_is); (case c12 => k_is)
      (case k12 => k_is); (case a13 => k_is); (case l13 => k_is); (case c13 => k_is)
      (case k13 => k_is); (case a14 => k_is); (case l14 => k_is); (case c14 => k_is)
      (case k14 => k_is); (case a15 => k_is); (case l15 => k_is); (case c15 => k_is)
      (case k15 => k_is); (case a16 => k_is); (case l16 => k_is); (case c16 => k_is)
      (case k16 => k_is); (case a17 => k_is); (case l17 => k_is); (case c17 => k_is)
      (case k17 => k_is); (case a18 => k_is); (case l18 => k_is); (case c18 => k_is)
      (case k18 => k_is); (case a19 => k_is); (case i19 => k_is); (case l19 => k_is)
      (case c19 => k_is); (case k19 => k_is); (case a20 => k_is); (case i20 => k_is)
      (case l20 => k_is); (case c20 => k_is); (case k20 => k_is); (case a21 => k_is)
      (case i21 => k_is); (case l21 => k_is); (case c21 => k_is); (case k21 => k_is)
      (case a22 => k_is); (case l22 => k_is); (case c22 => k_is); (case k22 => k_is)
      (case a23 => k_is); (case i23 => k_is); (case l23 => k_is); (case c23 => k_is)
      (case k23 => k_is); (case a24 => k_is); (case l24 => k_is); (case c24 => k_is)
      (case k24 => k_is); (case a25 => k_is); (case l25 => k_is); (case c25 => k_is)
      (case k25 => k_is); (case a26 => k_is); (case l26 => k_is); (case c26 => k_is)
      (case k26 => k_is); (case a27 => k_is); (case i27 => k_is); (case l27 => k_is)
      (case c27 => k_is); (case k27 => k_is); (case a28 => k_is); (case l28 => k_is)
      (case c28 => k_is); (case k28 => k_is); (case a29 => k_is); (case l29 => k_is)
      (case c29 => k_is); (case k29 => k_is); (case a30 => k_is); (case l30 => k_is)
      (case c30 => k_is); (case k30 => k_is); (case gt0 => k_is); (case lt0 => k_is)
      (case gt1 => k_is); (case lt1 => k_is); (case gg0 => k_is); (case gg1 => k_is)
      (case gg2 => k_is); (case gg3 => k_is); (case gg4 => k_is); (case gg5 => k_is)
      (case gg6 => k_is); (case xB0 => kernel_rfl); (case xK0 => kernel_rfl); (case xK1 => kernel_rfl)
      (case xK2 => kernel_rfl); (case xK3 => kernel_rfl); (case xK4 => kernel_rfl); (case xK5 => kernel_rfl)
      (case xK6 => kernel_rfl); (case xK7 => kernel_rfl); (case xK8 => kernel_rfl); (case xK9 => kernel_rfl)
      (case xK10 => kernel_rfl); (case xK11 => kernel_rfl); (case xK12 => kernel_rfl); (case xK13 => kernel_rfl)
      (case xK14 => kernel_rfl); (case xK15 => kernel_rfl); (case z0 => k_is); (case z1 => k_is)
      (case z2 => k_is); (case z3 => k_is); (case z4 => k_is); (case z5 => k_is)
      (case z6 => k_is); (case z7 => k_is); (case z8 => k_is); (case z9 => k_is)
      (case z10 => k_is); (case z11 => k_is); (case z12 => k_is)
set_option maxHeartbeats 0 in
theorem PySem.Challenge.cw_pathask_k11_texts_that_write_no_pattern_holds : PySem.Challenge.rw_pathask_k11_texts_that_write_no_pattern.Holds := by
  w_on; o_law
  exact K11X.row_holds
