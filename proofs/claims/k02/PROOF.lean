import PyProof.Rows.All
import Wide.All
import OpenK.AllK
import Wide.FinOn
import HandS.ForMost
import HandS.Exc
import HandS.TryOnly
import HandS.ExcOwn
import HandS.WordsExc
import HandS.Wide
import HandS.SortInts
import HandS.IsInst
import HandS.Deep
import HandS.Lambda
import HandS.Walk
import HandS.Style
import KE.GoesEnum
import HandS.EndBits
import HandS.TupAny
import HandS.DictComp
import HandS.SetFor
import HandS.StrMore
import HandS.More
import HandS.TupMul
import HandS.Strs
import HandS.Conv
import HandS.Codes
import HandS.EndTab
import HandS.TryMany
import KE.KExcIs
import HandS.ExcField
import HandS.Zip
import PySem.Challenge.RW_wholeways_k02_disks_refused
set_option Elab.async false
set_option linter.all false
set_option maxRecDepth 100000
set_option maxHeartbeats 4000000
/-! A layer of plain data over the hand layer: values are trees (D), what may change stands in a store by address (SS). -/
namespace DP
open PySem L2

/-- plain data: what never changes is a tree; ref: an object by its address -/
inductive D where
  | non | bl (b : Bool) | int (i : Int) | str (x : Str) | tup (xs : List D) | fl (xs : List D) | ref (a : Addr) | ty (n : String) | lam (f c : Addr) (q : Str) (G : Hp)
/-- what may change -/
inductive MO where
  | lst (xs : List D) | dk (kvs : List (Key × D)) | dt (kvs : List (List Key × D)) | ins (C : Addr) (fs : List (Str × D)) | xd (fs : List (Str × D)) | fdk (od : Obj) (vs : List (Key × V)) (kvs : List (Key × D)) | tb (T : List (Addr × Str))
abbrev SS := Addr → Option MO
abbrev DEnv := List (Option D)
def sup (S : SS) (a : Addr) (o : MO) : SS := fun b => if b = a then some o else S b
def sdel (S : SS) (a : Addr) : SS := fun b => if b = a then none else S b
theorem sup_same {S : SS} {a : Addr} {o : MO} : sup S a o a = some o := if_pos rfl
theorem sup_ne {S : SS} {a b : Addr} {o : MO} (h : b ≠ a) : sup S a o b = S b := if_neg h
theorem sdel_same {S : SS} {a : Addr} : sdel S a a = none := if_pos rfl
theorem sdel_ne {S : SS} {a b : Addr} (h : b ≠ a) : sdel S a b = S b := if_neg h
theorem sup_sup {S : SS} {a : Addr} {o u : MO} : sup (sup S a o) a u = sup S a u := by
  funext b; unfold sup; split <;> rfl
theorem sdel_sup {S : SS} {a : Addr} {o : MO} (h : S a = none) : sdel (sup S a o) a = S := by
  funext b; unfold sdel sup; split
  · rename_i e; subst e; exact h.symm
  · rfl
def isTb : HO → Bool
  | .tbl _ => true
  | _ => false
/-- the part of the heap that never changes (tables of code objects aside) -/
def im (H : Hp) (S : SS) : Hp := fun a => match S a with | none => (match H a with | some o => if isTb o = true then none else some o | none => none) | some _ => none
theorem im_of {H : Hp} {S : SS} {a : Addr} {o : HO} (h : S a = none) (e : H a = some o) (t : isTb o = false := by rfl) : im H S a = some o := by
  unfold im; rw [h, e]
  show (if isTb o = true then none else some o) = some o
  rw [if_neg (by rw [t]; exact Bool.false_ne_true)]
theorem im_is {H : Hp} {S : SS} {a : Addr} {o : HO} (e : im H S a = some o) : (S a = none ∧ H a = some o) ∧ isTb o = false := by
  unfold im at e
  cases h : S a with
  | some u => rw [h] at e; cases e
  | none =>
    rw [h] at e
    cases h2 : H a with
    | none => rw [h2] at e; cases e
    | some u =>
      rw [h2] at e
      have e : (if isTb u = true then none else some u) = some o := e
      cases h3 : isTb u with
      | true => rw [h3, if_pos rfl] at e; cases e
      | false => rw [h3, if_neg Bool.false_ne_true] at e; cases e; exact ⟨⟨rfl, rfl⟩, h3⟩
theorem of_im {H : Hp} {S : SS} {a : Addr} {o : HO} (e : im H S a = some o) : S a = none ∧ H a = some o := (im_is e).1

mutual
def Rep (K : PySem.W.Frag) (G : Hp) : D → V → Prop
  | .non, v => v = .non
  | .bl b, v => v = .bl b
  | .int i, v => v = .int i
  | .str x, v => v = .str x
  | .ref a, v => v = .ref a
  | .ty n, v => v = .ty n
  | .lam f c q G0, v => v = .ref f ∧ G c = some (LamX.CodeO c q) ∧ ∀ a o, G0 a = some o → G a = some o
  | .tup xs, v => ∃ a vs, v = .ref a ∧ SqT K G a vs ∧ Reps K G xs vs
  | .fl xs, v => ∃ a vs, v = .ref a ∧ SqL K G a vs ∧ Reps K G xs vs
def Reps (K : PySem.W.Frag) (G : Hp) : List D → List V → Prop
  | [], vs => vs = []
  | d :: ds, vs => ∃ v r, vs = v :: r ∧ Rep K G d v ∧ Reps K G ds r
end
def RepP {κ : Type} (K : PySem.W.Frag) (G : Hp) : List (κ × D) → List (κ × V) → Prop
  | [], vs => vs = []
  | (k, d) :: r, vs => ∃ v t, vs = (k, v) :: t ∧ Rep K G d v ∧ RepP K G r t
def Sub (G G' : Hp) : Prop := ∀ a o, G a = some o → G' a = some o
section
variable {K : PySem.W.Frag} {G G' : Hp} {H H' H2 : Hp} {S S' S2 : SS} {a : Addr}
theorem Sub.refl : Sub G G := fun _ _ h => h
theorem Sub.rd {u : HO} (e : Sub G G') (h : Rd G a u) : Rd G' a u := by
  rcases h with h | ⟨o, h⟩
  · exact .inl (e a _ h)
  · exact .inr ⟨o, e a _ h⟩
theorem Sub.l {xs : List V} (e : Sub G G') (h : SqL K G a xs) : SqL K G' a xs := by
  rcases h with h | h
  · exact .inl (e.rd h)
  · exact .inr h
theorem Sub.t {xs : List V} (e : Sub G G') (h : SqT K G a xs) : SqT K G' a xs := by
  rcases h with h | h
  · exact .inl (e.rd h)
  · exact .inr h
mutual
theorem Rep.mono (e : Sub G G') : ∀ (d : D) (v : V), Rep K G d v → Rep K G' d v
  | .non, v, h => by unfold Rep at *; exact h
  | .bl b, v, h => by unfold Rep at *; exact h
  | .int i, v, h => by unfold Rep at *; exact h
  | .str x, v, h => by unfold Rep at *; exact h
  | .ref a, v, h => by unfold Rep at *; exact h
  | .ty n, v, h => by unfold Rep at *; exact h
  | .lam f c q G0, v, h => by unfold Rep at *; exact ⟨h.1, e _ _ h.2.1, fun a o z => e _ _ (h.2.2 a o z)⟩
  | .tup xs, v, h => by
    unfold Rep at *
    obtain ⟨a, vs, e1, e2, e3⟩ := h
    exact ⟨a, vs, e1, e.t e2, Reps.mono e xs vs e3⟩
  | .fl xs, v, h => by
    unfold Rep at *
    obtain ⟨a, vs, e1, e2, e3⟩ := h
    exact ⟨a, vs, e1, e.l e2, Reps.mono e xs vs e3⟩
theorem Reps.mono (e : Sub G G') : ∀ (ds : List D) (vs : List V), Reps K G ds vs → Reps K G' ds vs
  | [], vs, h => by unfold Reps at *; exact h
  | d :: ds, vs, h => by
    unfold Reps at *
    obtain ⟨v, r, e1, e2, e3⟩ := h
    exact ⟨v, r, e1, Rep.mono e d v e2, Reps.mono e ds r e3⟩
end
theorem RepP.mono {κ : Type} (e : Sub G G') : ∀ (ds : List (κ × D)) (vs : List (κ × V)), RepP K G ds vs → RepP K G' ds vs
  | [], vs, h => h
  | (k, d) :: ds, vs, h => by
    obtain ⟨v, r, e1, e2, e3⟩ := h
    exact ⟨v, r, e1, Rep.mono e d v e2, RepP.mono e ds r e3⟩
theorem Reps.length : ∀ {ds : List D} {vs : List V}, Reps K G ds vs → ds.length = vs.length
  | [], vs, h => by unfold Reps at h; subst h; rfl
  | d :: ds, vs, h => by
    unfold Reps at h
    obtain ⟨v, r, rfl, _, h3⟩ := h
    simp only [List.length_cons, Reps.length h3]
theorem Reps.nil : Reps K G [] [] := by unfold Reps; rfl
theorem Reps.cons {d : D} {v : V} {ds : List D} {vs : List V} (h : Rep K G d v) (t : Reps K G ds vs) : Reps K G (d :: ds) (v :: vs) := by
  unfold Reps; exact ⟨v, vs, rfl, h, t⟩
theorem Reps.get : ∀ {ds : List D} {vs : List V} {i : Nat} {d : D}, Reps K G ds vs → ds[i]? = some d → ∃ v, vs[i]? = some v ∧ Rep K G d v
  | [], vs, i, d, h, e => by simp at e
  | d :: ds, vs, i, d', h, e => by
    unfold Reps at h
    obtain ⟨v, r, rfl, h2, h3⟩ := h
    cases i with
    | zero => simp at e; subst e; exact ⟨v, rfl, h2⟩
    | succ i =>
      obtain ⟨v', e1, e2⟩ := Reps.get (i := i) h3 (by simpa using e)
      exact ⟨v', by simpa using e1, e2⟩
theorem Reps.back {ds : List D} {vs : List V} {i : Nat} {v : V} (h : Reps K G ds vs) (e : vs[i]? = some v) : ∃ d, ds[i]? = some d ∧ Rep K G d v := by
  have hl := h.length
  obtain ⟨hi, _⟩ := List.getElem?_eq_some_iff.mp e
  have hi' : i < ds.length := by omega
  obtain ⟨v', e1, e2⟩ := h.get (List.getElem?_eq_getElem hi')
  rw [e] at e1
  cases e1
  exact ⟨_, List.getElem?_eq_getElem hi', e2⟩
theorem Reps.append : ∀ {ds es : List D} {vs us : List V}, Reps K G ds vs → Reps K G es us → Reps K G (ds ++ es) (vs ++ us)
  | [], es, vs, us, h, t => by unfold Reps at h; subst h; exact t
  | d :: ds, es, vs, us, h, t => by
    unfold Reps at h
    obtain ⟨v, r, rfl, h2, h3⟩ := h
    exact Reps.cons h2 (Reps.append h3 t)
theorem Reps.set : ∀ {ds : List D} {vs : List V} (i : Nat) {d : D} {v : V}, Reps K G ds vs → Rep K G d v → Reps K G (ds.set i d) (vs.set i v)
  | [], vs, i, d, v, h, r => by unfold Reps at h; subst h; exact Reps.nil
  | d :: ds, vs, 0, d', v', h, r => by
    unfold Reps at h
    obtain ⟨v, t, rfl, h2, h3⟩ := h
    exact Reps.cons r h3
  | d :: ds, vs, i + 1, d', v', h, r => by
    unfold Reps at h
    obtain ⟨v, t, rfl, h2, h3⟩ := h
    exact Reps.cons h2 (Reps.set i h3 r)
theorem Reps.take : ∀ {ds : List D} {vs : List V} (n : Nat), Reps K G ds vs → Reps K G (ds.take n) (vs.take n)
  | [], vs, n, h => by unfold Reps at h; subst h; simp [Reps.nil]
  | d :: ds, vs, 0, h => by simp [Reps.nil]
  | d :: ds, vs, n + 1, h => by
    unfold Reps at h
    obtain ⟨v, t, rfl, h2, h3⟩ := h
    exact Reps.cons h2 (Reps.take n h3)
theorem Reps.drop : ∀ {ds : List D} {vs : List V} (n : Nat), Reps K G ds vs → Reps K G (ds.drop n) (vs.drop n)
  | [], vs, n, h => by unfold Reps at h; subst h; simp [Reps.nil]
  | d :: ds, vs, 0, h => h
  | d :: ds, vs, n + 1, h => by
    unfold Reps at h
    obtain ⟨v, t, rfl, h2, h3⟩ := h
    exact Reps.drop n h3
theorem Reps.reverse : ∀ {ds : List D} {vs : List V}, Reps K G ds vs → Reps K G ds.reverse vs.reverse
  | [], vs, h => by unfold Reps at h; subst h; exact Reps.nil
  | d :: ds, vs, h => by
    unfold Reps at h
    obtain ⟨v, t, rfl, h2, h3⟩ := h
    rw [List.reverse_cons, List.reverse_cons]
    exact Reps.append (Reps.reverse h3) (Reps.cons h2 Reps.nil)
theorem rep_non {v : V} : Rep K G .non v ↔ v = .non := by unfold Rep; exact Iff.rfl
theorem rep_bl {v : V} {b : Bool} : Rep K G (.bl b) v ↔ v = .bl b := by unfold Rep; exact Iff.rfl
theorem rep_int {v : V} {i : Int} : Rep K G (.int i) v ↔ v = .int i := by unfold Rep; exact Iff.rfl
theorem rep_str {v : V} {x : Str} : Rep K G (.str x) v ↔ v = .str x := by unfold Rep; exact Iff.rfl
theorem rep_ref {v : V} {a : Addr} : Rep K G (.ref a) v ↔ v = .ref a := by unfold Rep; exact Iff.rfl
theorem rep_ty {v : V} {n : String} : Rep K G (.ty n) v ↔ v = .ty n := by unfold Rep; exact Iff.rfl
theorem rep_lam {f c : Addr} {q : Str} {G0 : Hp} {v : V} : Rep K G (.lam f c q G0) v ↔ v = .ref f ∧ G c = some (LamX.CodeO c q) ∧ ∀ a o, G0 a = some o → G a = some o := by unfold Rep; exact Iff.rfl
theorem rep_tup {v : V} {xs : List D} : Rep K G (.tup xs) v ↔ ∃ a vs, v = .ref a ∧ SqT K G a vs ∧ Reps K G xs vs := by constructor <;> (intro h; unfold Rep at *; exact h)
theorem rep_fl {v : V} {xs : List D} : Rep K G (.fl xs) v ↔ ∃ a vs, v = .ref a ∧ SqL K G a vs ∧ Reps K G xs vs := by constructor <;> (intro h; unfold Rep at *; exact h)
theorem reps_ints : ∀ {ns : List Int} {vs : List V}, Reps K G (ns.map D.int) vs → vs = ns.map V.int
  | [], vs, h => by unfold Reps at h; exact h
  | n :: ns, vs, h => by
    unfold List.map Reps at h
    obtain ⟨v, t, rfl, h2, h3⟩ := h
    rw [rep_int.mp h2, reps_ints h3] <;> rfl
theorem reps_ints' : ∀ {ns : List Int}, Reps K G (ns.map D.int) (ns.map V.int)
  | [] => Reps.nil
  | n :: ns => Reps.cons (rep_int.mpr rfl) reps_ints'
theorem reps_bls : ∀ {ns : List Bool} {vs : List V}, Reps K G (ns.map D.bl) vs → vs = ns.map V.bl
  | [], vs, h => by unfold Reps at h; exact h
  | n :: ns, vs, h => by
    unfold List.map Reps at h
    obtain ⟨v, t, rfl, h2, h3⟩ := h
    rw [rep_bl.mp h2, reps_bls h3] <;> rfl
theorem reps_strs : ∀ {ns : List Str} {vs : List V}, Reps K G (ns.map D.str) vs → vs = ns.map V.str
  | [], vs, h => by unfold Reps at h; exact h
  | n :: ns, vs, h => by
    unfold List.map Reps at h
    obtain ⟨v, t, rfl, h2, h3⟩ := h
    rw [rep_str.mp h2, reps_strs h3] <;> rfl
theorem reps_strs' : ∀ {ns : List Str}, Reps K G (ns.map D.str) (ns.map V.str)
  | [] => Reps.nil
  | n :: ns => Reps.cons (rep_str.mpr rfl) reps_strs'

/-- a table of code objects, all of one name -/
def TabM (H : Hp) (S : SS) (P : Addr) (q : Str) : Prop := ∃ ps, H P = some (.tbl ps) ∧ TriplesOk ps.toList ∧ ∀ (pos : Pos) (cv : Value), codeAmong pos ps.toList = some cv → ∃ c, cv = .ref c ∧ im H S c = some (LamX.CodeO c q)
def isTbM : MO → Bool
  | .tb _ => true
  | _ => false
/-- the store stands in the heap -/
def SimO (K : PySem.W.Frag) (H : Hp) (S : SS) (a : Addr) : MO → Prop
  | .lst xs => ∃ vs, H a = some (.lst vs) ∧ Reps K (im H S) xs vs
  | .dk kvs => ∃ vs, H a = some (.dK vs) ∧ RepP K (im H S) kvs vs
  | .dt kvs => ∃ vs, H a = some (.dT vs) ∧ RepP K (im H S) kvs vs
  | .ins C fs => ∃ dx vs, H a = some (.ins C dx vs) ∧ RepP K (im H S) fs vs
  | .xd fs => ∃ vs, H a = some (.xd vs) ∧ RepP K (im H S) fs vs
  | .fdk od vs fs => H a = some (.frz od (.dK vs)) ∧ RepP K (im H S) fs vs
  | .tb T => (∃ ps, H a = some (.tbl ps)) ∧ (∀ p ∈ T, TabM H S p.1 p.2) ∧ ∀ b T', S b = some (.tb T') → b = a ∧ T' = T
def Sim (K : PySem.W.Frag) (H : Hp) (S : SS) : Prop := ∀ a o, S a = some o → SimO K H S a o
def Stp (H : Hp) (S : SS) (H' : Hp) (S' : SS) : Prop := Sub (im H S) (im H' S')
theorem Stp.refl : Stp H S H S := Sub.refl
theorem Stp.trans (h1 : Stp H S H' S') (h2 : Stp H' S' H2 S2) : Stp H S H2 S2 := fun a o e => h2 a o (h1 a o e)
theorem TabM.mono {P : Addr} {q : Str} (e : Sub (im H S) (im H' S')) (k : ∀ P ps, H P = some (.tbl ps) → H' P = some (.tbl ps)) (h : TabM H S P q) : TabM H' S' P q := by
  obtain ⟨ps, e1, e2, e3⟩ := h
  exact ⟨ps, k _ _ e1, e2, fun pos cv hc => let ⟨c, z1, z2⟩ := e3 pos cv hc; ⟨c, z1, e _ _ z2⟩⟩
theorem SimO.mono {o : MO} (e : Sub (im H S) (im H' S')) (k : H' a = H a) (kt : isTbM o = true → (∀ P ps, H P = some (.tbl ps) → H' P = some (.tbl ps)) ∧ ∀ b T', S' b = some (.tb T') → S b = some (.tb T')) (h : SimO K H S a o) : SimO K H' S' a o := by
  cases o with
  | lst xs => obtain ⟨vs, e1, e2⟩ := h; exact ⟨vs, k.trans e1, e2.mono e⟩
  | dk xs => obtain ⟨vs, e1, e2⟩ := h; exact ⟨vs, k.trans e1, e2.mono e⟩
  | dt xs => obtain ⟨vs, e1, e2⟩ := h; exact ⟨vs, k.trans e1, e2.mono e⟩
  | ins C fs => obtain ⟨dx, vs, e1, e2⟩ := h; exact ⟨dx, vs, k.trans e1, e2.mono e⟩
  | xd fs => obtain ⟨vs, e1, e2⟩ := h; exact ⟨vs, k.trans e1, e2.mono e⟩
  | fdk od vs fs => exact ⟨k.trans h.1, h.2.mono e⟩
  | tb T =>
    obtain ⟨⟨ps, h1⟩, h2, h3⟩ := h
    obtain ⟨k1, k2⟩ := kt rfl
    exact ⟨⟨ps, k.trans h1⟩, fun p hp => (h2 p hp).mono e k1, fun b T' hb => h3 b T' (k2 b T' hb)⟩
theorem SimO.tbl {o : MO} {ps : Array Value} (h : SimO K H S a o) (e : H a = some (.tbl ps)) : isTbM o = true := by
  cases o with
  | lst xs => obtain ⟨vs, e1, e2⟩ := h; rw [e1] at e; cases e
  | dk xs => obtain ⟨vs, e1, e2⟩ := h; rw [e1] at e; cases e
  | dt xs => obtain ⟨vs, e1, e2⟩ := h; rw [e1] at e; cases e
  | ins C fs => obtain ⟨dx, vs, e1, e2⟩ := h; rw [e1] at e; cases e
  | xd fs => obtain ⟨vs, e1, e2⟩ := h; rw [e1] at e; cases e
  | fdk od vs fs => have e1 := h.1; rw [e1] at e; cases e
  | tb T => rfl
theorem SimO.there {o : MO} (h : SimO K H S a o) : ∃ u, H a = some u := by
  cases o with
  | lst xs => obtain ⟨vs, e1, e2⟩ := h; exact ⟨_, e1⟩
  | dk xs => obtain ⟨vs, e1, e2⟩ := h; exact ⟨_, e1⟩
  | dt xs => obtain ⟨vs, e1, e2⟩ := h; exact ⟨_, e1⟩
  | ins C fs => obtain ⟨dx, vs, e1, e2⟩ := h; exact ⟨_, e1⟩
  | xd fs => obtain ⟨vs, e1, e2⟩ := h; exact ⟨_, e1⟩
  | fdk od vs fs => exact ⟨_, h.1⟩
  | tb T => obtain ⟨⟨ps, e1⟩, _⟩ := h; exact ⟨_, e1⟩
theorem Sim.free (s : Sim K H S) (h : H a = none) : S a = none := by
  cases e : S a with
  | none => rfl
  | some o =>
    obtain ⟨u, hu⟩ := (s a o e).there
    rw [h] at hu; cases hu
/-- a new object that never changes -/
theorem Sim.new {o : HO} (s : Sim K H S) (h : H a = none) (t : isTb o = false := by rfl) : Stp H S (upd H a o) S ∧ Sim K (upd H a o) S ∧ im (upd H a o) S a = some o := by
  have st : Stp H S (upd H a o) S := fun b u e => by
    obtain ⟨e1, e2⟩ := of_im e
    exact im_of e1 (by rw [upd_ne (ne_of_none e2 h)]; exact e2) (im_is e).2
  refine ⟨st, fun b u e => (s b u e).mono st ?_ fun _ => ⟨fun P ps hP => by rw [upd_ne (ne_of_none hP h)]; exact hP, fun _ _ z => z⟩, im_of (s.free h) upd_same t⟩
  obtain ⟨x, hx⟩ := (s b u e).there
  exact upd_ne (ne_of_none hx h)
/-- a new object that may change -/
theorem Sim.newM {o : HO} {m : MO} (s : Sim K H S) (h : H a = none) (k : ∀ H' S', Sub (im H S) (im H' S') → H' a = some o → SimO K H' S' a m) (tm : isTbM m = false := by rfl) : Stp H S (upd H a o) (sup S a m) ∧ Sim K (upd H a o) (sup S a m) := by
  have st : Stp H S (upd H a o) (sup S a m) := fun b u e => by
    obtain ⟨e1, e2⟩ := of_im e
    have hb : b ≠ a := ne_of_none e2 h
    exact im_of (by rw [sup_ne hb]; exact e1) (by rw [upd_ne hb]; exact e2) (im_is e).2
  refine ⟨st, fun b u e => ?_⟩
  by_cases hb : b = a
  · subst hb
    rw [sup_same] at e; cases e
    exact k _ _ st upd_same
  · rw [sup_ne hb] at e
    refine (s b u e).mono st (upd_ne hb) fun _ => ⟨fun P ps hP => by rw [upd_ne (ne_of_none hP h)]; exact hP, fun c T' hc => ?_⟩
    by_cases hca : c = a
    · rw [hca, sup_same] at hc; cases hc; cases tm
    · rw [sup_ne hca] at hc; exact hc
/-- an object of the store is changed -/
theorem Sim.write {o : HO} {m0 m : MO} (s : Sim K H S) (h : S a = some m0) (k : ∀ H' S', Sub (im H S) (im H' S') → H' a = some o → SimO K H' S' a m) (tm : isTbM m = false := by rfl) : Stp H S (upd H a o) (sup S a m) ∧ Sim K (upd H a o) (sup S a m) := by
  have st : Stp H S (upd H a o) (sup S a m) := fun b u e => by
    obtain ⟨e1, e2⟩ := of_im e
    have hb : b ≠ a := fun z => by subst z; rw [h] at e1; cases e1
    exact im_of (by rw [sup_ne hb]; exact e1) (by rw [upd_ne hb]; exact e2) (im_is e).2
  refine ⟨st, fun b u e => ?_⟩
  by_cases hb : b = a
  · subst hb
    rw [sup_same] at e; cases e
    exact k _ _ st upd_same
  · rw [sup_ne hb] at e
    refine (s b u e).mono st (upd_ne hb) fun hu => ⟨fun P ps hP => ?_, fun c T' hc => ?_⟩
    · by_cases hPa : P = a
      · have h0 := (s a m0 h).tbl (by rw [← hPa]; exact hP)
        cases m0 with
        | tb T0 =>
          cases u with
          | tb T => exact absurd ((s b _ e).2.2 a T0 h).1.symm hb
          | _ => cases hu
        | _ => cases h0
      · rw [upd_ne hPa]; exact hP
    · by_cases hca : c = a
      · rw [hca, sup_same] at hc; cases hc; cases tm
      · rw [sup_ne hca] at hc; exact hc
/-- from now on it never changes -/
theorem Sim.freeze (s : Sim K H S) : Stp H S H (sdel S a) ∧ Sim K H (sdel S a) := by
  have st : Stp H S H (sdel S a) := fun b u e => by
    obtain ⟨e1, e2⟩ := of_im e
    refine im_of ?_ e2 (im_is e).2
    unfold sdel; split
    · rfl
    · exact e1
  refine ⟨st, fun b u e => ?_⟩
  by_cases hb : b = a
  · subst hb; rw [sdel_same] at e; cases e
  · rw [sdel_ne hb] at e
    refine (s b u e).mono st rfl fun _ => ⟨fun _ _ z => z, fun c T' hc => ?_⟩
    by_cases hca : c = a
    · rw [hca, sdel_same] at hc; cases hc
    · rw [sdel_ne hca] at hc; exact hc
/-- a list by its items: one that never changes, or one of the store -/
def IsL (S : SS) (d : D) (ds : List D) : Prop := d = .fl ds ∨ ∃ a, d = .ref a ∧ S a = some (.lst ds)
theorem IsL.fl {ds : List D} : IsL S (.fl ds) ds := .inl rfl
theorem IsL.ref {ds : List D} (h : S a = some (.lst ds)) : IsL S (.ref a) ds := .inr ⟨a, rfl, h⟩
theorem sub_im : Sub (im H S) H := fun _ _ e => (of_im e).2
theorem IsL.sq {d : D} {ds : List D} {v : V} (h : IsL S d ds) (r : Rep K (im H S) d v) (s : Sim K H S) : ∃ a vs, v = .ref a ∧ SqL K H a vs ∧ Reps K (im H S) ds vs := by
  rcases h with rfl | ⟨a, rfl, e⟩
  · obtain ⟨a, vs, e1, e2, e3⟩ := rep_fl.mp r
    exact ⟨a, vs, e1, sub_im.l e2, e3⟩
  · obtain ⟨vs, e1, e2⟩ := s a _ e
    exact ⟨a, vs, rep_ref.mp r, SqL.of e1, e2⟩
theorem tup_sq {ds : List D} {v : V} (r : Rep K (im H S) (.tup ds) v) : ∃ a vs, v = .ref a ∧ SqT K H a vs ∧ Reps K (im H S) ds vs := by
  obtain ⟨a, vs, e1, e2, e3⟩ := rep_tup.mp r
  exact ⟨a, vs, e1, sub_im.t e2, e3⟩
theorem sql_im {xs : List V} (h : SqL K H a xs) (n : S a = none) : SqL K (im H S) a xs := by
  rcases h with (h | ⟨o, h⟩) | h
  · exact .inl (.inl (im_of n h))
  · exact .inl (.inr ⟨o, im_of n h⟩)
  · exact .inr h
end
end DP

namespace DP
open PySem L2

/-! ### the widest readings -/
def tE (X : Cx) (e : Expr) : TE := fun σ H R => ∀ (pins : List (Addr × Obj)) (s : Shared), L2.Inv X pins σ H s → wpAny (model X.prog X.w) X.A (eval e X.env) (EP X pins σ R) X.xe s
def tT (X : Cx) (e : Expr) : TT := fun σ H R => ∀ (pins : List (Addr × Obj)) (s : Shared), L2.Inv X pins σ H s → wpAny (model X.prog X.w) X.A (isTrue e X.env (eval e X.env)) (TP X pins σ R) X.xe s
def tW (X : Cx) (e : Expr) : TT := fun σ H R => ∀ (whole : Sem Value) (pins : List (Addr × Obj)) (s : Shared), L2.Inv X pins σ H s → wpAny (model X.prog X.w) X.A (isTrue e X.env whole) (TP X pins σ R) X.xe s
def tA (X : Cx) (es : List Expr) : TA := fun σ H R => ∀ (pos : Pos) (pins : List (Addr × Obj)) (s : Shared), L2.Inv X pins σ H s → wpAny (model X.prog X.w) X.A (spliced (backTo pos (starEach es X.env))) (AP X pins σ R) X.xe s
def tS (X : Cx) (st : Stmt) : TS := fun D σ H => ∀ (pins : List (Addr × Obj)) (s : Shared), L2.Inv X pins σ H s → wpAny (model X.prog X.w) X.A (exec st X.env) (SP X pins D) X.xe s
def tSs (X : Cx) (st : List Stmt) : TS := fun D σ H => ∀ (pins : List (Addr × Obj)) (s : Shared), L2.Inv X pins σ H s → wpAny (model X.prog X.w) X.A (execs st X.env) (SP X pins D) X.xe s
def tGt (X : Cx) (tg : Expr) : TG := fun v σ H R => ∀ (pins : List (Addr × Obj)) (s : Shared) (u : Value), L2.Inv X pins σ H s → RelV v u → wpAny (model X.prog X.w) X.A (assign tg X.env u) (fun _ s' => ∃ σ' H', L2.Inv X pins σ' H' s' ∧ R σ' H') X.xe s
def tO (X : Cx) (f : Value → Value → Sem Value) : R2 := fun x y H R => ∀ (pins : List (Addr × Obj)) (s : Shared) (σ : L2.St) (v u : Value), L2.Inv X pins σ H s → RelV x v → RelV y u → wpAny (model X.prog X.w) X.A (f v u) (EP X pins σ R) X.xe s
def tIt (X : Cx) (tg iter : Expr) : TI := fun σ H R => ∀ (pins : List (Addr × Obj)) (s : Shared), L2.Inv X pins σ H s →
    wpAny (model X.prog X.w) X.A (eval iter X.env) (fun v s1 => wpAny (model X.prog X.w) X.A (pyIter v) (PIE X pins σ tg R) X.xe s1) X.xe s
section
variable {X : Cx} {e tg iter : Expr} {es : List Expr} {st : Stmt} {sts : List Stmt}
theorem PEt : PE X e (tE X e) := ⟨fun pins s σ H Q I h => h pins s I⟩
theorem PTt : PT X e (tT X e) := ⟨fun pins s σ H Q I h => h pins s I⟩
theorem PWt : PW X e (tW X e) := ⟨fun wh pins s σ H Q I h => h wh pins s I⟩
theorem PAt : PA X es (tA X es) := ⟨fun pos pins s σ H Q I h => h pos pins s I⟩
theorem PSt : PS X st (tS X st) := ⟨fun pins s σ H Q I h => h pins s I⟩
theorem PSst : PSs X sts (tSs X sts) := ⟨fun pins s σ H Q I h => h pins s I⟩
theorem PGt : PG X tg (tGt X tg) := ⟨fun pins s σ H v u Q I r h => h pins s u I r⟩
theorem PIt : PI X tg iter (tIt X tg iter) := ⟨fun pins s σ H R I h => h pins s I⟩
theorem OpRt {f : Value → Value → Sem Value} : OpR X f (tO X f) := fun pins s σ H x y v u Q I rx ry h => h pins s σ v u I rx ry
theorem tE_mono {σ : L2.St} {H : Hp} {R R' : VK} (h : tE X e σ H R) (k : ∀ v H', R v H' → R' v H') : tE X e σ H R' := fun pins s I =>
  thn (h pins s I) fun u s' ⟨v, H', I', r, q⟩ => ⟨v, H', I', r, k v H' q⟩
theorem tT_mono {σ : L2.St} {H : Hp} {R R' : Bool → Hp → Prop} (h : tT X e σ H R) (k : ∀ v H', R v H' → R' v H') : tT X e σ H R' := fun pins s I =>
  thn (h pins s I) fun u s' ⟨H', I', q⟩ => ⟨H', I', k u H' q⟩
theorem tW_mono {σ : L2.St} {H : Hp} {R R' : Bool → Hp → Prop} (h : tW X e σ H R) (k : ∀ v H', R v H' → R' v H') : tW X e σ H R' := fun wh pins s I =>
  thn (h wh pins s I) fun u s' ⟨H', I', q⟩ => ⟨H', I', k u H' q⟩
theorem tA_mono {σ : L2.St} {H : Hp} {R R' : List V → Hp → Prop} (h : tA X es σ H R) (k : ∀ v H', R v H' → R' v H') : tA X es σ H R' := fun pos pins s I =>
  thn (h pos pins s I) fun u s' ⟨v, H', I', r, q⟩ => ⟨v, H', I', r, k v H' q⟩
theorem tO_mono {f : Value → Value → Sem Value} {x y : V} {H : Hp} {R R' : VK} (h : tO X f x y H R) (k : ∀ v H', R v H' → R' v H') : tO X f x y H R' := fun pins s σ v u I rx ry =>
  thn (h pins s σ v u I rx ry) fun u s' ⟨v, H', I', r, q⟩ => ⟨v, H', I', r, k v H' q⟩
theorem tGt_mono {v : V} {σ : L2.St} {H : Hp} {R R' : L2.St → Hp → Prop} (h : tGt X tg v σ H R) (k : ∀ v H', R v H' → R' v H') : tGt X tg v σ H R' := fun pins s u I r =>
  thn (h pins s u I r) fun _ s' ⟨σ', H', I', q⟩ => ⟨σ', H', I', k σ' H' q⟩
structure EndsLe (D D' : Ends) : Prop where
  nx : ∀ σ H, D.nx σ H → D'.nx σ H
  rt : ∀ v H, D.rt v H → D'.rt v H
  bk : ∀ σ H, D.bk σ H → D'.bk σ H
  ct : ∀ σ H, D.ct σ H → D'.ct σ H
theorem SP_mono {pins : List (Addr × Obj)} {D D' : Ends} (k : EndsLe D D') {f : Flow} {s : Shared} (h : SP X pins D f s) : SP X pins D' f s := by
  cases f with
  | next => obtain ⟨σ, H, I, q⟩ := h; exact ⟨σ, H, I, k.nx _ _ q⟩
  | brk => obtain ⟨σ, H, I, q⟩ := h; exact ⟨σ, H, I, k.bk _ _ q⟩
  | cont => obtain ⟨σ, H, I, q⟩ := h; exact ⟨σ, H, I, k.ct _ _ q⟩
  | ret u => obtain ⟨v, σ, H, I, r, q⟩ := h; exact ⟨v, σ, H, I, r, k.rt _ _ q⟩
theorem tS_mono {D D' : Ends} {σ : L2.St} {H : Hp} (h : tS X st D σ H) (k : EndsLe D D') : tS X st D' σ H := fun pins s I => thn (h pins s I) fun f s' q => SP_mono k q
theorem tSs_mono {D D' : Ends} {σ : L2.St} {H : Hp} (h : tSs X sts D σ H) (k : EndsLe D D') : tSs X sts D' σ H := fun pins s I => thn (h pins s I) fun f s' q => SP_mono k q
end

/-! ### the context, the state -/
structure Ctx where
  X : Cx
  W : WX
  tk : Takes X W
  DX : Value → Option Addr → DEnv → SS → Prop
structure Sl (K : PySem.W.Frag) (H : Hp) (S : SS) (σ : L2.St) (ρ : DEnv) : Prop where
  len : ρ.length = σ.length
  at_ : ∀ (i : Nat) (d : D), ρ[i]? = some (some d) → ∃ v, σ[i]? = some (some v) ∧ Rep K (im H S) d v
structure Ds (c : Ctx) (σ : L2.St) (H : Hp) (ρ : DEnv) (S : SS) : Prop where
  sl : Sl c.X.K H S σ ρ
  sim : Sim c.X.K H S
  ex : ∀ cls d σ' H' ρ' S', c.DX cls d ρ' S' → Sl c.X.K H' S' σ' ρ' → Sim c.X.K H' S' → Stp H S H' S' → c.W cls d σ' H'
  exA : ∀ cls d σ' H' S', c.DX cls d (List.replicate c.X.N.length none) S' → Sim c.X.K H' S' → Stp H S H' S' → c.W cls d σ' H'
/-- what is wanted of a value -/
def pst (K : PySem.W.Frag) (H : Hp) (S : SS) (Q : D → SS → Prop) : VK := fun v H' => ∃ d S', Rep K (im H' S') d v ∧ Sim K H' S' ∧ Stp H S H' S' ∧ Q d S'
def pstT (K : PySem.W.Frag) (H : Hp) (S : SS) (Q : Bool → SS → Prop) : Bool → Hp → Prop := fun b H' => ∃ S', Sim K H' S' ∧ Stp H S H' S' ∧ Q b S'
def pstA (K : PySem.W.Frag) (H : Hp) (S : SS) (Q : List D → SS → Prop) : List V → Hp → Prop := fun vs H' => ∃ ds S', Reps K (im H' S') ds vs ∧ Sim K H' S' ∧ Stp H S H' S' ∧ Q ds S'
def pstN (K : PySem.W.Frag) (H : Hp) (S : SS) (Q : DEnv → SS → Prop) : L2.St → Hp → Prop := fun σ' H' => ∃ ρ' S', Sl K H' S' σ' ρ' ∧ Sim K H' S' ∧ Stp H S H' S' ∧ Q ρ' S'
section
variable {K : PySem.W.Frag} {H H' : Hp} {S S' : SS} {c : Ctx} {σ : L2.St} {ρ : DEnv}
theorem Sl.step (h : Sl K H S σ ρ) (st : Stp H S H' S') : Sl K H' S' σ ρ := ⟨h.len, fun i d e => let ⟨v, e1, e2⟩ := h.at_ i d e; ⟨v, e1, e2.mono st⟩⟩
theorem Sl.set {i : Nat} {d : D} {v : V} (h : Sl K H S σ ρ) (r : Rep K (im H S) d v) : Sl K H S (σ.set i (some v)) (ρ.set i (some d)) := by
  refine ⟨by rw [List.length_set, List.length_set]; exact h.len, fun j e hj => ?_⟩
  by_cases hi : i = j
  · subst hi
    by_cases hl : i < ρ.length
    · rw [List.getElem?_set_self hl] at hj
      cases hj
      exact ⟨v, List.getElem?_set_self (by rw [← h.len]; exact hl), r⟩
    · rw [List.getElem?_eq_none (by rw [List.length_set]; omega)] at hj; cases hj
  · rw [List.getElem?_set_ne hi] at hj
    rw [List.getElem?_set_ne hi]
    exact h.at_ j e hj
theorem Sl.wipe (h : Sl K H S σ ρ) (i : Nat) : Sl K H S (σ.set i none) (ρ.set i none) := by
  refine ⟨by rw [List.length_set, List.length_set]; exact h.len, fun j e hj => ?_⟩
  by_cases hi : i = j
  · subst hi
    by_cases hl : i < ρ.length
    · rw [List.getElem?_set_self hl] at hj; cases hj
    · rw [List.getElem?_eq_none (by rw [List.length_set]; omega)] at hj; cases hj
  · rw [List.getElem?_set_ne hi] at hj
    rw [List.getElem?_set_ne hi]
    exact h.at_ j e hj
theorem Ds.step (h : Ds c σ H ρ S) (sm : Sim c.X.K H' S') (st : Stp H S H' S') : Ds c σ H' ρ S' :=
  ⟨h.sl.step st, sm, fun cls d σ' H2 ρ' S2 q l m s2 => h.ex cls d σ' H2 ρ' S2 q l m (st.trans s2), fun cls d σ' H2 S2 q m s2 => h.exA cls d σ' H2 S2 q m (st.trans s2)⟩
theorem Ds.slots {σ' : L2.St} {ρ' : DEnv} (h : Ds c σ H ρ S) (l : Sl c.X.K H S σ' ρ') : Ds c σ' H ρ' S := ⟨l, h.sim, h.ex, h.exA⟩
theorem pst_step {Q : D → SS → Prop} {v : V} {H2 : Hp} (st : Stp H S H' S') (h : pst K H' S' Q v H2) : pst K H S Q v H2 := by
  obtain ⟨d, S2, r, m, s2, q⟩ := h
  exact ⟨d, S2, r, m, st.trans s2, q⟩
theorem pstT_step {Q : Bool → SS → Prop} {v : Bool} {H2 : Hp} (st : Stp H S H' S') (h : pstT K H' S' Q v H2) : pstT K H S Q v H2 := by
  obtain ⟨S2, m, s2, q⟩ := h
  exact ⟨S2, m, st.trans s2, q⟩
theorem pstA_step {Q : List D → SS → Prop} {v : List V} {H2 : Hp} (st : Stp H S H' S') (h : pstA K H' S' Q v H2) : pstA K H S Q v H2 := by
  obtain ⟨d, S2, r, m, s2, q⟩ := h
  exact ⟨d, S2, r, m, st.trans s2, q⟩
theorem pstN_step {Q : DEnv → SS → Prop} {σ' : L2.St} {H2 : Hp} (st : Stp H S H' S') (h : pstN K H' S' Q σ' H2) : pstN K H S Q σ' H2 := by
  obtain ⟨d, S2, r, m, s2, q⟩ := h
  exact ⟨d, S2, r, m, st.trans s2, q⟩
end

/-! ### the judgements -/
abbrev NK := DEnv → SS → Prop
abbrev RK := D → SS → Prop
def pstE (K : PySem.W.Frag) (H : Hp) (S : SS) (nx : NK) (rt : RK) (bk ct : NK) : Ends := ⟨pstN K H S nx, pst K H S rt, pstN K H S bk, pstN K H S ct⟩
def JE (c : Ctx) (e : Expr) (ρ : DEnv) (S : SS) (Q : D → SS → Prop) : Prop := ∀ σ H, Ds c σ H ρ S → tE c.X e σ H (pst c.X.K H S Q)
def JT (c : Ctx) (e : Expr) (ρ : DEnv) (S : SS) (Q : Bool → SS → Prop) : Prop := ∀ σ H, Ds c σ H ρ S → tT c.X e σ H (pstT c.X.K H S Q)
def JW (c : Ctx) (e : Expr) (ρ : DEnv) (S : SS) (Q : Bool → SS → Prop) : Prop := ∀ σ H, Ds c σ H ρ S → tW c.X e σ H (pstT c.X.K H S Q)
def JA (c : Ctx) (es : List Expr) (ρ : DEnv) (S : SS) (Q : List D → SS → Prop) : Prop := ∀ σ H, Ds c σ H ρ S → tA c.X es σ H (pstA c.X.K H S Q)
def JS (c : Ctx) (st : Stmt) (ρ : DEnv) (S : SS) (nx : NK) (rt : RK) (bk ct : NK) : Prop := ∀ σ H, Ds c σ H ρ S → tS c.X st (pstE c.X.K H S nx rt bk ct) σ H
def JSs (c : Ctx) (st : List Stmt) (ρ : DEnv) (S : SS) (nx : NK) (rt : RK) (bk ct : NK) : Prop := ∀ σ H, Ds c σ H ρ S → tSs c.X st (pstE c.X.K H S nx rt bk ct) σ H
def JG (c : Ctx) (tg : Expr) (d : D) (ρ : DEnv) (S : SS) (Q : NK) : Prop := ∀ σ H v, Ds c σ H ρ S → Rep c.X.K (im H S) d v → tGt c.X tg v σ H (pstN c.X.K H S Q)
/-- two values and an operation -/
def OD (c : Ctx) (f : Value → Value → Sem Value) (x y : D) (S : SS) (Q : D → SS → Prop) : Prop :=
  ∀ H v w, Sim c.X.K H S → Rep c.X.K (im H S) x v → Rep c.X.K (im H S) y w → tO c.X f v w H (pst c.X.K H S Q)
section
variable {c : Ctx} {e a b d : Expr} {es : List Expr} {st : Stmt} {sts : List Stmt} {ρ : DEnv} {S : SS} {Q : D → SS → Prop} {QT : Bool → SS → Prop} {QA : List D → SS → Prop} {nx bk ct : NK} {rt : RK} {pos : Pos}
theorem JE.mono {Q' : D → SS → Prop} (h : JE c e ρ S Q) (k : ∀ d S', Q d S' → Q' d S') : JE c e ρ S Q' := fun σ H ds => tE_mono (h σ H ds) fun v H' ⟨d, S', r, m, s, q⟩ => ⟨d, S', r, m, s, k d S' q⟩
/-- from a rule of the hand layer -/
theorem JE.of {t : TE} (h : PE c.X e t) (k : ∀ σ H, Ds c σ H ρ S → t σ H (pst c.X.K H S Q)) : JE c e ρ S Q := fun σ H ds pins s I => h.run pins s σ H _ I (k σ H ds)
theorem JT.of {t : TT} (h : PT c.X e t) (k : ∀ σ H, Ds c σ H ρ S → t σ H (pstT c.X.K H S QT)) : JT c e ρ S QT := fun σ H ds pins s I => h.run pins s σ H _ I (k σ H ds)
theorem JW.of {t : TT} (h : PW c.X e t) (k : ∀ σ H, Ds c σ H ρ S → t σ H (pstT c.X.K H S QT)) : JW c e ρ S QT := fun σ H ds wh pins s I => h.run wh pins s σ H _ I (k σ H ds)
theorem JS.of {t : TS} (h : PS c.X st t) (k : ∀ σ H, Ds c σ H ρ S → t (pstE c.X.K H S nx rt bk ct) σ H) : JS c st ρ S nx rt bk ct := fun σ H ds pins s I => h.run pins s σ H _ I (k σ H ds)
theorem OD.of {f : Value → Value → Sem Value} {x y : D} {r : R2} (h : OpR c.X f r) (k : ∀ H v w, Sim c.X.K H S → Rep c.X.K (im H S) x v → Rep c.X.K (im H S) y w → r v w H (pst c.X.K H S Q)) : OD c f x y S Q :=
  fun H v w sm rx ry pins s σ u u' I r1 r2 => h pins s σ H v w u u' _ I r1 r2 (k H v w sm rx ry)
/-- a part's reading, then the rest -/
theorem JE.then {σ : L2.St} {H : Hp} {R : VK} (h : JE c e ρ S Q) (ds : Ds c σ H ρ S) (k : ∀ d S' v H', Rep c.X.K (im H' S') d v → Ds c σ H' ρ S' → Stp H S H' S' → Q d S' → R v H') : tE c.X e σ H R :=
  tE_mono (h σ H ds) fun v H' ⟨d, S', r, m, s, q⟩ => k d S' v H' r (ds.step m s) s q
theorem JT.then {σ : L2.St} {H : Hp} {R : Bool → Hp → Prop} (h : JT c e ρ S QT) (ds : Ds c σ H ρ S) (k : ∀ b S' H', Ds c σ H' ρ S' → Stp H S H' S' → QT b S' → R b H') : tT c.X e σ H R :=
  tT_mono (h σ H ds) fun v H' ⟨S', m, s, q⟩ => k v S' H' (ds.step m s) s q
theorem JW.then {σ : L2.St} {H : Hp} {R : Bool → Hp → Prop} (h : JW c e ρ S QT) (ds : Ds c σ H ρ S) (k : ∀ b S' H', Ds c σ H' ρ S' → Stp H S H' S' → QT b S' → R b H') : tW c.X e σ H R :=
  tW_mono (h σ H ds) fun v H' ⟨S', m, s, q⟩ => k v S' H' (ds.step m s) s q
theorem JA.then {σ : L2.St} {H : Hp} {R : List V → Hp → Prop} (h : JA c es ρ S QA) (ds : Ds c σ H ρ S) (k : ∀ d S' v H', Reps c.X.K (im H' S') d v → Ds c σ H' ρ S' → Stp H S H' S' → QA d S' → R v H') : tA c.X es σ H R :=
  tA_mono (h σ H ds) fun v H' ⟨d, S', r, m, s, q⟩ => k d S' v H' r (ds.step m s) s q
theorem pst_same {K : PySem.W.Frag} {H : Hp} {d : D} {v : V} (m : Sim K H S) (r : Rep K (im H S) d v) (q : Q d S) : pst K H S Q v H := ⟨d, S, r, m, Stp.refl, q⟩

/-! ### names, constants -/
theorem je_var (i : Nat) {d : D} {x : Str} (hd : ρ[i]? = some (some d)) (hN : c.X.N[i]? = some x) (hv : Vis c.X.env.scope x) (q : Q d S) (hx : (x == ("__debug__" : Str)) = false := by decide) (hy : (x == ("__classdict__" : Str)) = false := by decide) : JE c (.Name x pos) ρ S Q :=
  JE.of (pe_var hN hv hx hy) fun σ H ds => let ⟨v, e1, e2⟩ := ds.sl.at_ i d hd; ⟨v, e1, pst_same ds.sim e2 q⟩
theorem je_int {i : Int} {j : Nat} (q : Q (.int i) S) : JE c (.Constant (.int i) j pos) ρ S Q := JE.of pe_int fun σ H ds => pst_same ds.sim (rep_int.mpr rfl) q
theorem je_bl {i : Bool} {j : Nat} (q : Q (.bl i) S) : JE c (.Constant (.bool i) j pos) ρ S Q := JE.of pe_bl fun σ H ds => pst_same ds.sim (rep_bl.mpr rfl) q
theorem je_non {j : Nat} (q : Q .non S) : JE c (.Constant .none j pos) ρ S Q := JE.of pe_non fun σ H ds => pst_same ds.sim (rep_non.mpr rfl) q
theorem je_str {x : Str} {j : Nat} (q : Q (.str x) S) : JE c (.Constant (.str x) j pos) ρ S Q := JE.of pe_str fun σ H ds => pst_same ds.sim (rep_str.mpr rfl) q
/-- a module's constant -/
theorem je_gint {x : Str} {i : Int} {t : Tok} (hg : Gl c.X x) (hm : c.X.mg x = some (.int i t)) (q : Q (.int i) S) (hx : (x == ("__debug__" : Str)) = false := by decide) : JE c (.Name x pos) ρ S Q :=
  JE.of (pe_glob (v := .int i) hg hm ⟨t, rfl⟩ hx) fun σ H ds => pst_same ds.sim (rep_int.mpr rfl) q
theorem je_gstr {x y : Str} {t : Tok} (hg : Gl c.X x) (hm : c.X.mg x = some (.str y t)) (q : Q (.str y) S) (hx : (x == ("__debug__" : Str)) = false := by decide) : JE c (.Name x pos) ρ S Q :=
  JE.of (pe_glob (v := .str y) hg hm ⟨t, rfl⟩ hx) fun σ H ds => pst_same ds.sim (rep_str.mpr rfl) q
theorem je_gref {x : Str} {a : Addr} (hg : Gl c.X x) (hm : c.X.mg x = some (.ref a)) (q : Q (.ref a) S) (hx : (x == ("__debug__" : Str)) = false := by decide) : JE c (.Name x pos) ρ S Q :=
  JE.of (pe_glob (v := .ref a) hg hm rfl hx) fun σ H ds => pst_same ds.sim (rep_ref.mpr rfl) q
/-- a built-in type as a value -/
theorem je_ty {x : Str} {n : String} (hg : Gl c.X x) (hm : c.X.mg x = none) (hv : bootBuiltins x = some (.type n)) (q : Q (.ty n) S) (hn : x ≠ "__name__" := by decide) (hx : (x == ("__debug__" : Str)) = false := by decide) : JE c (.Name x pos) ρ S Q :=
  JE.of (pe_bltn (v := .ty n) hg hm hv rfl hn hx) fun σ H ds => pst_same ds.sim (rep_ty.mpr rfl) q

/-! ### operators -/
theorem je_bin {op : Operator} (h : JE c a ρ S fun x S1 => JE c b ρ S1 fun y S2 => OD c (binaryOp op) x y S2 Q) : JE c (.BinOp a op b pos) ρ S Q :=
  JE.of (pe_op OpRt PEt PEt) fun σ H ds => h.then ds fun x S1 v H1 r1 d1 s1 h1 => h1.then d1 fun y S2 w H2 r2 d2 s2 h2 =>
    tO_mono (h2 H2 v w d2.sim (r1.mono s2) r2) fun z H3 q => pst_step s1 (pst_step s2 q)
theorem je_cmp {op : CmpOp} (h : JE c a ρ S fun x S1 => JE c b ρ S1 fun y S2 => OD c (compareOp op) x y S2 Q) (hm : behindInMarks op b = false := by first | exact nomark _ | rfl) : JE c (.Compare a [op] [b] pos) ρ S Q :=
  JE.of (pe_cmpR OpRt PEt PEt hm) fun σ H ds => h.then ds fun x S1 v H1 r1 d1 s1 h1 => h1.then d1 fun y S2 w H2 r2 d2 s2 h2 =>
    tO_mono (h2 H2 v w d2.sim (r1.mono s2) r2) fun z H3 q => pst_step s1 (pst_step s2 q)
theorem jt_cmp {op : CmpOp} (h : JE c a ρ S fun x S1 => JE c b ρ S1 fun y S2 => OD c (compareOp op) x y S2 fun z S3 => ∃ k, z = .bl k ∧ QT k S3) (hm : behindInMarks op b = false := by first | exact nomark _ | rfl) : JT c (.Compare a [op] [b] pos) ρ S QT :=
  JT.of (pt_cmpR OpRt PEt PEt hm) fun σ H ds => h.then ds fun x S1 v H1 r1 d1 s1 h1 => h1.then d1 fun y S2 w H2 r2 d2 s2 h2 =>
    tO_mono (h2 H2 v w d2.sim (r1.mono s2) r2) fun z H3 ⟨zd, S3, r3, m3, s3, k, e3, q⟩ => by
      subst e3
      exact ⟨k, rep_bl.mp r3, S3, m3, (s1.trans s2).trans s3, q⟩
theorem je_chain {op op' : CmpOp} (h : JE c a ρ S fun x S1 => JE c b ρ S1 fun y S2 => OD c (compareOp op) x y S2 fun z S3 => ∃ k, z = .bl k ∧ if k = true then JE c d ρ S3 fun w S4 => OD c (compareOp op') y w S4 Q else Q (.bl false) S3)
    (hm : lastMarks [op, op'] [b, d] = false := by with_unfolding_all rfl) : JE c (.Compare a [op, op'] [b, d] pos) ρ S Q :=
  JE.of (pe_chain OpRt OpRt PEt PEt PEt hm) fun σ H ds => h.then ds fun x S1 v H1 r1 d1 s1 h1 => h1.then d1 fun y S2 w H2 r2 d2 s2 h2 =>
    tO_mono (h2 H2 v w d2.sim (r1.mono s2) r2) fun z H3 ⟨zd, S3, r3, m3, s3, k, e3, q⟩ => by
      subst e3
      refine ⟨k, rep_bl.mp r3, ?_⟩
      cases k with
      | true =>
        rw [if_pos rfl] at q ⊢
        exact q.then (d2.step m3 s3) fun w' S4 v4 H4 r4 d4 s4 h4 => tO_mono (h4 H4 _ _ d4.sim ((r2.mono s3).mono s4) r4) fun z5 H5 q5 => pst_step (((s1.trans s2).trans s3).trans s4) q5
      | false =>
        rw [if_neg Bool.false_ne_true] at q ⊢
        exact pst_step ((s1.trans s2).trans s3) (pst_same m3 (rep_bl.mpr rfl) q)
theorem jt_chain {op op' : CmpOp} (h : JE c a ρ S fun x S1 => JE c b ρ S1 fun y S2 => OD c (compareOp op) x y S2 fun z S3 => ∃ k, z = .bl k ∧ if k = true then JE c d ρ S3 fun w S4 => OD c (compareOp op') y w S4 fun z4 S5 => ∃ k4, z4 = .bl k4 ∧ QT k4 S5 else QT false S3)
    (hm : lastMarks [op, op'] [b, d] = false := by with_unfolding_all rfl) : JT c (.Compare a [op, op'] [b, d] pos) ρ S QT :=
  JT.of (pt_chain OpRt OpRt PEt PEt PEt hm) fun σ H ds => h.then ds fun x S1 v H1 r1 d1 s1 h1 => h1.then d1 fun y S2 w H2 r2 d2 s2 h2 =>
    tO_mono (h2 H2 v w d2.sim (r1.mono s2) r2) fun z H3 ⟨zd, S3, r3, m3, s3, k, e3, q⟩ => by
      subst e3
      refine ⟨k, rep_bl.mp r3, ?_⟩
      cases k with
      | true =>
        rw [if_pos rfl] at q ⊢
        refine q.then (d2.step m3 s3) fun w' S4 v4 H4 r4 d4 s4 h4 => tO_mono (h4 H4 _ _ d4.sim ((r2.mono s3).mono s4) r4) fun z5 H5 ⟨zd5, S5, r5, m5, s5, k5, e5, q5⟩ => ?_
        subst e5
        exact ⟨k5, rep_bl.mp r5, S5, m5, (((s1.trans s2).trans s3).trans s4).trans s5, q5⟩
      | false =>
        rw [if_neg Bool.false_ne_true] at q ⊢
        exact ⟨false, rfl, S3, m3, (s1.trans s2).trans s3, q⟩
theorem je_ifExp (h : JT c e ρ S fun k S1 => if k = true then JE c a ρ S1 Q else JE c b ρ S1 Q) : JE c (.IfExp e a b pos) ρ S Q :=
  JE.of (pe_ifExp PTt PEt PEt) fun σ H ds => h.then ds fun k S1 H1 d1 s1 q => by
    cases k with
    | true => rw [if_pos rfl] at q ⊢; exact q.then d1 fun x S2 v H2 r2 d2 s2 q2 => ⟨x, S2, r2, d2.sim, s1.trans s2, q2⟩
    | false => rw [if_neg Bool.false_ne_true] at q ⊢; exact q.then d1 fun x S2 v H2 r2 d2 s2 q2 => ⟨x, S2, r2, d2.sim, s1.trans s2, q2⟩
theorem je_one {op} (h : JE c a ρ S Q) : JE c (.BoolOp op [a] pos) ρ S Q := JE.of (pe_one PEt) fun σ H ds => h σ H ds
theorem je_and (h : JE c a ρ S fun x S1 => ∃ k, x = .bl k ∧ if k = true then JE c (.BoolOp .And (b :: es) pos) ρ S1 Q else Q (.bl false) S1) : JE c (.BoolOp .And (a :: b :: es) pos) ρ S Q :=
  JE.of (pe_and PEt PEt) fun σ H ds => h.then ds fun x S1 v H1 r1 d1 s1 ⟨k, e1, q⟩ => by
    subst e1
    refine ⟨k, rep_bl.mp r1, ?_⟩
    cases k with
    | true => rw [if_pos rfl] at q ⊢; exact q.then d1 fun x S2 v H2 r2 d2 s2 q2 => ⟨x, S2, r2, d2.sim, s1.trans s2, q2⟩
    | false => rw [if_neg Bool.false_ne_true] at q ⊢; exact pst_step s1 (pst_same d1.sim (rep_bl.mpr rfl) q)
theorem je_or (h : JE c a ρ S fun x S1 => ∃ k, x = .bl k ∧ if k = true then Q (.bl true) S1 else JE c (.BoolOp .Or (b :: es) pos) ρ S1 Q) : JE c (.BoolOp .Or (a :: b :: es) pos) ρ S Q :=
  JE.of (pe_or PEt PEt) fun σ H ds => h.then ds fun x S1 v H1 r1 d1 s1 ⟨k, e1, q⟩ => by
    subst e1
    refine ⟨k, rep_bl.mp r1, ?_⟩
    cases k with
    | false => rw [if_neg Bool.false_ne_true] at q ⊢; exact q.then d1 fun x S2 v H2 r2 d2 s2 q2 => ⟨x, S2, r2, d2.sim, s1.trans s2, q2⟩
    | true => rw [if_pos rfl] at q ⊢; exact pst_step s1 (pst_same d1.sim (rep_bl.mpr rfl) q)
theorem je_not (h : JE c a ρ S fun x S1 => ∃ k, x = .bl k ∧ Q (.bl (!k)) S1) : JE c (.UnaryOp .Not a pos) ρ S Q :=
  JE.of (pe_not PEt) fun σ H ds => h.then ds fun x S1 v H1 r1 d1 s1 ⟨k, e1, q⟩ => by
    subst e1
    exact ⟨k, rep_bl.mp r1, pst_step s1 (pst_same d1.sim (rep_bl.mpr rfl) q)⟩
theorem je_neg (h : JE c a ρ S fun x S1 => ∃ i, x = .int i ∧ Q (.int (-i)) S1) : JE c (.UnaryOp .USub a pos) ρ S Q :=
  JE.of (pe_un un_neg PEt) fun σ H ds => h.then ds fun x S1 v H1 r1 d1 s1 ⟨k, e1, q⟩ => by
    subst e1
    exact ⟨k, rep_int.mp r1, pst_step s1 (pst_same d1.sim (rep_int.mpr rfl) q)⟩

/-! ### tests -/
theorem jt_not (h : JT c a ρ S fun k S1 => QT (!k) S1) : JT c (.UnaryOp .Not a pos) ρ S QT :=
  JT.of (pt_not PTt) fun σ H ds => h.then ds fun k S1 H1 d1 s1 q => ⟨S1, d1.sim, s1, q⟩
theorem jt_w (h : JW c a ρ S QT) : JT c a ρ S QT := JT.of (PW.pt PWt) fun σ H ds => h σ H ds
theorem jw_and1 (h : JT c a ρ S QT) : JW c (.BoolOp .And [a] pos) ρ S QT := JW.of (pw_and1 PTt) fun σ H ds => h σ H ds
theorem jw_or1 (h : JT c a ρ S QT) : JW c (.BoolOp .Or [a] pos) ρ S QT := JW.of (pw_or1 PTt) fun σ H ds => h σ H ds
theorem jw_and (h : JT c a ρ S fun k S1 => if k = true then JW c (.BoolOp .And (b :: es) pos) ρ S1 QT else QT false S1) : JW c (.BoolOp .And (a :: b :: es) pos) ρ S QT :=
  JW.of (pw_and PTt PWt) fun σ H ds => h.then ds fun k S1 H1 d1 s1 q => by
    cases k with
    | true => rw [if_pos rfl] at q ⊢; exact q.then d1 fun k S2 H2 d2 s2 q2 => ⟨S2, d2.sim, s1.trans s2, q2⟩
    | false => rw [if_neg Bool.false_ne_true] at q ⊢; exact ⟨S1, d1.sim, s1, q⟩
theorem jw_or (h : JT c a ρ S fun k S1 => if k = true then QT true S1 else JW c (.BoolOp .Or (b :: es) pos) ρ S1 QT) : JW c (.BoolOp .Or (a :: b :: es) pos) ρ S QT :=
  JW.of (pw_or PTt PWt) fun σ H ds => h.then ds fun k S1 H1 d1 s1 q => by
    cases k with
    | false => rw [if_neg Bool.false_ne_true] at q ⊢; exact q.then d1 fun k S2 H2 d2 s2 q2 => ⟨S2, d2.sim, s1.trans s2, q2⟩
    | true => rw [if_pos rfl] at q ⊢; exact ⟨S1, d1.sim, s1, q⟩
/-- an expression that gives a flag -/
theorem jt_bl (h : JE c e ρ S fun x S1 => ∃ k, x = .bl k ∧ QT k S1) (he : ∀ whole, isTrue e c.X.env whole = (do let v ← whole; standAt e.pos; holding [v] (truthy v)) := by intro _; rfl) : JT c e ρ S QT :=
  JT.of (pt_val PEt he) fun σ H ds => h.then ds fun x S1 v H1 r1 d1 s1 ⟨k, e1, q⟩ => by
    subst e1
    exact ⟨k, rep_bl.mp r1, S1, d1.sim, s1, q⟩
/-- a value's truth -/
def TD (S : SS) (x : D) (k : Bool) : Prop := match x with
  | .non => k = false
  | .bl b => k = b
  | .int i => k = (i != 0)
  | .str y => y.length ≤ sizeLine ∧ k = ((y.length : Int) != 0)
  | .tup xs => k = !xs.isEmpty
  | .fl xs => k = !xs.isEmpty
  | .ref a => ∃ o, S a = some o ∧ match o with
    | .lst xs => k = !xs.isEmpty
    | .dk kvs => k = !kvs.isEmpty
    | _ => False
  | .ty _ => False
  | .lam _ _ _ _ => False
theorem reps_empty {K : PySem.W.Frag} {G : Hp} {xs : List D} {vs : List V} (r : Reps K G xs vs) : (!vs.isEmpty) = !xs.isEmpty := by
  have := r.length
  cases xs <;> cases vs <;> simp_all
theorem repP_len {κ : Type} {K : PySem.W.Frag} {G : Hp} : ∀ {xs : List (κ × D)} {vs : List (κ × V)}, RepP K G xs vs → xs.length = vs.length
  | [], vs, h => by cases h; rfl
  | (k, d) :: xs, vs, h => by
    obtain ⟨v, t, rfl, _, h3⟩ := h
    simp only [List.length_cons, repP_len h3]
theorem TD.ok {K : PySem.W.Frag} {H : Hp} {x : D} {k : Bool} {v : V} (h : TD S x k) (m : Sim K H S) (r : Rep K (im H S) x v) : TruV K v H k := by
  cases x with
  | non => rw [rep_non.mp r]; exact h
  | bl b => rw [rep_bl.mp r]; exact h
  | int i => rw [rep_int.mp r]; exact h
  | str y => rw [rep_str.mp r]; exact h
  | tup xs =>
    obtain ⟨a, vs, rfl, h1, h2⟩ := tup_sq r
    exact .inr (.inl ⟨vs, h1, by rw [reps_empty h2]; exact h⟩)
  | fl xs =>
    obtain ⟨a, vs, rfl, h1, h2⟩ := IsL.sq IsL.fl r m
    exact .inl ⟨vs, h1, by rw [reps_empty h2]; exact h⟩
  | ref a =>
    rw [rep_ref.mp r]
    obtain ⟨o, e, h⟩ := h
    have so := m a o e
    cases o with
    | lst xs => obtain ⟨vs, e1, e2⟩ := so; exact .inl ⟨vs, SqL.of e1, by rw [reps_empty e2]; exact h⟩
    | dk xs =>
      obtain ⟨vs, e1, e2⟩ := so
      have hl := repP_len e2
      exact .inr (.inr ⟨vs, e1, by cases xs <;> cases vs <;> simp_all⟩)
    | dt xs => exact h.elim
    | ins C fs => exact h.elim
    | xd fs => exact h.elim
    | fdk od vs fs => exact h.elim
    | tb q => exact h.elim
  | ty n => exact h.elim
  | lam f c q G => exact h.elim
theorem jt_truth (h : JE c e ρ S fun x S1 => ∃ k, TD S1 x k ∧ QT k S1) (he : ∀ whole, isTrue e c.X.env whole = (do let v ← whole; standAt e.pos; holding [v] (truthy v)) := by intro _; rfl) : JT c e ρ S QT :=
  JT.of (pt_truth PEt he) fun σ H ds => h.then ds fun x S1 v H1 r1 d1 s1 ⟨k, e1, q⟩ => ⟨k, e1.ok d1.sim r1, S1, d1.sim, s1, q⟩

/-! ### argument lists, displays -/
theorem ja_nil (q : QA [] S) : JA c [] ρ S QA := fun σ H ds pos pins s I => pa_nil.run pos pins s σ H _ I ⟨[], S, Reps.nil, ds.sim, Stp.refl, q⟩
theorem ja_cons (h : JE c e ρ S fun x S1 => JA c es ρ S1 fun xs S2 => QA (x :: xs) S2) (hs : starEach (e :: es) c.X.env = (false, eval e c.X.env) :: starEach es c.X.env := by rfl) : JA c (e :: es) ρ S QA := fun σ H ds pos pins s I =>
  (pa_cons PEt PAt hs).run pos pins s σ H _ I (h.then ds fun x S1 v H1 r1 d1 s1 q1 => q1.then d1 fun xs S2 vs H2 r2 d2 s2 q2 => ⟨x :: xs, S2, Reps.cons (r1.mono s2) r2, d2.sim, s1.trans s2, q2⟩)
theorem je_tup {x1} (h : JA c es ρ S fun xs S1 => xs.length ≤ sizeLine ∧ Q (.tup xs) S1) : JE c (.Tuple es x1 pos) ρ S Q :=
  JE.of (pe_tup PAt) fun σ H ds => h.then ds fun xs S1 vs H1 r1 d1 s1 ⟨hl, q⟩ => ⟨by rw [← r1.length]; exact hl, fun p hp => by
    obtain ⟨st, sm, e⟩ := d1.sim.new (o := .tup vs) hp
    exact ⟨.tup xs, S1, rep_tup.mpr ⟨p, vs, rfl, SqT.of e, r1.mono st⟩, sm, s1.trans st, q⟩⟩
/-- a list that never changes from now on -/
theorem je_lst (h : JA c es ρ S fun xs S1 => xs.length ≤ sizeLine ∧ Q (.fl xs) S1) : JE c (.List es pos) ρ S Q :=
  JE.of (pe_lst PAt) fun σ H ds => h.then ds fun xs S1 vs H1 r1 d1 s1 ⟨hl, q⟩ => ⟨by rw [← r1.length]; exact hl, fun p hp => by
    obtain ⟨st, sm, e⟩ := d1.sim.new (o := .lst vs) hp
    exact ⟨.fl xs, S1, rep_fl.mpr ⟨p, vs, rfl, SqL.of e, r1.mono st⟩, sm, s1.trans st, q⟩⟩
/-- a list of the store -/
theorem je_lstM (h : JA c es ρ S fun xs S1 => xs.length ≤ sizeLine ∧ ∀ p, S1 p = none → Q (.ref p) (sup S1 p (.lst xs))) : JE c (.List es pos) ρ S Q :=
  JE.of (pe_lst PAt) fun σ H ds => h.then ds fun xs S1 vs H1 r1 d1 s1 ⟨hl, q⟩ => ⟨by rw [← r1.length]; exact hl, fun p hp => by
    obtain ⟨st, sm⟩ := d1.sim.newM (o := .lst vs) (m := .lst xs) hp fun H' S' sb e => ⟨vs, e, r1.mono sb⟩
    exact ⟨.ref p, _, rep_ref.mpr rfl, sm, s1.trans st, q p (d1.sim.free hp)⟩⟩

/-! ### statements -/
theorem pstE_step {K : PySem.W.Frag} {H H' : Hp} {S' : SS} (st : Stp H S H' S') : EndsLe (pstE K H' S' nx rt bk ct) (pstE K H S nx rt bk ct) :=
  ⟨fun _ _ h => pstN_step st h, fun _ _ h => pst_step st h, fun _ _ h => pstN_step st h, fun _ _ h => pstN_step st h⟩
theorem jss_nil (q : nx ρ S) : JSs c [] ρ S nx rt bk ct := fun σ H ds pins s I => pss_nil.run pins s σ H _ I ⟨ρ, S, ds.sl, ds.sim, Stp.refl, q⟩
theorem jss_cons (h : JS c st ρ S (fun ρ' S' => JSs c sts ρ' S' nx rt bk ct) rt bk ct) : JSs c (st :: sts) ρ S nx rt bk ct := fun σ H ds pins s I =>
  (pss_cons PSt PSst).run pins s σ H _ I (tS_mono (h σ H ds) ⟨fun σ' H' ⟨ρ', S', sl, sm, s1, q⟩ => tSs_mono (q σ' H' ((ds.step sm s1).slots sl)) (pstE_step s1), fun _ _ z => z, fun _ _ z => z, fun _ _ z => z⟩)
theorem js_pass (q : nx ρ S) : JS c (.Pass pos) ρ S nx rt bk ct := JS.of ps_pass fun σ H ds => ⟨ρ, S, ds.sl, ds.sim, Stp.refl, q⟩
theorem js_break (q : bk ρ S) : JS c (.Break pos) ρ S nx rt bk ct := JS.of ps_break fun σ H ds => ⟨ρ, S, ds.sl, ds.sim, Stp.refl, q⟩
theorem js_continue (q : ct ρ S) : JS c (.Continue pos) ρ S nx rt bk ct := JS.of ps_continue fun σ H ds => ⟨ρ, S, ds.sl, ds.sim, Stp.refl, q⟩
theorem js_doc {x j pos'} (q : nx ρ S) : JS c (.Expr (.Constant (.str x) j pos) pos') ρ S nx rt bk ct := JS.of ps_doc fun σ H ds => ⟨ρ, S, ds.sl, ds.sim, Stp.refl, q⟩
theorem js_expr (h : JE c e ρ S fun _ S1 => nx ρ S1) (hs : swapsWith e none pos.line c.X.env = pure false := by rfl) : JS c (.Expr e pos) ρ S nx rt bk ct :=
  JS.of (ps_expr PEt hs) fun σ H ds => h.then ds fun x S1 v H1 r1 d1 s1 q => ⟨ρ, S1, d1.sl, d1.sim, s1, q⟩
theorem js_ret (h : JE c e ρ S rt) : JS c (.Return (some e) pos) ρ S nx rt bk ct := JS.of (ps_ret PEt) fun σ H ds => h σ H ds
theorem js_retN (q : rt .non S) : JS c (.Return none pos) ρ S nx rt bk ct := JS.of ps_retN fun σ H ds => pst_same ds.sim (rep_non.mpr rfl) q
theorem js_if {sa sb : List Stmt} (h : JT c e ρ S fun k S1 => if k = true then JSs c sa ρ S1 nx rt bk ct else JSs c sb ρ S1 nx rt bk ct) : JS c (.If e sa sb pos) ρ S nx rt bk ct :=
  JS.of (ps_if PTt PSst PSst) fun σ H ds => h.then ds fun k S1 H1 d1 s1 q => by
    cases k with
    | true => rw [if_pos rfl] at q ⊢; exact tSs_mono (q σ H1 d1) (pstE_step s1)
    | false => rw [if_neg Bool.false_ne_true] at q ⊢; exact tSs_mono (q σ H1 d1) (pstE_step s1)
theorem js_never (h : False) : JS c st ρ S nx rt bk ct := h.elim
theorem js_set (i : Nat) {x : Str} {pos' : Pos} (h : JE c e ρ S fun d S1 => nx (ρ.set i (some d)) S1) (hN : c.X.N.Nodup) (hi : c.X.N[i]? = some x) (hx : Loc c.X.env.scope x) (hf : c.X.fn x = true ∨ c.X.env.scope.names.lookup x = some .local) (hs : swapsWith e (some (.Name x pos')) pos.line c.X.env = pure false := by rfl) :
    JS c (.Assign [.Name x pos'] e pos) ρ S nx rt bk ct :=
  JS.of (ps_set hN hi hx PEt hs hf) fun σ H ds => h.then ds fun d S1 v H1 r1 d1 s1 q => ⟨ρ.set i (some d), S1, d1.sl.set r1, d1.sim, s1, q⟩
/-- target = e -/
theorem js_asg {tg : Expr} (h : JE c e ρ S fun d S1 => JG c tg d ρ S1 nx) (hs : swapsWithSole [tg] e pos.line c.X.env = pure false := by rfl) (hw : swappedStores [tg] e c.X.env = pure none := by rfl)
    (h1 : (assignEach [tg] c.X.env).map (·.2) = [assign tg c.X.env] := by rfl) : JS c (.Assign [tg] e pos) ρ S nx rt bk ct :=
  JS.of (ps_asg PEt PGt hs hw h1) fun σ H ds => h.then ds fun d S1 v H1 r1 d1 s1 q => tGt_mono (q σ H1 v d1 r1) fun σ2 H2 q2 => pstN_step s1 q2
theorem JG.of {tg : Expr} {x : D} {t : TG} (h : PG c.X tg t) (k : ∀ σ H v, Ds c σ H ρ S → Rep c.X.K (im H S) x v → t v σ H (pstN c.X.K H S nx)) : JG c tg x ρ S nx := fun σ H v ds r pins s u I ru => h.run pins s σ H v u _ I ru (k σ H v ds r)
theorem jg_name (i : Nat) {x : Str} {y : D} (q : nx (ρ.set i (some y)) S) (hN : c.X.N.Nodup) (hi : c.X.N[i]? = some x) (hx : Loc c.X.env.scope x) (hf : c.X.fn x = true ∨ c.X.env.scope.names.lookup x = some .local) : JG c (.Name x pos) y ρ S nx :=
  JG.of (pg_name hN hi hx hf) fun σ H v ds r => ⟨ρ.set i (some y), S, ds.sl.set r, ds.sim, Stp.refl, q⟩
end
end DP

namespace DP
open PySem L2

section
variable {c : Ctx} {S : SS} {Q : D → SS → Prop} {x y : D} {i j : Int}
/-! ### operators by values -/
theorem od_i0 {f : Value → Value → Sem Value} {g : Int → Int → V} {r : D} (h : OpR c.X f (rI0 g)) (hr : ∀ K G, Rep K G r (g i j)) (q : Q r S) : OD c f (.int i) (.int j) S Q :=
  OD.of h fun H v w m rv rw => ⟨i, j, rep_int.mp rv, rep_int.mp rw, pst_same m (hr _ _) q⟩
theorem od_i {f : Value → Value → Sem Value} {C : Int → Int → Prop} {g : Int → Int → V} {r : D} (h : OpR c.X f (rI C g)) (hr : ∀ K G, Rep K G r (g i j)) (hc : C i j) (q : Q r S) : OD c f (.int i) (.int j) S Q :=
  OD.of h fun H v w m rv rw => ⟨i, j, rep_int.mp rv, rep_int.mp rw, hc, pst_same m (hr _ _) q⟩
theorem od_add (q : Q (.int (i + j)) S) : OD c (binaryOp .Add) (.int i) (.int j) S Q := od_i0 op_add (fun _ _ => rep_int.mpr rfl) q
theorem od_sub (q : Q (.int (i - j)) S) : OD c (binaryOp .Sub) (.int i) (.int j) S Q := od_i0 op_sub (fun _ _ => rep_int.mpr rfl) q
theorem od_mul (h : IntMulOk i j) (q : Q (.int (i * j)) S) : OD c (binaryOp .Mult) (.int i) (.int j) S Q :=
  od_i (C := IntMulOk) (g := fun i j => .int (i * j)) (opI fun _ _ _ _ _ _ _ hc q => PyProof.Rows.mul_int q hc) (fun _ _ => rep_int.mpr rfl) h q
theorem od_fdiv (h : CDivW i j) (q : Q (.int (i / j)) S) : OD c (binaryOp .FloorDiv) (.int i) (.int j) S Q := od_i op_fdivW (fun _ _ => rep_int.mpr rfl) h q
theorem od_mod (h : 0 < j) (q : Q (.int (i % j)) S) : OD c (binaryOp .Mod) (.int i) (.int j) S Q := od_i op_mod (fun _ _ => rep_int.mpr rfl) h q
theorem od_pow (h : CPow i j) (q : Q (.int (i ^ j.toNat)) S) : OD c (binaryOp .Pow) (.int i) (.int j) S Q := od_i op_pow (fun _ _ => rep_int.mpr rfl) h q
theorem od_lt (q : Q (.bl (decide (i < j))) S) : OD c (compareOp .Lt) (.int i) (.int j) S Q := od_i0 op_lt (fun _ _ => rep_bl.mpr rfl) q
theorem od_le (q : Q (.bl (decide (i ≤ j))) S) : OD c (compareOp .LtE) (.int i) (.int j) S Q := od_i0 op_le (fun _ _ => rep_bl.mpr rfl) q
theorem od_gt (q : Q (.bl (decide (j < i))) S) : OD c (compareOp .Gt) (.int i) (.int j) S Q := od_i0 op_gt (fun _ _ => rep_bl.mpr rfl) q
theorem od_ge (q : Q (.bl (decide (j ≤ i))) S) : OD c (compareOp .GtE) (.int i) (.int j) S Q := od_i0 op_ge (fun _ _ => rep_bl.mpr rfl) q
theorem dec_int_i : (decide (V.int i = V.int j)) = decide (i = j) := by
  by_cases h : i = j <;> simp [h]
theorem od_eqI (q : Q (.bl (decide (i = j))) S) : OD c (compareOp .Eq) (.int i) (.int j) S Q :=
  OD.of op_eq fun H v w m rv rw => by
    rw [rep_int.mp rv, rep_int.mp rw]
    exact ⟨rfl, pst_same m (rep_bl.mpr (congrArg V.bl dec_int_i)) q⟩
theorem od_neI (q : Q (.bl (!decide (i = j))) S) : OD c (compareOp .NotEq) (.int i) (.int j) S Q :=
  OD.of op_ne fun H v w m rv rw => by
    rw [rep_int.mp rv, rep_int.mp rw]
    exact ⟨rfl, pst_same m (rep_bl.mpr (congrArg (fun b => V.bl (!b)) dec_int_i)) q⟩
theorem od_eqS {a b : Str} (q : Q (.bl (decide (a = b))) S) : OD c (compareOp .Eq) (.str a) (.str b) S Q :=
  OD.of op_eq fun H v w m rv rw => by
    rw [rep_str.mp rv, rep_str.mp rw]
    exact ⟨rfl, pst_same m (rep_bl.mpr (by by_cases h : a = b <;> simp [h])) q⟩
theorem od_neS {a b : Str} (q : Q (.bl (!decide (a = b))) S) : OD c (compareOp .NotEq) (.str a) (.str b) S Q :=
  OD.of op_ne fun H v w m rv rw => by
    rw [rep_str.mp rv, rep_str.mp rw]
    exact ⟨rfl, pst_same m (rep_bl.mpr (by by_cases h : a = b <;> simp [h])) q⟩
@[reducible] def isNon : D → Bool
  | .non => true
  | _ => false
theorem isNon_ok {K : PySem.W.Frag} {G : Hp} {v : V} (r : Rep K G x v) : decide (v = .non) = isNon x := by
  cases x with
  | non => rw [rep_non.mp r]; rfl
  | bl b => rw [rep_bl.mp r]; rfl
  | int b => rw [rep_int.mp r]; rfl
  | str b => rw [rep_str.mp r]; rfl
  | ref b => rw [rep_ref.mp r]; rfl
  | ty b => rw [rep_ty.mp r]; rfl
  | lam f c q G => rw [(rep_lam.mp r).1]; rfl
  | tup b => obtain ⟨a, vs, rfl, _⟩ := rep_tup.mp r; rfl
  | fl b => obtain ⟨a, vs, rfl, _⟩ := rep_fl.mp r; rfl
theorem od_isN (q : Q (.bl (isNon x)) S) : OD c (compareOp .Is) x .non S Q :=
  OD.of op_isN fun H v w m rv rw => ⟨rep_non.mp rw, pst_same m (rep_bl.mpr (congrArg V.bl (isNon_ok rv))) q⟩
theorem od_notN (q : Q (.bl (!isNon x)) S) : OD c (compareOp .IsNot) x .non S Q :=
  OD.of op_notN fun H v w m rv rw => ⟨rep_non.mp rw, pst_same m (rep_bl.mpr (congrArg (fun b => V.bl (!b)) (isNon_ok rv))) q⟩
theorem od_isB {a b : Bool} (q : Q (.bl (decide (a = b))) S) : OD c (compareOp .Is) (.bl a) (.bl b) S Q :=
  OD.of op_isBl fun H v w m rv rw => ⟨a, b, rep_bl.mp rv, rep_bl.mp rw, pst_same m (rep_bl.mpr rfl) q⟩
theorem od_notB {a b : Bool} (q : Q (.bl (!decide (a = b))) S) : OD c (compareOp .IsNot) (.bl a) (.bl b) S Q :=
  OD.of op_notBl fun H v w m rv rw => ⟨a, b, rep_bl.mp rv, rep_bl.mp rw, pst_same m (rep_bl.mpr rfl) q⟩

/-! ### lists and tuples put together -/
theorem rCatS_ok : OpR c.X (binaryOp .Add) (fun x y H Q => ∃ l b xs zs, x = .ref l ∧ y = .ref b ∧ SqL c.X.K H l xs ∧ SqL c.X.K H b zs ∧ xs.length + zs.length ≤ sizeLine ∧ ∀ p, H p = none → Q (.ref p) (upd H p (.lst (xs ++ zs)))) := by
  intro pins s σ H x y v u Q I rx ry h
  obtain ⟨l, b, xs, zs, rfl, rfl, hH, hB, hz, q⟩ := h
  cases rx
  cases ry
  obtain ⟨its, r, ⟨⟨cls, dd, data, sl⟩, n, ho, hc, hdd, hd⟩, z⟩ := I.list hH
  obtain ⟨its2, r2, ⟨⟨cls2, dd2, data2, sl2⟩, n2, ho2, hc2, hdd2, hd2⟩, z2⟩ := I.list hB
  simp only at hc hd hc2 hd2 hdd hdd2
  subst hc hd hc2 hd2 hdd hdd2
  have hl := r.length
  have hl2 := r2.length
  have ea : its.toArray ++ its2.toArray = (its ++ its2).toArray := by simp
  refine PySem.concat_meets ⟨_, ho, rfl⟩ ⟨_, ho2, rfl⟩ PySem.noFill_list_add PySem.seq_list_add PySem.F.slot_list_add PySem.F.entry_list_add (PySem.F.args_list_add_2 _ _) (PyProof.Rows.list_addW l b its.toArray its2.toArray n n2 none none sl sl2 (by simp; omega)) ⟨ho, ho2, ?_⟩
  rw [ea]
  exact ⟨.ref _, _, I.lnew (t' := s.toks) (r.append r2) (by rw [List.length_append]; omega), rfl, q _ I.fresh⟩
theorem od_cat {xs ys : List D} (hx : IsL S x xs) (hy : IsL S y ys) (hl : xs.length + ys.length ≤ sizeLine) (q : Q (.fl (xs ++ ys)) S) : OD c (binaryOp .Add) x y S Q :=
  OD.of rCatS_ok fun H v w m rv rw => by
    obtain ⟨a, vs, rfl, h1, h2⟩ := hx.sq rv m
    obtain ⟨b, ws, rfl, h3, h4⟩ := hy.sq rw m
    refine ⟨a, b, vs, ws, rfl, rfl, h1, h3, by rw [← h2.length, ← h4.length]; exact hl, fun p hp => ?_⟩
    obtain ⟨st, sm, e⟩ := m.new (o := .lst (vs ++ ws)) hp
    exact ⟨_, S, rep_fl.mpr ⟨p, _, rfl, SqL.of e, (h2.mono st).append (h4.mono st)⟩, sm, st, q⟩
theorem od_catM {xs ys : List D} (hx : IsL S x xs) (hy : IsL S y ys) (hl : xs.length + ys.length ≤ sizeLine) (q : ∀ p, S p = none → Q (.ref p) (sup S p (.lst (xs ++ ys)))) : OD c (binaryOp .Add) x y S Q :=
  OD.of rCatS_ok fun H v w m rv rw => by
    obtain ⟨a, vs, rfl, h1, h2⟩ := hx.sq rv m
    obtain ⟨b, ws, rfl, h3, h4⟩ := hy.sq rw m
    refine ⟨a, b, vs, ws, rfl, rfl, h1, h3, by rw [← h2.length, ← h4.length]; exact hl, fun p hp => ?_⟩
    obtain ⟨st, sm⟩ := m.newM (o := .lst (vs ++ ws)) (m := .lst (xs ++ ys)) hp fun H' S' sb e => ⟨_, e, (h2.mono sb).append (h4.mono sb)⟩
    exact ⟨.ref p, _, rep_ref.mpr rfl, sm, st, q p (m.free hp)⟩
theorem od_catT {xs ys : List D} (hx : xs ≠ []) (hl : xs.length + ys.length ≤ sizeLine) (q : Q (.tup (xs ++ ys)) S) : OD c (binaryOp .Add) (.tup xs) (.tup ys) S Q :=
  OD.of op_catT fun H v w m rv rw => by
    obtain ⟨a, vs, rfl, h1, h2⟩ := tup_sq rv
    obtain ⟨b, ws, rfl, h3, h4⟩ := tup_sq rw
    have l1 := h2.length
    have l2 := h4.length
    refine ⟨a, b, vs, ws, rfl, rfl, h1, h3, fun z => hx (by rw [z] at l1; exact List.eq_nil_of_length_eq_zero l1), by rw [← h2.length, ← h4.length]; exact hl, fun z => ?_, fun _ p hp => ?_⟩
    · subst z
      obtain ⟨a', vs', e1, e2, e3⟩ := rep_tup.mp rv
      have e4 : ys = [] := List.eq_nil_of_length_eq_zero l2
      subst e4
      refine ⟨_, S, rep_tup.mpr ⟨a', vs', e1, e2, ?_⟩, m, Stp.refl, q⟩
      rw [List.append_nil]
      exact e3
    · obtain ⟨st, sm, e⟩ := m.new (o := .tup (vs ++ ws)) hp
      exact ⟨_, S, rep_tup.mpr ⟨p, _, rfl, SqT.of e, (h2.mono st).append (h4.mono st)⟩, sm, st, q⟩

/-! ### equality, membership -/
mutual
def toPy : D → PyData
  | .non => .none
  | .bl b => .bool b
  | .int i => .int i
  | .str x => .str x
  | .tup xs => .tuple (toPys xs)
  | .fl xs => .list (toPys xs)
  | .ref _ => .none
  | .ty _ => .none
  | .lam _ _ _ _ => .none
def toPys : List D → List PyData
  | [] => []
  | x :: xs => toPy x :: toPys xs
end
theorem toPys_map : ∀ xs : List D, toPys xs = xs.map toPy
  | [] => rfl
  | x :: xs => by rw [List.map_cons, ← toPys_map xs, toPys]
mutual
/-- data through and through -/
def isDt : D → Bool
  | .ref _ => false
  | .ty _ => false
  | .lam _ _ _ _ => false
  | .tup xs => isDts xs
  | .fl xs => isDts xs
  | .non => true
  | .bl _ => true
  | .int _ => true
  | .str _ => true
def isDts : List D → Bool
  | [] => true
  | x :: xs => isDt x && isDts xs
end
theorem isDts_all : ∀ xs : List D, isDts xs = xs.all isDt
  | [] => rfl
  | x :: xs => by rw [List.all_cons, ← isDts_all xs, isDts]
mutual
theorem rep_dp {K : PySem.W.Frag} {H G : Hp} (sb : Sub G H) : ∀ (d : D) (v : V), isDt d = true → Rep K G d v → Dp K H v (toPy d)
  | .non, v, h, r => by rw [rep_non.mp r]; unfold toPy; exact .non
  | .bl b, v, h, r => by rw [rep_bl.mp r]; unfold toPy; exact .bl b
  | .int b, v, h, r => by rw [rep_int.mp r]; unfold toPy; exact .int b
  | .str b, v, h, r => by rw [rep_str.mp r]; unfold toPy; exact .str b
  | .ref a, v, h, r => by unfold isDt at h; cases h
  | .ty a, v, h, r => by unfold isDt at h; cases h
  | .lam _ _ _ _, v, h, r => by unfold isDt at h; cases h
  | .tup xs, v, h, r => by
    obtain ⟨a, vs, rfl, h1, h2⟩ := rep_tup.mp r
    unfold isDt at h
    unfold toPy
    exact .tup (sb.t h1) (reps_dp sb xs vs h h2)
  | .fl xs, v, h, r => by
    obtain ⟨a, vs, rfl, h1, h2⟩ := rep_fl.mp r
    unfold isDt at h
    unfold toPy
    exact .lst (sb.l h1) (reps_dp sb xs vs h h2)
theorem reps_dp {K : PySem.W.Frag} {H G : Hp} (sb : Sub G H) : ∀ (ds : List D) (vs : List V), isDts ds = true → Reps K G ds vs → DpAll K H vs (toPys ds)
  | [], vs, h, r => by unfold Reps at r; subst r; unfold toPys; exact .nil
  | d :: ds, vs, h, r => by
    unfold Reps at r
    obtain ⟨v, t, rfl, h1, h2⟩ := r
    unfold isDts at h
    rw [Bool.and_eq_true] at h
    unfold toPys
    exact .cons (rep_dp sb d v h.1 h1) (reps_dp sb ds t h.2 h2)
end
def deq (a b : D) : Bool := PyData.eqv (toPy a) (toPy b)
def shp (d : D) : Bool := isDt d && SeqAt.shaped (toPy d)
theorem od_eqD (hu : c.X.A.units + 64 < cLine) (h1 : shp x = true) (h2 : shp y = true) (q : Q (.bl (deq x y)) S) : OD c (compareOp .Eq) x y S Q :=
  OD.of (op_eqD hu) fun H v w m rv rw => by
    unfold shp at h1 h2
    rw [Bool.and_eq_true] at h1 h2
    exact ⟨_, _, rep_dp sub_im x v h1.1 rv, rep_dp sub_im y w h2.1 rw, h1.2, h2.2, pst_same m (rep_bl.mpr rfl) q⟩
theorem od_neD (hu : c.X.A.units + 64 < cLine) (h1 : shp x = true) (h2 : shp y = true) (q : Q (.bl (!deq x y)) S) : OD c (compareOp .NotEq) x y S Q :=
  OD.of (op_neD hu) fun H v w m rv rw => by
    unfold shp at h1 h2
    rw [Bool.and_eq_true] at h1 h2
    exact ⟨_, _, rep_dp sub_im x v h1.1 rv, rep_dp sub_im y w h2.1 rw, h1.2, h2.2, pst_same m (rep_bl.mpr rfl) q⟩
theorem od_inD {ds : List D} (hu : c.X.A.units + 65 < cLine) (h1 : shp x = true) (h2 : shp (.fl ds) = true) (q : Q (.bl (ds.any fun z => deq z x)) S) : OD c (compareOp .In) x (.fl ds) S Q :=
  OD.of (op_inD hu) fun H v w m rv rw => by
    unfold shp at h1 h2
    rw [Bool.and_eq_true] at h1 h2
    have e := rep_dp sub_im (.fl ds) w h2.1 rw
    have e2 := h2.2
    unfold toPy at e e2
    refine ⟨_, _, rep_dp sub_im x v h1.1 rv, e, h1.2, e2, pst_same m (rep_bl.mpr ?_) q⟩
    rw [toPys_map, List.any_map] <;> rfl
theorem od_notInD {ds : List D} (hu : c.X.A.units + 65 < cLine) (h1 : shp x = true) (h2 : shp (.fl ds) = true) (q : Q (.bl (!ds.any fun z => deq z x)) S) : OD c (compareOp .NotIn) x (.fl ds) S Q :=
  OD.of (op_notInD hu) fun H v w m rv rw => by
    unfold shp at h1 h2
    rw [Bool.and_eq_true] at h1 h2
    have e := rep_dp sub_im (.fl ds) w h2.1 rw
    have e2 := h2.2
    unfold toPy at e e2
    refine ⟨_, _, rep_dp sub_im x v h1.1 rv, e, h1.2, e2, pst_same m (rep_bl.mpr ?_) q⟩
    rw [toPys_map, List.any_map] <;> rfl
/-- flat things in a list or a tuple -/
def flD : D → Bool
  | .non => true
  | .bl _ => true
  | .int _ => true
  | .str _ => true
  | _ => false
def toV : D → V
  | .non => .non
  | .bl b => .bl b
  | .int i => .int i
  | .str x => .str x
  | .ref a => .ref a
  | .ty n => .ty n
  | _ => .non
theorem fl_rep {K : PySem.W.Frag} {G : Hp} {v : V} (h : flD x = true) (r : Rep K G x v) : v = toV x ∧ flatV v = true := by
  cases x with
  | non => rw [rep_non.mp r]; exact ⟨rfl, rfl⟩
  | bl b => rw [rep_bl.mp r]; exact ⟨rfl, rfl⟩
  | int b => rw [rep_int.mp r]; exact ⟨rfl, rfl⟩
  | str b => rw [rep_str.mp r]; exact ⟨rfl, rfl⟩
  | _ => cases h
theorem fl_reps {K : PySem.W.Frag} {G : Hp} : ∀ {xs : List D} {vs : List V}, xs.all flD = true → Reps K G xs vs → vs = xs.map toV ∧ vs.all flatV = true
  | [], vs, h, r => by unfold Reps at r; subst r; exact ⟨rfl, rfl⟩
  | d :: ds, vs, h, r => by
    unfold Reps at r
    obtain ⟨v, t, rfl, h1, h2⟩ := r
    rw [List.all_cons, Bool.and_eq_true] at h
    obtain ⟨e1, e2⟩ := fl_rep h.1 h1
    obtain ⟨e3, e4⟩ := fl_reps h.2 h2
    refine ⟨by rw [e1, e3] <;> rfl, by rw [List.all_cons, e2, e4] <;> rfl⟩
/-- one of the items of a list or tuple of flat things -/
def inF (x : D) (xs : List D) : Bool := inV (toV x) (xs.map toV)
theorem od_in {xs : List D} (hy : IsL S y xs ∨ y = .tup xs) (hx : flD x = true) (ha : xs.all flD = true) (q : Q (.bl (inF x xs)) S) : OD c (compareOp .In) x y S Q :=
  OD.of op_in_seq fun H v w m rv rw => by
    obtain ⟨e1, e2⟩ := fl_rep hx rv
    rcases hy with hy | rfl
    · obtain ⟨b, ws, rfl, h3, h4⟩ := hy.sq rw m
      obtain ⟨e3, e4⟩ := fl_reps ha h4
      exact ⟨b, ws, rfl, .inl h3, e2, e4, pst_same m (rep_bl.mpr (by rw [e1, e3] <;> rfl)) q⟩
    · obtain ⟨b, ws, rfl, h3, h4⟩ := tup_sq rw
      obtain ⟨e3, e4⟩ := fl_reps ha h4
      exact ⟨b, ws, rfl, .inr h3, e2, e4, pst_same m (rep_bl.mpr (by rw [e1, e3] <;> rfl)) q⟩
theorem od_notIn {xs : List D} (hy : IsL S y xs ∨ y = .tup xs) (hx : flD x = true) (ha : xs.all flD = true) (q : Q (.bl (!inF x xs)) S) : OD c (compareOp .NotIn) x y S Q :=
  OD.of op_notIn_seq fun H v w m rv rw => by
    obtain ⟨e1, e2⟩ := fl_rep hx rv
    rcases hy with hy | rfl
    · obtain ⟨b, ws, rfl, h3, h4⟩ := hy.sq rw m
      obtain ⟨e3, e4⟩ := fl_reps ha h4
      exact ⟨b, ws, rfl, .inl h3, e2, e4, pst_same m (rep_bl.mpr (by rw [e1, e3] <;> rfl)) q⟩
    · obtain ⟨b, ws, rfl, h3, h4⟩ := tup_sq rw
      obtain ⟨e3, e4⟩ := fl_reps ha h4
      exact ⟨b, ws, rfl, .inr h3, e2, e4, pst_same m (rep_bl.mpr (by rw [e1, e3] <;> rfl)) q⟩
end

/-! ### subscripts -/
section
variable {c : Ctx} {e a b : Expr} {es : List Expr} {ρ : DEnv} {S : SS} {Q : D → SS → Prop} {pos : Pos} {nx bk ct : NK} {rt : RK}
theorem ixN_map {n m : Nat} (h : n = m) (i : Int) : ixN n i = ixN m i := by rw [h]
theorem atI_rep {K : PySem.W.Frag} {G : Hp} {xs : List D} {vs : List V} {i : Int} {d : D} (r : Reps K G xs vs) (h : atI xs i = some d) : ∃ v, atI vs i = some v ∧ Rep K G d v := by
  unfold atI at h ⊢
  rw [← r.length]
  cases e : ixN xs.length i with
  | none => rw [e] at h; cases h
  | some j =>
    rw [e] at h
    exact r.get (i := j) h
/-- x[i], a list or a tuple -/
theorem je_ix (h : JE c a ρ S fun x S1 => JE c b ρ S1 fun y S2 => ∃ xs i d, (IsL S2 x xs ∨ x = .tup xs) ∧ y = .int i ∧ atI xs i = some d ∧ Q d S2) (hs : PlainIx b := by exact fun _ _ => rfl) : JE c (.Subscript a b pos) ρ S Q :=
  JE.of (pe_ix (ix_list.or ix_tup) PEt PEt hs) fun σ H ds => h.then ds fun x S1 v H1 r1 d1 s1 h1 => h1.then d1 fun y S2 w H2 r2 d2 s2 ⟨xs, i, d, hx, hy, ha, q⟩ => by
    subst hy
    have r1' := r1.mono s2
    rcases hx with hx | rfl
    · obtain ⟨p, vs, rfl, h3, h4⟩ := hx.sq r1' d2.sim
      obtain ⟨z, hz, rz⟩ := atI_rep h4 ha
      exact .inl ⟨p, vs, i, z, rfl, rep_int.mp r2, h3, hz, d, S2, rz, d2.sim, s1.trans s2, q⟩
    · obtain ⟨p, vs, rfl, h3, h4⟩ := tup_sq r1'
      obtain ⟨z, hz, rz⟩ := atI_rep h4 ha
      exact .inr ⟨p, vs, i, z, rfl, rep_int.mp r2, h3, hz, d, S2, rz, d2.sim, s1.trans s2, q⟩
/-- a slice's part -/
def tPo (X : Cx) (e : Option Expr) : TO := fun σ H R => ∃ t, PO X e t ∧ t σ H R
theorem POt {X : Cx} {e : Option Expr} : PO X e (tPo X e) := ⟨fun pins s σ H Q I ⟨t, h, k⟩ => h.run pins s σ H Q I k⟩
def JO (c : Ctx) (e : Option Expr) (ρ : DEnv) (S : SS) (QO : Option Int → SS → Prop) : Prop := ∀ σ H, Ds c σ H ρ S → ∀ R : Option Int → Hp → Prop, (∀ o S' H', Ds c σ H' ρ S' → Stp H S H' S' → QO o S' → R o H') → tPo c.X e σ H R
theorem jo_none {QO : Option Int → SS → Prop} (q : QO none S) : JO c none ρ S QO := fun σ H ds R k => ⟨_, po_none, k none S H ds Stp.refl q⟩
theorem jo_some {QO : Option Int → SS → Prop} (h : JE c e ρ S fun x S1 => ∃ i, x = .int i ∧ QO (some i) S1) : JO c (some e) ρ S QO := fun σ H ds R k => ⟨_, po_some PEt, h.then ds fun x S1 v H1 r1 d1 s1 ⟨i, e1, q⟩ => by
  subst e1
  exact ⟨i, rep_int.mp r1, k (some i) S1 H1 d1 s1 q⟩⟩
def cutD (xs : List D) (lo hi : Option Int) : List D := (xs.drop (HT.sIx xs.length 0 lo)).take (HT.sIx xs.length xs.length hi - HT.sIx xs.length 0 lo)
theorem cut_rep {K : PySem.W.Frag} {G : Hp} {xs : List D} {vs : List V} {lo hi : Option Int} (r : Reps K G xs vs) : Reps K G (cutD xs lo hi) (cutV vs lo hi) := by
  unfold cutD cutV
  rw [r.length]
  exact (r.drop _).take _
/-- xs[lo:hi] of a list: a new list that never changes -/
theorem je_slice {lo hi : Option Expr} {p2 : Pos} (h : JE c e ρ S fun x S1 => JO c lo ρ S1 fun l S2 => JO c hi ρ S2 fun u S3 => ∃ xs, IsL S3 x xs ∧ Q (.fl (cutD xs l u)) S3) : JE c (.Subscript e (.Slice lo hi none p2) pos) ρ S Q :=
  JE.of (pe_slice sl_list PEt POt POt) fun σ H ds => h.then ds fun x S1 v H1 r1 d1 s1 h1 => h1 σ H1 d1 _ fun l S2 H2 d2 s2 h2 => h2 σ H2 d2 _ fun u S3 H3 d3 s3 ⟨xs, hx, q⟩ => by
    obtain ⟨p, vs, rfl, h3, h4⟩ := hx.sq ((r1.mono s2).mono s3) d3.sim
    refine ⟨p, vs, rfl, h3, fun a ha => ?_⟩
    obtain ⟨st, sm, e⟩ := d3.sim.new (o := .lst (cutV vs l u)) ha
    exact ⟨_, S3, rep_fl.mpr ⟨a, _, rfl, SqL.of e, (cut_rep h4).mono st⟩, sm, ((s1.trans s2).trans s3).trans st, q⟩
/-- xs[::-1] of a list -/
theorem je_rev {k : Nat} {p1 p2 p3 : Pos} (h : JE c e ρ S fun x S1 => ∃ xs, IsL S1 x xs ∧ Q (.fl xs.reverse) S1) : JE c (.Subscript e (.Slice none none (some (.UnaryOp .USub (.Constant (.int 1) k p1) p2)) p3) pos) ρ S Q :=
  JE.of (pe_revL PEt) fun σ H ds => h.then ds fun x S1 v H1 r1 d1 s1 ⟨xs, hx, q⟩ => by
    obtain ⟨p, vs, rfl, h3, h4⟩ := hx.sq r1 d1.sim
    refine ⟨p, vs, rfl, h3, fun a ha => ?_⟩
    obtain ⟨st, sm, e⟩ := d1.sim.new (o := .lst vs.reverse) ha
    exact ⟨_, S1, rep_fl.mpr ⟨a, _, rfl, SqL.of e, h4.reverse.mono st⟩, sm, s1.trans st, q⟩
/-- xs[i] = .. -/
theorem jg_ixL {o i : Expr} {y : D} (h : JE c o ρ S fun x S1 => JE c i ρ S1 fun k S2 => ∃ l xs n j, x = .ref l ∧ S2 l = some (.lst xs) ∧ k = .int n ∧ ixN xs.length n = some j ∧ nx ρ (sup S2 l (.lst (xs.set j y))))
    (ha : ∀ v, assign (.Subscript o i pos) c.X.env v = (do
      let ov ← holding [v] (eval o c.X.env)
      let iv ← holding [v, ov] (eval i c.X.env)
      standAt pos
      holding [v, ov, iv] (setItem ov iv v)
      release [v, ov, iv] []) := by intro _; rfl) : JG c (.Subscript o i pos) y ρ S nx :=
  JG.of (pg_sub PEt PEt set_list ha) fun σ H v ds r => h.then ds fun x S1 u H1 r1 d1 s1 h1 => h1.then d1 fun k S2 w H2 r2 d2 s2 ⟨l, xs, n, j, e1, e2, e3, e4, q⟩ => by
    subst e1 e3
    obtain ⟨vs, hv, rv⟩ := d2.sim l _ e2
    obtain ⟨st, sm⟩ := d2.sim.write (o := .lst (vs.set j v)) (m := .lst (xs.set j y)) e2 fun H' S' sb e => ⟨_, e, (rv.mono sb).set j (((r.mono s1).mono s2).mono sb)⟩
    exact ⟨l, vs, n, j, rep_ref.mp r1, rep_int.mp r2, hv, by rw [← rv.length]; exact e4, ρ, _, (d2.sl.step st), sm, (s1.trans s2).trans st, q⟩
/-- a, b, .. = a tuple -/
def JGs (c : Ctx) (es : List Expr) (ds : List D) (ρ : DEnv) (S : SS) (nx : NK) : Prop := ∀ σ H vs, Ds c σ H ρ S → Reps c.X.K (im H S) ds vs → ∃ t, PGs c.X es t ∧ t vs σ H (pstN c.X.K H S nx)
def tGs (X : Cx) (es : List Expr) : TGs := fun vs σ H R => ∃ t, PGs X es t ∧ t vs σ H R
theorem PGst {X : Cx} {es : List Expr} : PGs X es (tGs X es) := ⟨fun pins s σ H vs us Q I r ⟨t, h, k⟩ => h.run pins s σ H vs us Q I r k⟩
theorem jgs_nil (q : nx ρ S) : JGs c [] [] ρ S nx := fun σ H vs ds r => ⟨_, pgs_nil, by unfold Reps at r; exact r, ρ, S, ds.sl, ds.sim, Stp.refl, q⟩
theorem tGs_use {X : Cx} {es : List Expr} {vs : List V} {σ : L2.St} {H : Hp} {R R' : L2.St → Hp → Prop} (h : tGs X es vs σ H R) (k : ∀ σ' H', R σ' H' → R' σ' H') : ∃ t, PGs X es t ∧ t vs σ H R' :=
  ⟨fun vs σ H R' => ∃ R, tGs X es vs σ H R ∧ ∀ σ' H', R σ' H' → R' σ' H', ⟨fun pins s σ H vs us Q I r ⟨R, h, k⟩ => thn (PGst.run pins s σ H vs us R I r h) fun _ s' ⟨σ', H', I', q⟩ => ⟨σ', H', I', k _ _ q⟩⟩, R, h, k⟩
theorem jgs_cons {tg : Expr} {d : D} {ds : List D} (h : JG c tg d ρ S fun ρ1 S1 => JGs c es ds ρ1 S1 nx) (hs : (assignEach (tg :: es) c.X.env).map (·.2) = assign tg c.X.env :: (assignEach es c.X.env).map (·.2) := by rfl) : JGs c (tg :: es) (d :: ds) ρ S nx := fun σ H vs dst r => by
  unfold Reps at r
  obtain ⟨v, t, rfl, r1, r2⟩ := r
  refine ⟨_, pgs_cons PGt (⟨fun pins s σ H vs us Q I r ⟨R, h, k⟩ => thn (PGst.run pins s σ H vs us R I r h) fun _ s' ⟨σ', H', I', q⟩ => ⟨σ', H', I', k _ _ q⟩⟩ : PGs c.X es (fun vs σ H R' => ∃ R, tGs c.X es vs σ H R ∧ ∀ σ' H', R σ' H' → R' σ' H')) hs, v, t, rfl, ?_⟩
  refine tGt_mono (h σ H v dst r1) fun σ' H' ⟨ρ1, S1, sl, sm, s1, q⟩ => ?_
  exact ⟨_, q σ' H' t ((dst.step sm s1).slots sl) (r2.mono s1), fun σ2 H2 q2 => pstN_step s1 q2⟩
theorem jg_tup {ds : List D} {k : Nat} (h : JGs c es ds ρ S nx) (hl : ds.length = es.length) (hc : c.X.calm = true := by rfl) (hn : (assignEach es c.X.env).length = es.length := by rfl) (hst : (assignEach es c.X.env).findIdx? (·.1) = none := by rfl) : JG c (.Tuple es k pos) (.tup ds) ρ S nx :=
  JG.of (pg_tup hc PGst hn hst) fun σ H v dst r => by
    obtain ⟨a, vs, rfl, h1, h2⟩ := tup_sq r
    exact ⟨a, vs, rfl, h1, by rw [← h2.length, hl], h σ H vs dst h2⟩
/-- name op= e -/
theorem js_aug (i : Nat) {x : Str} {d : D} {op : Operator} {pos' : Pos} (hd : ρ[i]? = some (some d)) (h : JE c e ρ S fun y S1 => OD c (inplaceOp op) d y S1 fun z S2 => nx (ρ.set i (some z)) S2) (hN : c.X.N.Nodup) (hi : c.X.N[i]? = some x) (hx : Loc c.X.env.scope x) (hf : c.X.fn x = true ∨ c.X.env.scope.names.lookup x = some .local) : JS c (.AugAssign (.Name x pos') op e pos) ρ S nx rt bk ct :=
  JS.of (ps_aug (ti := fun x y H R => tO c.X (inplaceOp op) x y H R) hN hi hx PEt (fun pins s σ H x y v u Q I rx ry h => h pins s σ v u I rx ry) hf) fun σ H ds => by
    obtain ⟨v, e1, e2⟩ := ds.sl.at_ i d hd
    refine ⟨v, e1, h.then ds fun y S1 w H1 r1 d1 s1 q => ?_⟩
    exact tO_mono (q H1 v w d1.sim (e2.mono s1) r1) fun z H2 ⟨zd, S2, rz, m2, s2, q2⟩ => ⟨_, S2, (d1.sl.step s2).set rz, m2, s1.trans s2, q2⟩
theorem od_iadd {i j : Int} (q : Q (.int (i + j)) S) : OD c (inplaceOp .Add) (.int i) (.int j) S Q := od_i0 iop_add (fun _ _ => rep_int.mpr rfl) q
theorem od_isub {i j : Int} (q : Q (.int (i - j)) S) : OD c (inplaceOp .Sub) (.int i) (.int j) S Q := od_i0 iop_sub (fun _ _ => rep_int.mpr rfl) q
end
end DP

namespace DP
open PySem L2

/-! ### walks -/
/-- J gives the items ds, one a turn, while Cnd holds of the store -/
def ItOk (K : PySem.W.Frag) (J : It) (ds : List D) (Cnd : SS → Prop) (H0 : Hp) (S0 : SS) : Prop := ∀ H S, Sim K H S → Stp H0 S0 H S → Cnd S → ∀ i : Nat,
  (∀ d, ds[i]? = some d → J.go i H ∧ ∀ x H', J.yld i H x H' → Rep K (im H' S) d x ∧ Sim K H' S ∧ Stp H S H' S) ∧ (ds.length ≤ i → i = ds.length → J.stop i H)
def JI (c : Ctx) (tg iter : Expr) (ρ : DEnv) (S : SS) (R : List D → (SS → Prop) → SS → Prop) : Prop := ∀ σ H, Ds c σ H ρ S →
  tIt c.X tg iter σ H fun J H1 => ∃ ds Cnd S1, Sim c.X.K H1 S1 ∧ Stp H S H1 S1 ∧ ItOk c.X.K J ds Cnd H1 S1 ∧ R ds Cnd S1
section
variable {c : Ctx} {tg iter e a b : Expr} {es : List Expr} {body : List Stmt} {ρ : DEnv} {S : SS} {R : List D → (SS → Prop) → SS → Prop} {nx bk ct : NK} {rt : RK} {Q : D → SS → Prop} {pos : Pos}
theorem JI.of {t : TI} (h : PI c.X tg iter t) (k : ∀ σ H, Ds c σ H ρ S → t σ H fun J H1 => ∃ ds Cnd S1, Sim c.X.K H1 S1 ∧ Stp H S H1 S1 ∧ ItOk c.X.K J ds Cnd H1 S1 ∧ R ds Cnd S1) : JI c tg iter ρ S R := fun σ H ds pins s I => h.run pins s σ H _ I (k σ H ds)
theorem sq_back {K : PySem.W.Frag} {H0 H : Hp} {S0 S' : SS} {x : D} {v : V} {xs : List D} (hx : x = .fl xs) (r : Rep K (im H0 S0) x v) (st : Stp H0 S0 H S') : ∃ a vs, v = .ref a ∧ SqL K H a vs ∧ Reps K (im H S') xs vs := by
  subst hx
  obtain ⟨a, vs, rfl, h1, h2⟩ := rep_fl.mp r
  exact ⟨a, vs, rfl, sub_im.l (Sub.l st h1), h2.mono st⟩
/-- over a list: one that never changes -/
theorem ji_fl (h : JE c iter ρ S fun x S1 => ∃ xs, x = .fl xs ∧ R xs (fun _ => True) S1) : JI c tg iter ρ S R :=
  JI.of (pi_list PEt) fun σ H ds => h.then ds fun x S1 v H1 r1 d1 s1 ⟨xs, hx, q⟩ => by
    subst hx
    obtain ⟨a, vs, rfl, h1, h2⟩ := rep_fl.mp r1
    refine ⟨a, rfl, ⟨vs, sub_im.l h1⟩, xs, _, S1, d1.sim, s1, fun H2 S2 m2 st _ i => ⟨fun d hd => ?_, fun _ hl => ?_⟩, q⟩
    · have hs : SqL c.X.K H2 a vs := sub_im.l (Sub.l st h1)
      obtain ⟨z, hz, rz⟩ := h2.get hd
      refine ⟨⟨vs, z, hs, hz⟩, fun x H' y => ?_⟩
      obtain ⟨e, y⟩ := y
      subst e
      have := y vs hs
      rw [hz] at this; cases this
      exact ⟨rz.mono st, m2, Stp.refl⟩
    · exact ⟨vs, sub_im.l (Sub.l st h1), by rw [← h2.length]; omega⟩
/-- over a list of the store that stands still -/
theorem ji_lst (h : JE c iter ρ S fun x S1 => ∃ l xs, x = .ref l ∧ S1 l = some (.lst xs) ∧ R xs (fun S' => S' l = some (.lst xs)) S1) : JI c tg iter ρ S R :=
  JI.of (pi_list PEt) fun σ H ds => h.then ds fun x S1 v H1 r1 d1 s1 ⟨l, xs, hx, hl, q⟩ => by
    subst hx
    obtain ⟨vs, h1, h2⟩ := d1.sim l _ hl
    refine ⟨l, rep_ref.mp r1, ⟨vs, SqL.of h1⟩, xs, _, S1, d1.sim, s1, fun H2 S2 m2 st cn i => ?_, q⟩
    obtain ⟨ws, h3, h4⟩ := m2 l _ cn
    refine ⟨fun d hd => ?_, fun _ hl => ⟨ws, SqL.of h3, by rw [← h4.length]; omega⟩⟩
    obtain ⟨z, hz, rz⟩ := h4.get hd
    refine ⟨⟨ws, z, SqL.of h3, hz⟩, fun x H' y => ?_⟩
    obtain ⟨e, y⟩ := y
    subst e
    have := y ws (SqL.of h3)
    rw [hz] at this; cases this
    exact ⟨rz, m2, Stp.refl⟩
/-- over a tuple -/
theorem ji_tup (h : JE c iter ρ S fun x S1 => ∃ xs, x = .tup xs ∧ R xs (fun _ => True) S1) : JI c tg iter ρ S R :=
  JI.of (pi_tup PEt) fun σ H ds => h.then ds fun x S1 v H1 r1 d1 s1 ⟨xs, hx, q⟩ => by
    subst hx
    obtain ⟨a, vs, rfl, h1, h2⟩ := rep_tup.mp r1
    refine ⟨a, rfl, ⟨vs, sub_im.t h1⟩, xs, _, S1, d1.sim, s1, fun H2 S2 m2 st _ i => ⟨fun d hd => ?_, fun _ hl => ?_⟩, q⟩
    · have hs : SqT c.X.K H2 a vs := sub_im.t (Sub.t st h1)
      obtain ⟨z, hz, rz⟩ := h2.get hd
      refine ⟨⟨vs, z, hs, hz⟩, fun x H' y => ?_⟩
      obtain ⟨e, y⟩ := y
      subst e
      have := y vs hs
      rw [hz] at this; cases this
      exact ⟨rz.mono st, m2, Stp.refl⟩
    · exact ⟨vs, sub_im.t (Sub.t st h1), by rw [← h2.length]; omega⟩
def irng (lo : Int) (n : Nat) : List D := (List.range n).map fun (k : Nat) => D.int (lo + (k : Int))
theorem irng_len {lo : Int} {n : Nat} : (irng lo n).length = n := by unfold irng; rw [List.length_map, List.length_range]
theorem irng_get {lo : Int} {n i : Nat} {d : D} (h : (irng lo n)[i]? = some d) : i < n ∧ d = .int (lo + (i : Int)) := by
  unfold irng at h
  rw [List.getElem?_map] at h
  by_cases hi : i < n
  · rw [List.getElem?_range hi] at h
    simp at h
    exact ⟨hi, h.symm⟩
  · rw [List.getElem?_eq_none (by simpa using hi)] at h
    simp at h
theorem itr_ok {K : PySem.W.Frag} {lo : Int} {n : Nat} {H0 : Hp} {S0 : SS} : ItOk K (Itr lo n) (irng lo n) (fun _ => True) H0 S0 := fun H S m st _ i => ⟨fun d hd => by
    obtain ⟨h1, h2⟩ := irng_get hd
    subst h2
    refine ⟨h1, fun x H' y => ?_⟩
    obtain ⟨e1, e2⟩ := y
    subst e1 e2
    exact ⟨rep_int.mpr rfl, m, Stp.refl⟩, fun h _ => by rw [irng_len] at h; exact h⟩
theorem ji_range1 {p : Pos} (hm : c.X.mg "range" = none) (h : JE c a ρ S fun x S1 => ∃ n, x = .int n ∧ -(2 ^ 62) ≤ n ∧ n < 2 ^ 62 ∧ R (irng 0 n.toNat) (fun _ => True) S1) (hg : Gl c.X "range" := by rfl) (hs : starEach [a] c.X.env = [(false, eval a c.X.env)] := by rfl) : JI c tg (.Call (.Name "range" p) [a] [] pos) ρ S R :=
  JI.of (pi_range1 hg hm (pa_cons PEt pa_nil hs) hs) fun σ H ds => h.then ds fun x S1 v H1 r1 d1 s1 ⟨n, hx, h1, h2, q⟩ => by
    subst hx
    exact ⟨n, by rw [rep_int.mp r1], h1, h2, _, _, S1, d1.sim, s1, itr_ok, q⟩
theorem ji_range2 {p : Pos} (hm : c.X.mg "range" = none) (h : JE c a ρ S fun x S1 => JE c b ρ S1 fun y S2 => ∃ i j, x = .int i ∧ y = .int j ∧ (-(2 ^ 62) ≤ i ∧ i < 2 ^ 62 ∧ -(2 ^ 62) ≤ j ∧ j < 2 ^ 62) ∧ R (irng i (j - i).toNat) (fun _ => True) S2) (hg : Gl c.X "range" := by rfl)
    (hs1 : starEach [a, b] c.X.env = (false, eval a c.X.env) :: starEach [b] c.X.env := by rfl) (hs2 : starEach [b] c.X.env = (false, eval b c.X.env) :: starEach [] c.X.env := by rfl) (hs2' : starEach [b] c.X.env = [(false, eval b c.X.env)] := by rfl) (hs : starEach [a, b] c.X.env = [(false, eval a c.X.env), (false, eval b c.X.env)] := by rfl) (hs3 : (backTo pos (starEach [b] c.X.env)).any (·.1) = false := by rfl) : JI c tg (.Call (.Name "range" p) [a, b] [] pos) ρ S R :=
  JI.of (pi_range2 hg hm (pa_cons PEt (pa_cons PEt pa_nil hs2) hs1) hs hs2') fun σ H ds => h.then ds fun x S1 v H1 r1 d1 s1 h1 => h1.then d1 fun y S2 w H2 r2 d2 s2 ⟨i, j, e1, e2, h3, q⟩ => by
    subst e1 e2
    exact ⟨i, j, by rw [rep_int.mp r1, rep_int.mp r2], h3, _, _, S2, d2.sim, s1.trans s2, itr_ok, q⟩
/-- pairs, each a new tuple -/
theorem pair_ok {K : PySem.W.Frag} {H H' : Hp} {S' : SS} {T : Addr} {x y : V} {d d' : D} (m : Sim K H S') (hT : H T = none) (e : H' = upd H T (.tup [x, y])) (r : Rep K (im H S') d x) (r' : Rep K (im H S') d' y) : Rep K (im H' S') (.tup [d, d']) (.ref T) ∧ Sim K H' S' ∧ Stp H S' H' S' := by
  subst e
  obtain ⟨st, sm, e⟩ := m.new (o := .tup [x, y]) hT
  exact ⟨rep_tup.mpr ⟨T, _, rfl, SqT.of e, Reps.cons (r.mono st) (Reps.cons (r'.mono st) Reps.nil)⟩, sm, st⟩
def enums (xs : List D) : List D := xs.mapIdx fun i d => .tup [.int (i : Nat), d]
theorem ji_enum {elts : List Expr} {kk : Nat} {tpos p : Pos} (hm : c.X.mg "enumerate" = none) (h : JE c a ρ S fun x S1 => ∃ xs, x = .fl xs ∧ R (enums xs) (fun _ => True) S1) (hg : Gl c.X "enumerate" := by rfl) (hs : starEach [a] c.X.env = [(false, eval a c.X.env)] := by rfl) : JI c (.Tuple elts kk tpos) (.Call (.Name "enumerate" p) [a] [] pos) ρ S R :=
  JI.of (pi_enum hg hm (pa_cons PEt pa_nil hs) hs) fun σ H ds => h.then ds fun x S1 v H1 r1 d1 s1 ⟨xs, hx, q⟩ => by
    subst hx
    obtain ⟨a, vs, rfl, h1, h2⟩ := rep_fl.mp r1
    refine ⟨a, vs, rfl, sub_im.l h1, _, _, S1, d1.sim, s1, fun H2 S2 m2 st _ i => ⟨fun d hd => ?_, fun hle hl => ?_⟩, q⟩
    · have hs : SqL c.X.K H2 a vs := sub_im.l (Sub.l st h1)
      unfold enums at hd
      rw [List.getElem?_mapIdx] at hd
      cases e0 : xs[i]? with
      | none => rw [e0] at hd; cases hd
      | some d0 =>
        rw [e0] at hd
        cases hd
        obtain ⟨z, hz, rz⟩ := h2.get e0
        refine ⟨⟨vs, z, hs, hz⟩, fun x H' y => ?_⟩
        obtain ⟨T, x0, e1, e2, e3, e4⟩ := y
        have := e4 vs hs
        rw [hz] at this; cases this
        rw [e1]
        exact pair_ok m2 e2 e3 (rep_int.mpr rfl) (rz.mono st)
    · refine ⟨vs, sub_im.l (Sub.l st h1), ?_⟩
      unfold enums at hle
      rw [List.length_mapIdx] at hle
      rw [← h2.length]; exact hle
def zips : List D → List D → List D
  | x :: xs, y :: ys => .tup [x, y] :: zips xs ys
  | _, _ => []
theorem zips_len : ∀ {xs ys : List D}, (zips xs ys).length = min xs.length ys.length
  | [], _ => by simp [zips]
  | _ :: _, [] => by simp [zips]
  | x :: xs, y :: ys => by simp only [zips, List.length_cons, zips_len (xs := xs) (ys := ys)]; omega
theorem zips_get : ∀ {xs ys : List D} {i : Nat} {d : D}, (zips xs ys)[i]? = some d → ∃ x y, xs[i]? = some x ∧ ys[i]? = some y ∧ d = .tup [x, y]
  | [], _, i, d, h => by simp [zips] at h
  | _ :: _, [], i, d, h => by simp [zips] at h
  | x :: xs, y :: ys, 0, d, h => by simp [zips] at h; exact ⟨x, y, rfl, rfl, h.symm⟩
  | x :: xs, y :: ys, i + 1, d, h => by
    obtain ⟨x', y', h1, h2, h3⟩ := zips_get (i := i) (by simpa [zips] using h)
    exact ⟨x', y', by simpa using h1, by simpa using h2, h3⟩
theorem ji_zip {elts : List Expr} {kk : Nat} {tpos p : Pos} (hm : c.X.mg "zip" = none) (h : JE c a ρ S fun x S1 => JE c b ρ S1 fun y S2 => ∃ xs ys, x = .fl xs ∧ y = .fl ys ∧ R (zips xs ys) (fun _ => True) S2) (hg : Gl c.X "zip" := by rfl)
    (hs1 : starEach [a, b] c.X.env = (false, eval a c.X.env) :: starEach [b] c.X.env := by rfl) (hs2 : starEach [b] c.X.env = (false, eval b c.X.env) :: starEach [] c.X.env := by rfl) (hpl : (backTo pos (starEach [b] c.X.env)).any (·.1) = false := by rfl) : JI c (.Tuple elts kk tpos) (.Call (.Name "zip" p) [a, b] [] pos) ρ S R :=
  JI.of (pi_zip hg hm (pa_cons PEt (pa_cons PEt pa_nil hs2) hs1) hs1 hpl) fun σ H ds => h.then ds fun x S1 v H1 r1 d1 s1 h1 => h1.then d1 fun y S2 w H2 r2 d2 s2 ⟨xs, ys, e1, e2, q⟩ => by
    subst e1 e2
    obtain ⟨a, vs, rfl, h1, h2⟩ := rep_fl.mp (r1.mono s2)
    obtain ⟨b, ws, rfl, h3, h4⟩ := rep_fl.mp r2
    refine ⟨a, b, vs, ws, rfl, sub_im.l h1, sub_im.l h3, _, _, S2, d2.sim, s1.trans s2, fun H3 S3 m3 st _ i => ⟨fun d hd => ?_, fun hle hl => ?_⟩, q⟩
    · have hs : SqL c.X.K H3 a vs := sub_im.l (Sub.l st h1)
      have hs' : SqL c.X.K H3 b ws := sub_im.l (Sub.l st h3)
      obtain ⟨x0, y0, e1, e2, e3⟩ := zips_get hd
      subst e3
      obtain ⟨z, hz, rz⟩ := h2.get e1
      obtain ⟨z', hz', rz'⟩ := h4.get e2
      refine ⟨⟨vs, ws, z, z', hs, hs', hz, hz'⟩, fun x H' y => ?_⟩
      obtain ⟨T, u, u', q1, q2, q3, q4, q5⟩ := y
      have t1 := q4 vs hs
      rw [hz] at t1; cases t1
      have t2 := q5 ws hs'
      rw [hz'] at t2; cases t2
      rw [q1]
      exact pair_ok m3 q2 q3 (rz.mono st) (rz'.mono st)
    · refine ⟨vs, ws, sub_im.l (Sub.l st h1), sub_im.l (Sub.l st h3), ?_⟩
      rw [zips_len, h2.length, h4.length] at hle
      omega

/-! ### for -/
/-- the loop: an invariant by the turn -/
def ForD (c : Ctx) (tg : Expr) (body : List Stmt) (nx : NK) (rt : RK) (ρ : DEnv) (ds : List D) (Cnd : SS → Prop) (S : SS) : Prop := ∃ Iv : Nat → DEnv → SS → Prop, Iv 0 ρ S ∧ (∀ i ρ' S', Iv i ρ' S' → Cnd S') ∧
  (∀ i d ρ' S', ds[i]? = some d → Iv i ρ' S' → JG c tg d ρ' S' fun ρ2 S2 => JSs c body ρ2 S2 (Iv (i + 1)) rt nx (Iv (i + 1))) ∧ (∀ ρ' S', Iv ds.length ρ' S' → nx ρ' S')
theorem js_for (h : JI c tg iter ρ S (ForD c tg body nx rt ρ)) (po : PassesOwn (model c.X.prog c.X.w) c.X.A c.X.env c.X.xe) (hc : c.X.calm = true := by rfl) (hs : ∀ x, foldedSetIterable iter c.X.env x = pure x := by intro _; rfl) : JS c (.For tg iter body [] pos) ρ S nx rt bk ct :=
  JS.of (ps_for po hc PIt PGt PSst hs) fun σ H dst pins s I => by
    refine thn (h σ H dst pins s I) fun v s1 h1 => thn h1 fun itv s2 hp => ?_
    obtain ⟨it, fp, tn, J, H1, e, I2, T, st2, f2, ds, Cnd, S1, m1, s1', ok, Iv, i0, icn, turn, fin⟩ := hp
    refine ⟨it, fp, tn, J, H1, e, I2, T, st2, f2, fun i m σ' H' => m = ds.length - i ∧ i ≤ ds.length ∧ ∃ ρ' S', Ds c σ' H' ρ' S' ∧ Stp H1 S1 H' S' ∧ Iv i ρ' S', ⟨ds.length, by simp, Nat.zero_le _, ρ, S1, dst.step m1 s1', Stp.refl, i0⟩, ?_⟩
    rintro i m σ3 H3 ⟨rfl, hi, ρ3, S3, d3, s3, v3⟩
    have ok3 := ok H3 S3 d3.sim s3 (icn i ρ3 S3 v3) i
    by_cases hlt : i < ds.length
    · obtain ⟨go, yld⟩ := ok3.1 _ (List.getElem?_eq_getElem hlt)
      refine .inr ⟨go, fun σ' H' => i + 1 ≤ ds.length ∧ ∃ ρ' S', Ds c σ' H' ρ' S' ∧ Stp H1 S1 H' S' ∧ Iv (i + 1) ρ' S', fun σ' H' ⟨q1, q2⟩ => ⟨ds.length - (i + 1), by omega, rfl, q1, q2⟩, fun x H4 y => ?_⟩
      obtain ⟨r4, m4, s4⟩ := yld x H4 y
      refine tGt_mono (turn i _ ρ3 S3 (List.getElem?_eq_getElem hlt) v3 σ3 H4 x (d3.step m4 s4) r4) fun σ5 H5 ⟨ρ5, S5, sl5, m5, s5, q5⟩ => ?_
      have d5 : Ds c σ5 H5 ρ5 S5 := ((d3.step m4 s4).step m5 s5).slots sl5
      have st5 : Stp H1 S1 H5 S5 := (s3.trans s4).trans s5
      refine tSs_mono (q5 σ5 H5 d5) ⟨fun σ6 H6 ⟨ρ6, S6, sl6, m6, s6, q6⟩ => ⟨hlt, ρ6, S6, (d5.step m6 s6).slots sl6, st5.trans s6, q6⟩, fun v H6 q6 => pst_step (s1'.trans st5) q6, fun σ6 H6 q6 => pstN_step (s1'.trans st5) q6,
        fun σ6 H6 ⟨ρ6, S6, sl6, m6, s6, q6⟩ => ⟨hlt, ρ6, S6, (d5.step m6 s6).slots sl6, st5.trans s6, q6⟩⟩
    · have e : i = ds.length := by omega
      refine .inl ⟨ok3.2 (by omega) e, ?_⟩
      subst e
      exact ⟨ρ3, S3, d3.sl, d3.sim, s1'.trans s3, fin ρ3 S3 v3⟩
/-- the invariant over what is left to do -/
theorem ForD.todo {tg : Expr} {ds : List D} {Cnd : SS → Prop} (Iv : List D → DEnv → SS → Prop) (h0 : Iv ds ρ S) (hc : ∀ r ρ' S', Iv r ρ' S' → Cnd S')
    (hs : ∀ d r ρ' S', Iv (d :: r) ρ' S' → JG c tg d ρ' S' fun ρ2 S2 => JSs c body ρ2 S2 (Iv r) rt nx (Iv r)) (hd : ∀ ρ' S', Iv [] ρ' S' → nx ρ' S') : ForD c tg body nx rt ρ ds Cnd S := by
  refine ⟨fun i => Iv (ds.drop i), h0, fun i ρ' S' q => hc _ ρ' S' q, fun i d ρ' S' hd' q => ?_, fun ρ' S' q => hd ρ' S' (by have q' : Iv (ds.drop ds.length) ρ' S' := q; rw [List.drop_length] at q'; exact q')⟩
  obtain ⟨hi, e⟩ := List.getElem?_eq_some_iff.mp hd'
  have e1 : ds.drop i = d :: ds.drop (i + 1) := by rw [← e]; exact List.drop_eq_getElem_cons hi
  have q' : Iv (ds.drop i) ρ' S' := q
  rw [e1] at q'
  exact hs d _ ρ' S' q'
/-- while: an invariant with a number that falls -/
theorem js_while (Iv : Nat → DEnv → SS → Prop) (n0 : Nat) (h0 : Iv n0 ρ S)
    (hs : ∀ n ρ' S', Iv n ρ' S' → JT c e ρ' S' fun k S1 => if k = true then JSs c body ρ' S1 (fun ρ2 S2 => ∃ m, m < n ∧ Iv m ρ2 S2) rt nx (fun ρ2 S2 => ∃ m, m < n ∧ Iv m ρ2 S2) else nx ρ' S1)
    (po : PassesOwn (model c.X.prog c.X.w) c.X.A c.X.env c.X.xe) : JS c (.While e body [] pos) ρ S nx rt bk ct :=
  JS.of (ps_while po PTt PSst) fun σ H dst => by
    refine ⟨fun m σ' H' => ∃ ρ' S', Ds c σ' H' ρ' S' ∧ Stp H S H' S' ∧ Iv m ρ' S', ⟨n0, ρ, S, dst, Stp.refl, h0⟩, ?_⟩
    rintro m σ3 H3 ⟨ρ3, S3, d3, s3, v3⟩
    refine (hs m ρ3 S3 v3).then d3 fun k S4 H4 d4 s4 q => ?_
    cases k with
    | true =>
      rw [if_pos rfl] at q ⊢
      refine ⟨fun σ' H' => ∃ ρ' S', Ds c σ' H' ρ' S' ∧ Stp H S H' S' ∧ ∃ m', m' < m ∧ Iv m' ρ' S', fun σ' H' ⟨ρ', S', d', s', m', hm, v'⟩ => ⟨m', hm, ρ', S', d', s', v'⟩, ?_⟩
      exact tSs_mono (q σ3 H4 d4) ⟨fun σ6 H6 ⟨ρ6, S6, sl6, m6, s6, q6⟩ => ⟨ρ6, S6, (d4.step m6 s6).slots sl6, (s3.trans s4).trans s6, q6⟩, fun v H6 q6 => pst_step (s3.trans s4) q6, fun σ6 H6 q6 => pstN_step (s3.trans s4) q6,
        fun σ6 H6 ⟨ρ6, S6, sl6, m6, s6, q6⟩ => ⟨ρ6, S6, (d4.step m6 s6).slots sl6, (s3.trans s4).trans s6, q6⟩⟩
    | false =>
      rw [if_neg Bool.false_ne_true] at q ⊢
      exact ⟨ρ3, S4, d4.sl, d4.sim, s3.trans s4, q⟩

/-! ### list comprehensions -/
def blkC (c : Ctx) (s : Shared) (H : Hp) (scope : Scope) (C : Addr) (cl : List (Str × Addr)) (fp : List Addr) : Ctx where
  X := c.X.blk s H scope (compEnvC scope cl C c.X.env) fp
  W := fun _ _ _ _ => False
  tk := takes0
  DX := fun _ _ _ _ => False
def wipeD (ρ : DEnv) : List Nat → DEnv
  | [] => ρ
  | v :: vs => (wipeD ρ vs).set v none
theorem Sl.wipes {K : PySem.W.Frag} {H : Hp} {σ : L2.St} (h : Sl K H S σ ρ) : ∀ vs : List Nat, Sl K H S (L2.wipe σ vs) (wipeD ρ vs)
  | [] => h
  | v :: vs => (h.wipes vs).wipe v
/-- the tests of a comprehension -/
def JTs (c : Ctx) (ifs : List Expr) (ρ : DEnv) (S : SS) (QT : Bool → SS → Prop) : Prop := match ifs with
  | [] => QT true S
  | [t] => JT c t ρ S QT
  | _ => False
def tTs (X : Cx) (ifs : List Expr) : TT := fun σ H R => match ifs with
  | [] => R true H
  | [t] => tT X t σ H R
  | _ => False
theorem PTst {X : Cx} {ifs : List Expr} : PTs X ifs (tTs X ifs) := by
  match ifs with
  | [] => exact pts_nil
  | [t] => exact pts_one PTt
  | _ :: _ :: _ => exact ⟨fun pins s σ H Q I h => False.elim h⟩
theorem JTs.then {ifs : List Expr} {QT : Bool → SS → Prop} {σ : L2.St} {H : Hp} {R : Bool → Hp → Prop} (h : JTs c ifs ρ S QT) (ds : Ds c σ H ρ S) (k : ∀ b S' H', Ds c σ H' ρ S' → Stp H S H' S' → QT b S' → R b H') : tTs c.X ifs σ H R := by
  match ifs, h with
  | [], h => exact k true S H ds Stp.refl h
  | [t], h => exact JT.then h ds k
end
/-- a target: a name, or a tuple of names -/
inductive Pat where
  | n (i : Nat) | t (is : List Nat)
def gNs : List Nat → TGs
  | [] => gNil
  | i :: is => gCons (gName i) (gNs is)
def gPat (K : PySem.W.Frag) : Pat → TG
  | .n i => gName i
  | .t is => gTup K is.length (gNs is)
def Pat.slots : Pat → List Nat
  | .n i => [i]
  | .t is => is
def setN (ρ : DEnv) : List Nat → List D → DEnv
  | i :: is, d :: ds => setN (ρ.set i (some d)) is ds
  | _, _ => ρ
def bindP : Pat → D → DEnv → Option DEnv
  | .n i, d, ρ => some (ρ.set i (some d))
  | .t is, .tup ds, ρ => if ds.length = is.length then some (setN ρ is ds) else none
  | _, _, _ => none
theorem set_none_comm {σ : L2.St} {i j : Nat} {x : Option V} (h : j ≠ i) : (σ.set i x).set j none = (σ.set j none).set i x := List.set_comm x none (fun e => h e.symm)
theorem wipe_set {σ : L2.St} {i : Nat} {x : Option V} : ∀ {vs : List Nat}, i ∈ vs → wipe (σ.set i x) vs = wipe σ vs
  | [], h => absurd h (by simp)
  | v :: vs, h => by
    unfold wipe
    by_cases hv : v = i
    · subst hv
      by_cases hm : v ∈ vs
      · rw [wipe_set hm]
      · have key : ∀ us : List Nat, v ∉ us → wipe (σ.set v x) us = (wipe σ us).set v x := fun us => by
          induction us with
          | nil => intro _; rfl
          | cons u us ih =>
            intro hu
            unfold wipe
            rw [ih fun z => hu (List.mem_cons_of_mem _ z), set_none_comm fun z => hu (by rw [z]; exact List.mem_cons_self)]
        rw [key vs hm, List.set_set]
    · have hm : i ∈ vs := by
        rcases List.mem_cons.mp h with e | e
        · exact absurd e.symm hv
        · exact e
      rw [wipe_set hm]
theorem gNs_ok {K : PySem.W.Frag} {H : Hp} {S : SS} {ws : List Nat} {R : L2.St → Hp → Prop} : ∀ {is : List Nat} {ds : List D} {vs : List V} {σ : L2.St} {ρ : DEnv}, Sl K H S σ ρ → Reps K (im H S) ds vs → ds.length = is.length → (∀ i ∈ is, i ∈ ws) →
    (∀ σ2, Sl K H S σ2 (setN ρ is ds) → wipe σ2 ws = wipe σ ws → R σ2 H) → gNs is vs σ H R
  | [], [], vs, σ, ρ, sl, r, hl, hw, k => by
    unfold Reps at r
    exact ⟨r, k σ sl rfl⟩
  | [], _ :: _, _, _, _, _, _, hl, _, _ => by simp at hl
  | _ :: _, [], _, _, _, _, _, hl, _, _ => by simp at hl
  | i :: is, d :: ds, vs, σ, ρ, sl, r, hl, hw, k => by
    unfold Reps at r
    obtain ⟨v, t, e, r1, r2⟩ := r
    refine ⟨v, t, e, ?_⟩
    refine gNs_ok (σ := σ.set i (some v)) (ρ := ρ.set i (some d)) (sl.set r1) r2 (by simpa using hl) (fun j hj => hw j (List.mem_cons_of_mem _ hj)) fun σ2 s2 w2 => k σ2 s2 ?_
    rw [w2, wipe_set (hw i List.mem_cons_self)]
theorem bind_ok {K : PySem.W.Frag} {H : Hp} {S : SS} {ws : List Nat} {R : L2.St → Hp → Prop} {pat : Pat} {d : D} {v : V} {σ : L2.St} {ρ ρ2 : DEnv} (sl : Sl K H S σ ρ) (r : Rep K (im H S) d v) (h : bindP pat d ρ = some ρ2) (hw : ∀ i ∈ pat.slots, i ∈ ws)
    (k : ∀ σ2, Sl K H S σ2 ρ2 → wipe σ2 ws = wipe σ ws → R σ2 H) : gPat K pat v σ H R := by
  cases pat with
  | n i =>
    cases h
    exact k _ (sl.set r) (wipe_set (hw i List.mem_cons_self))
  | t is =>
    cases d with
    | tup ds =>
      have h' : (if ds.length = is.length then some (setN ρ is ds) else none) = some ρ2 := h
      by_cases hl : ds.length = is.length
      · rw [if_pos hl] at h'
        cases h'
        obtain ⟨a, vs, rfl, h1, h2⟩ := tup_sq r
        exact ⟨a, vs, rfl, h1, by rw [← h2.length, hl], gNs_ok sl h2 hl hw k⟩
      · rw [if_neg hl] at h'
        cases h'
    | _ => cases h
section
variable {c : Ctx} {tg iter elt : Expr} {ifs : List Expr} {scope : Scope} {ρ : DEnv} {S : SS} {Q : D → SS → Prop} {pos : Pos} {nx bk ct : NK} {rt : RK}
/-- a comprehension's turns: an invariant by the turn and the items so far; the store without the new list -/
def CompD (c : Ctx) (pat : Pat) (elt : Expr) (ifs : List Expr) (scope : Scope) (vs : List Nat) (ρ : DEnv) (Qf : Addr → List D → SS → Prop) (ds : List D) (Cnd : SS → Prop) (S : SS) : Prop := ∃ Iv : Nat → List D → SS → Prop, Iv 0 [] S ∧ ds.length < sizeLine ∧
  (∀ i acc S' Dl, S' Dl = none → Iv i acc S' → Cnd (sup S' Dl (.lst acc)) ∧ acc.length ≤ i) ∧
  (∀ (Dl : Addr) (i : Nat) (d : D) (acc : List D) (S' : SS), S' Dl = none → ds[i]? = some d → Iv i acc S' → ∃ ρ2, bindP pat d (wipeD ρ vs) = some ρ2 ∧
      ∀ (s : Shared) (H : Hp) (C : Addr) (cl : List (Str × Addr)) (fp : List Addr), JTs (blkC c s H scope C cl fp) ifs ρ2 (sup S' Dl (.lst acc)) fun k S3 => if k = true then
          ∀ (s : Shared) (H : Hp) (C : Addr) (cl : List (Str × Addr)) (fp : List Addr), JE (blkC c s H scope C cl fp) elt ρ2 S3 fun y S4 => S4 Dl = some (.lst acc) ∧ Iv (i + 1) (acc ++ [y]) (sdel S4 Dl)
        else S3 Dl = some (.lst acc) ∧ Iv (i + 1) acc (sdel S3 Dl)) ∧
  ∀ acc S' Dl, S' Dl = none → Iv ds.length acc S' → Qf Dl acc S'
theorem sup_sdel {S : SS} {a : Addr} {o : MO} : sup (sdel S a) a o = sup S a o := by
  funext b; unfold sup sdel; split <;> rfl
theorem sup_self {S : SS} {a : Addr} {o : MO} (h : S a = some o) : sup S a o = S := by
  funext b; unfold sup; split
  · rename_i e; subst e; exact h.symm
  · rfl
/-- what a list comprehension's reading asks -/
theorem lc_ok {pat : Pat} {vs : List Nat} {Qf : Addr → List D → SS → Prop} {R : VK} {σ : L2.St} {H : Hp} (hi : JI c tg iter ρ S (CompD c pat elt ifs scope vs ρ Qf)) (hw : ∀ i ∈ pat.slots, i ∈ vs) (dst : Ds c σ H ρ S)
    (hR : ∀ Dl acc S' H', S' Dl = none → Qf Dl acc S' → Sim c.X.K H' (sup S' Dl (.lst acc)) → Stp H S H' (sup S' Dl (.lst acc)) → R (.ref Dl) H') :
    tLc (tIt c.X tg iter) (gPat c.X.K pat) (fun σ H R => ∀ (s : Shared) (H0 : Hp) (C : Addr) (cl : List (Str × Addr)) (fp : List Addr), tTs (c.X.blk s H0 scope (compEnvC scope cl C c.X.env) fp) ifs σ H R)
      (fun σ H R => ∀ (s : Shared) (H0 : Hp) (C : Addr) (cl : List (Str × Addr)) (fp : List Addr), tE (c.X.blk s H0 scope (compEnvC scope cl C c.X.env) fp) elt σ H R) vs σ H R := by
  intro pins s I
  refine thn (hi σ H dst pins s I) fun v s1 h1 => thn h1 fun itv s2 hp => ?_
  obtain ⟨it, fp, tn, J, H1, e, I2, T, st2, f2, ds, Cnd, S1, m1, s1', ok, Iv, i0, hsz, icn, turn, fin⟩ := hp
  refine ⟨it, fp, tn, J, H1, e, I2, T, st2, f2, fun Dl hDl => ?_⟩
  have hS1 : S1 Dl = none := m1.free hDl
  obtain ⟨sN, mN⟩ := m1.newM (o := .lst []) (m := .lst []) hDl fun H' S' sb e => ⟨[], e, Reps.nil⟩
  refine ⟨fun i m H' => m = ds.length - i ∧ i ≤ ds.length ∧ ∃ acc S', S' Dl = none ∧ Sim c.X.K H' (sup S' Dl (.lst acc)) ∧ Stp H1 S1 H' (sup S' Dl (.lst acc)) ∧ Iv i acc S', ⟨ds.length, by simp, Nat.zero_le _, [], S1, hS1, mN, sN, i0⟩, ?_⟩
  rintro i m H3 ⟨rfl, hi', acc, S3, n3, m3, s3, v3⟩
  obtain ⟨cn3, al3⟩ := icn i acc S3 Dl n3 v3
  have ok3 := ok H3 _ m3 s3 cn3 i
  by_cases hlt : i < ds.length
  · have hd := List.getElem?_eq_getElem hlt
    obtain ⟨go, yld⟩ := ok3.1 _ hd
    refine .inr ⟨go, fun H' => i + 1 ≤ ds.length ∧ ∃ acc S', S' Dl = none ∧ Sim c.X.K H' (sup S' Dl (.lst acc)) ∧ Stp H1 S1 H' (sup S' Dl (.lst acc)) ∧ Iv (i + 1) acc S', fun H' ⟨q1, q2⟩ => ⟨ds.length - (i + 1), by omega, rfl, q1, q2⟩, fun x H4 y => ?_⟩
    obtain ⟨r4, m4, s4⟩ := yld x H4 y
    obtain ⟨ρ2, hb, jts⟩ := turn Dl i _ acc S3 n3 hd v3
    have slw : Sl c.X.K H4 (sup S3 Dl (.lst acc)) (wipe σ vs) (wipeD ρ vs) := ((dst.sl.step s1').step (s3.trans s4)).wipes vs
    have key : ∀ us : List Nat, (∀ u ∈ us, u ∈ vs) → wipe (wipe σ us) vs = wipe σ vs := fun us => by
      induction us with
      | nil => intro _; rfl
      | cons u us ih =>
        intro hu
        rw [wipe, wipe_set (hu u List.mem_cons_self), ih fun z hz => hu z (List.mem_cons_of_mem _ hz)]
    refine bind_ok slw r4 hb hw fun σ2 sl2 w2 => ⟨by rw [w2, key vs fun _ h => h], ?_⟩
    intro sB HB CB clB fpB
    have jt := jts sB HB CB clB fpB
    have d2 : Ds (blkC c sB HB scope CB clB fpB) σ2 H4 ρ2 (sup S3 Dl (.lst acc)) := ⟨sl2, m4, fun _ _ _ _ _ _ z => z.elim, fun _ _ _ _ _ z => z.elim⟩
    refine jt.then d2 fun k S5 H5 d5 s5 q5 => ?_
    have st5 : Stp H1 S1 H5 S5 := (s3.trans s4).trans s5
    cases k with
    | false =>
      rw [if_neg Bool.false_ne_true] at q5 ⊢
      refine ⟨hlt, acc, sdel S5 Dl, sdel_same, ?_, ?_, q5.2⟩
      · rw [sup_sdel, sup_self q5.1]; exact d5.sim
      · rw [sup_sdel, sup_self q5.1]; exact st5
    | true =>
      rw [if_pos rfl] at q5 ⊢
      intro sC HC CC clC fpC
      have d5' : Ds (blkC c sC HC scope CC clC fpC) σ2 H5 ρ2 S5 := ⟨d5.sl, d5.sim, fun _ _ _ _ _ _ z => z.elim, fun _ _ _ _ _ z => z.elim⟩
      refine (q5 sC HC CC clC fpC).then d5' fun y S6 w H6 r6 d6 s6 ⟨e6, q6⟩ => ?_
      obtain ⟨ws, hws, rws⟩ := d6.sim Dl _ e6
      obtain ⟨st7, sm7⟩ := d6.sim.write (o := .lst (ws ++ [w])) (m := .lst (acc ++ [y])) e6 fun H' S' sb e => ⟨_, e, (rws.mono sb).append (Reps.cons (r6.mono sb) Reps.nil)⟩
      have hl := rws.length
      refine ⟨ws, hws, by omega, hlt, acc ++ [y], sdel S6 Dl, sdel_same, ?_, ?_, q6⟩
      · rw [sup_sdel]; exact sm7
      · rw [sup_sdel]; exact (st5.trans s6).trans st7
  · have e : i = ds.length := by omega
    refine .inl ⟨ok3.2 (by omega) e, ?_⟩
    subst e
    exact hR Dl acc S3 H3 n3 (fin acc S3 Dl n3 v3) m3 (s1'.trans s3)
theorem lc_pts (X : Cx) : ∀ (s : Shared) (H : Hp) (C : Addr) (cl : List (Str × Addr)) (fp : List Addr), PTs (X.blk s H scope (compEnvC scope cl C X.env) fp) ifs (fun σ H R => ∀ (s : Shared) (H0 : Hp) (C : Addr) (cl : List (Str × Addr)) (fp : List Addr), tTs (X.blk s H0 scope (compEnvC scope cl C X.env) fp) ifs σ H R) :=
  fun s H C cl fp => ⟨fun pins s' σ H' Q I h => PTst.run pins s' σ H' Q I (h s H C cl fp)⟩
theorem lc_pe (X : Cx) : ∀ (s : Shared) (H : Hp) (C : Addr) (cl : List (Str × Addr)) (fp : List Addr), PE (X.blk s H scope (compEnvC scope cl C X.env) fp) elt (fun σ H R => ∀ (s : Shared) (H0 : Hp) (C : Addr) (cl : List (Str × Addr)) (fp : List Addr), tE (X.blk s H0 scope (compEnvC scope cl C X.env) fp) elt σ H R) :=
  fun s H C cl fp => ⟨fun pins s' σ H' Q I h => h s H C cl fp pins s' I⟩
/-- the target of a comprehension -/
def LcT (c : Ctx) (scope : Scope) (tg : Expr) (pat : Pat) : Prop := ∀ (s : Shared) (H : Hp) (C : Addr) (cl : List (Str × Addr)) (fp : List Addr), PG (c.X.blk s H scope (compEnvC scope cl C c.X.env) fp) tg (gPat c.X.K pat)
variable {pat : Pat} {own : List (Str × Nat)}
/-- [..]: a list that never changes -/
theorem je_lc (pat : Pat) (own : List (Str × Nat)) (hN : c.X.N.Nodup) (h : JI c tg iter ρ S (CompD c pat elt ifs scope (own.map (·.2)) ρ fun _ acc S' => Q (.fl acc) S')) (hg : LcT c scope tg pat) (ok : L2.blkC c.X.N c.X.env.scope scope own = true) (hw : pat.slots.all (fun i => (own.map (·.2)).contains i) = true := by rfl)
    (hc : c.X.calm = true := by rfl) (hs : ∀ x, foldedSetIterable iter c.X.env x = pure x := by intro _; rfl) : JE c (.ListComp elt [⟨tg, iter, ifs, 0⟩] scope pos) ρ S Q :=
  JE.of (pe_lc hc hN PIt (blkOk_by ok) hg (lc_pts c.X) (lc_pe c.X) hs) fun σ H dst => lc_ok h (fun i hi => by simpa using List.all_eq_true.mp hw i hi) dst fun Dl acc S' H' hn q m st => by
    obtain ⟨st2, m2⟩ := m.freeze (a := Dl)
    rw [sdel_sup hn] at st2 m2
    obtain ⟨vs, e1, e2⟩ := m Dl _ sup_same
    exact ⟨.fl acc, S', rep_fl.mpr ⟨Dl, vs, rfl, SqL.of (im_of hn e1), e2.mono st2⟩, m2, st.trans st2, q⟩
/-- [..]: a list of the store -/
theorem je_lcM (pat : Pat) (own : List (Str × Nat)) (hN : c.X.N.Nodup) (h : JI c tg iter ρ S (CompD c pat elt ifs scope (own.map (·.2)) ρ fun Dl acc S' => Q (.ref Dl) (sup S' Dl (.lst acc)))) (hg : LcT c scope tg pat) (ok : L2.blkC c.X.N c.X.env.scope scope own = true) (hw : pat.slots.all (fun i => (own.map (·.2)).contains i) = true := by rfl)
    (hc : c.X.calm = true := by rfl) (hs : ∀ x, foldedSetIterable iter c.X.env x = pure x := by intro _; rfl) : JE c (.ListComp elt [⟨tg, iter, ifs, 0⟩] scope pos) ρ S Q :=
  JE.of (pe_lc hc hN PIt (blkOk_by ok) hg (lc_pts c.X) (lc_pe c.X) hs) fun σ H dst => lc_ok h (fun i hi => by simpa using List.all_eq_true.mp hw i hi) dst fun Dl acc S' H' hn q m st => ⟨.ref Dl, _, rep_ref.mpr rfl, m, st, q⟩
theorem sw_comp {y : Str} {py : Pos} {l : Nat} (hk : c.X.env.scope.kind = .function) (hy : c.X.env.scope.names.lookup y = some .local) (hl : (py.line == pos.line) = true) (ha : (scope.names.any fun (n, k) => n == y && (k == .local || k == .cell)) = false) {gs : List Comprehension} :
    swapsWith (.ListComp elt gs scope pos) (some (.Name y py)) l c.X.env = pure true := sw_true hk hy hl ha
/-- name = [..] -/
theorem js_setLc (pat : Pat) (own : List (Str × Nat)) (i : Nat) {y : Str} {py spos : Pos} (hN : c.X.N.Nodup) (hy : c.X.N[i]? = some y) (hyl : c.X.env.scope.names.lookup y = some .local) (h : JI c tg iter ρ S (CompD c pat elt ifs scope (own.map (·.2)) ρ fun _ acc S' => nx (ρ.set i (some (.fl acc))) S')) (hg : LcT c scope tg pat) (ok : L2.blkC c.X.N c.X.env.scope scope own = true)
    (hsw : swapsWith (.ListComp elt [⟨tg, iter, ifs, 0⟩] scope pos) (some (.Name y py)) spos.line c.X.env = pure true) (hw : pat.slots.all (fun i => (own.map (·.2)).contains i) = true := by rfl)
    (hc : c.X.calm = true := by rfl) (hs : ∀ x, foldedSetIterable iter c.X.env x = pure x := by intro _; rfl) : JS c (.Assign [.Name y py] (.ListComp elt [⟨tg, iter, ifs, 0⟩] scope pos) spos) ρ S nx rt bk ct :=
  JS.of (ps_setLc hc hN hy hyl hsw PIt (blkOk_by ok) hg (lc_pts c.X) (lc_pe c.X) hs) fun σ H dst => lc_ok h (fun i hi => by simpa using List.all_eq_true.mp hw i hi) dst fun Dl acc S' H' hn q m st => by
    obtain ⟨st2, m2⟩ := m.freeze (a := Dl)
    rw [sdel_sup hn] at st2 m2
    obtain ⟨vs, e1, e2⟩ := m Dl _ sup_same
    exact ⟨ρ.set i (some (.fl acc)), S', (dst.sl.step (st.trans st2)).set (rep_fl.mpr ⟨Dl, vs, rfl, SqL.of (im_of hn e1), e2.mono st2⟩), m2, st.trans st2, q⟩
theorem js_setLcM (pat : Pat) (own : List (Str × Nat)) (i : Nat) {y : Str} {py spos : Pos} (hN : c.X.N.Nodup) (hy : c.X.N[i]? = some y) (hyl : c.X.env.scope.names.lookup y = some .local) (h : JI c tg iter ρ S (CompD c pat elt ifs scope (own.map (·.2)) ρ fun Dl acc S' => nx (ρ.set i (some (.ref Dl))) (sup S' Dl (.lst acc)))) (hg : LcT c scope tg pat) (ok : L2.blkC c.X.N c.X.env.scope scope own = true)
    (hsw : swapsWith (.ListComp elt [⟨tg, iter, ifs, 0⟩] scope pos) (some (.Name y py)) spos.line c.X.env = pure true) (hw : pat.slots.all (fun i => (own.map (·.2)).contains i) = true := by rfl)
    (hc : c.X.calm = true := by rfl) (hs : ∀ x, foldedSetIterable iter c.X.env x = pure x := by intro _; rfl) : JS c (.Assign [.Name y py] (.ListComp elt [⟨tg, iter, ifs, 0⟩] scope pos) spos) ρ S nx rt bk ct :=
  JS.of (ps_setLc hc hN hy hyl hsw PIt (blkOk_by ok) hg (lc_pts c.X) (lc_pe c.X) hs) fun σ H dst => lc_ok h (fun i hi => by simpa using List.all_eq_true.mp hw i hi) dst fun Dl acc S' H' hn q m st => ⟨ρ.set i (some (.ref Dl)), _, (dst.sl.step st).set (rep_ref.mpr rfl), m, st, q⟩
/-- elements that leave the store alone: f of each item that t lets through -/
theorem CompD.pure {vs : List Nat} {Qf : Addr → List D → SS → Prop} {ds : List D} {Cnd : SS → Prop} (t : D → Bool) (f : D → D) (hsz : ds.length < sizeLine) (hcn : ∀ Dl acc, S Dl = none → Cnd (sup S Dl (.lst acc)))
    (turn : ∀ (d : D) (S' : SS), d ∈ ds → ∃ ρ2, bindP pat d (wipeD ρ vs) = some ρ2 ∧ ∀ (s : Shared) (H : Hp) (C : Addr) (cl : List (Str × Addr)) (fp : List Addr), JTs (blkC c s H scope C cl fp) ifs ρ2 S' fun k S3 => S3 = S' ∧ k = t d ∧ (k = true →
      ∀ (s : Shared) (H : Hp) (C : Addr) (cl : List (Str × Addr)) (fp : List Addr), JE (blkC c s H scope C cl fp) elt ρ2 S' fun y S4 => S4 = S' ∧ y = f d))
    (q : ∀ Dl, S Dl = none → Qf Dl ((ds.filter t).map f) S) : CompD c pat elt ifs scope vs ρ Qf ds Cnd S := by
  refine ⟨fun i acc S' => S' = S ∧ acc = ((ds.take i).filter t).map f, ⟨rfl, rfl⟩, hsz, fun i acc S' Dl hn ⟨e1, e2⟩ => ?_, fun Dl i d acc S' hn hd ⟨e1, e2⟩ => ?_, fun acc S' Dl hn ⟨e1, e2⟩ => ?_⟩
  · subst e1
    refine ⟨hcn Dl acc hn, ?_⟩
    rw [e2, List.length_map]
    exact Nat.le_trans (List.length_filter_le _ _) (by rw [List.length_take]; omega)
  · subst e1
    obtain ⟨ρ2, hb, h⟩ := turn d (sup S' Dl (.lst acc)) (List.mem_of_getElem? hd)
    refine ⟨ρ2, hb, fun s H C cl fp => ?_⟩
    have tk : ds.take (i + 1) = ds.take i ++ [d] := by
      obtain ⟨hi, e⟩ := List.getElem?_eq_some_iff.mp hd
      rw [List.take_add_one, hd]; rfl
    have weak : ∀ {QT QT' : Bool → SS → Prop}, (∀ k S3, QT k S3 → QT' k S3) → JTs (blkC c s H scope C cl fp) ifs ρ2 (sup S' Dl (.lst acc)) QT → JTs (blkC c s H scope C cl fp) ifs ρ2 (sup S' Dl (.lst acc)) QT' := fun {QT QT'} w h => by
      match ifs, h with
      | [], h => exact w _ _ h
      | [t'], h => exact fun σ H ds => tT_mono (h σ H ds) fun v H' ⟨S', m, s, q⟩ => ⟨S', m, s, w _ _ q⟩
    refine weak (fun k S3 ⟨e3, e4, e5⟩ => ?_) (h s H C cl fp)
    subst e3
    cases k with
    | true =>
      rw [if_pos rfl]
      intro s H C cl fp
      refine (e5 rfl s H C cl fp).mono fun y S4 ⟨e6, e7⟩ => ?_
      subst e6 e7
      refine ⟨sup_same, sdel_sup hn, ?_⟩
      rw [tk, List.filter_append, List.map_append, ← e2, List.filter_cons, if_pos e4.symm]; rfl
    | false =>
      rw [if_neg Bool.false_ne_true]
      refine ⟨sup_same, sdel_sup hn, ?_⟩
      rw [tk, List.filter_append, List.map_append, ← e2, List.filter_cons, if_neg (by rw [← e4]; exact Bool.false_ne_true)]
      simp
  · subst e1
    rw [e2, List.take_length]
    exact q Dl hn
end
end DP

namespace DP
open PySem L2

/-! ### names of a def, short -/
structure Nv (c : Ctx) (i : Nat) (x : Str) : Prop where
  at_ : c.X.N[i]? = some x
  vis : Vis c.X.env.scope x
  db : (x == ("__debug__" : Str)) = false
  cd : (x == ("__classdict__" : Str)) = false
structure Nm (c : Ctx) (i : Nat) (x : Str) : Prop where
  at_ : c.X.N[i]? = some x
  loc : Loc c.X.env.scope x
  fn : c.X.fn x = true ∨ c.X.env.scope.names.lookup x = some .local
  db : (x == ("__debug__" : Str)) = false
  cd : (x == ("__classdict__" : Str)) = false
theorem Nm.v {c : Ctx} {i : Nat} {x : Str} (n : Nm c i x) : Nv c i x := ⟨n.at_, n.loc.elim .inl fun h => .inr (.inl h), n.db, n.cd⟩
section
variable {c : Ctx} {e : Expr} {es : List Expr} {ρ : DEnv} {S : SS} {Q : D → SS → Prop} {pos : Pos} {nx bk ct : NK} {rt : RK}
theorem je_name {i : Nat} {x : Str} {d : D} (n : Nm c i x) (hd : ρ[i]? = some (some d)) (q : Q d S) : JE c (.Name x pos) ρ S Q := je_var i hd n.at_ n.v.vis q n.db n.cd
theorem je_namev {i : Nat} {x : Str} {d : D} (n : Nv c i x) (hd : ρ[i]? = some (some d)) (q : Q d S) : JE c (.Name x pos) ρ S Q := je_var i hd n.at_ n.vis q n.db n.cd
theorem js_st {i : Nat} {x : Str} {pos' : Pos} (n : Nm c i x) (nd : c.X.N.Nodup) (h : JE c e ρ S fun d S1 => nx (ρ.set i (some d)) S1) (hs : swapsWith e (some (.Name x pos')) pos.line c.X.env = pure false := by rfl) : JS c (.Assign [.Name x pos'] e pos) ρ S nx rt bk ct :=
  js_set i h nd n.at_ n.loc n.fn hs
theorem jg_nm {i : Nat} {x : Str} {y : D} (n : Nm c i x) (nd : c.X.N.Nodup) (q : nx (ρ.set i (some y)) S) : JG c (.Name x pos) y ρ S nx := jg_name i q nd n.at_ n.loc n.fn

/-! ### calls of what is built in -/
def tC (X : Cx) (f : Value) : List V → Hp → VK → Prop := fun vs H R => ∀ (pins : List (Addr × Obj)) (s : Shared) (σ : L2.St) (us : List Value), L2.Inv X pins σ H s → Vals vs us → wpAny (model X.prog X.w) X.A (call f us) (EP X pins σ R) X.xe s
theorem CallRt {X : Cx} {f : Value} : CallR X f (tC X f) := fun pins s σ H vs us Q I r h => h pins s σ us I r
def CD (c : Ctx) (f : Value) (ds : List D) (S : SS) (Q : D → SS → Prop) : Prop := ∀ H vs, Sim c.X.K H S → Reps c.X.K (im H S) ds vs → tC c.X f vs H (pst c.X.K H S Q)
theorem CD.of {f : Value} {ds : List D} {r : List V → Hp → VK → Prop} (h : CallR c.X f r) (k : ∀ H vs, Sim c.X.K H S → Reps c.X.K (im H S) ds vs → r vs H (pst c.X.K H S Q)) : CD c f ds S Q := fun H vs m rv pins s σ us I r => h pins s σ H vs us _ I r (k H vs m rv)
theorem tC_mono {X : Cx} {f : Value} {vs : List V} {H : Hp} {R R' : VK} (h : tC X f vs H R) (k : ∀ v H', R v H' → R' v H') : tC X f vs H R' := fun pins s σ us I r => thn (h pins s σ us I r) fun u s' ⟨v, H', I', r', q⟩ => ⟨v, H', I', r', k v H' q⟩
theorem je_callB {x : Str} {id : String} {p : Pos} (hm : c.X.mg x = none) (hv : bootBuiltins x = some (.builtin id)) (h : JA c (e :: es) ρ S fun ds S1 => CD c (.builtin id) ds S1 Q) (hg : Gl c.X x := by rfl) (hn : x ≠ "__name__" := by decide) (hdb : (x == ("__debug__" : Str)) = false := by decide)
    (he : starEach (e :: es) c.X.env = (false, eval e c.X.env) :: starEach es c.X.env := by rfl) (hpl : (backTo pos (starEach es c.X.env)).any (·.1) = false := by rfl) : JE c (.Call (.Name x p) (e :: es) [] pos) ρ S Q :=
  JE.of (pe_callB CallRt hg hm hv PAt hn hdb he hpl) fun σ H ds => h.then ds fun dsa S1 vs H1 r d1 s1 q => tC_mono (q H1 vs d1.sim r) fun v H' q => pst_step s1 q
theorem je_callTy {x : Str} {T : String} {p : Pos} (hm : c.X.mg x = none) (hv : bootBuiltins x = some (.type T)) (h : JA c (e :: es) ρ S fun ds S1 => CD c (.type T) ds S1 Q) (hg : Gl c.X x := by rfl) (hn : x ≠ "__name__" := by decide) (hdb : (x == ("__debug__" : Str)) = false := by decide)
    (he : starEach (e :: es) c.X.env = (false, eval e c.X.env) :: starEach es c.X.env := by rfl) (hpl : (backTo pos (starEach es c.X.env)).any (·.1) = false := by rfl) : JE c (.Call (.Name x p) (e :: es) [] pos) ρ S Q :=
  JE.of (pe_callTy CallRt hg hm hv PAt hn hdb he hpl) fun σ H ds => h.then ds fun dsa S1 vs H1 r d1 s1 q => tC_mono (q H1 vs d1.sim r) fun v H' q => pst_step s1 q
end
theorem reps1 {K : PySem.W.Frag} {G : Hp} {d : D} {vs : List V} (h : Reps K G [d] vs) : ∃ v, vs = [v] ∧ Rep K G d v := by
  unfold Reps at h
  obtain ⟨v, t, rfl, h1, h2⟩ := h
  unfold Reps at h2
  subst h2
  exact ⟨v, rfl, h1⟩
theorem reps2 {K : PySem.W.Frag} {G : Hp} {d e : D} {vs : List V} (h : Reps K G [d, e] vs) : ∃ v w, vs = [v, w] ∧ Rep K G d v ∧ Rep K G e w := by
  unfold Reps at h
  obtain ⟨v, t, rfl, h1, h2⟩ := h
  obtain ⟨w, rfl, h3⟩ := reps1 h2
  exact ⟨v, w, rfl, h1, h3⟩
section
variable {c : Ctx} {S : SS} {Q : D → SS → Prop} {x y : D} {i j : Int}
/-- a sequence: a list or a tuple -/
def IsQ (S : SS) (x : D) (xs : List D) : Prop := IsL S x xs ∨ x = .tup xs
theorem IsQ.sq {K : PySem.W.Frag} {H : Hp} {xs : List D} {v : V} (h : IsQ S x xs) (r : Rep K (im H S) x v) (s : Sim K H S) : ∃ a vs, v = .ref a ∧ (SqL K H a vs ∨ SqT K H a vs) ∧ Reps K (im H S) xs vs := by
  rcases h with h | rfl
  · obtain ⟨a, vs, e1, e2, e3⟩ := h.sq r s
    exact ⟨a, vs, e1, .inl e2, e3⟩
  · obtain ⟨a, vs, e1, e2, e3⟩ := tup_sq r
    exact ⟨a, vs, e1, .inr e2, e3⟩
theorem cd_len {xs : List D} (h : IsQ S x xs) (q : Q (.int (xs.length : Int)) S) : CD c (.builtin "len") [x] S Q :=
  CD.of call_len_seq fun H vs m r => by
    obtain ⟨v, rfl, r1⟩ := reps1 r
    obtain ⟨a, ws, rfl, e2, e3⟩ := h.sq r1 m
    exact ⟨a, ws, rfl, e2, pst_same m (rep_int.mpr (by rw [e3.length])) q⟩
theorem cd_lenS {z : Str} (h : z.length ≤ sizeLine) (q : Q (.int (z.length : Int)) S) : CD c (.builtin "len") [.str z] S Q :=
  CD.of call_len_str fun H vs m r => by
    obtain ⟨v, rfl, r1⟩ := reps1 r
    exact ⟨z, by rw [rep_str.mp r1], h, pst_same m (rep_int.mpr rfl) q⟩
theorem cd_abs (q : Q (.int (if i < 0 then -i else i)) S) : CD c (.builtin "abs") [.int i] S Q :=
  CD.of call_abs fun H vs m r => by
    obtain ⟨v, rfl, r1⟩ := reps1 r
    exact ⟨i, by rw [rep_int.mp r1], pst_same m (rep_int.mpr rfl) q⟩
theorem cd_min2 (hc : c.X.calm = true) (q : Q (.int (if j < i then j else i)) S) : CD c (.builtin "min") [.int i, .int j] S Q :=
  CD.of (call_min2 hc) fun H vs m r => by
    obtain ⟨v, w, rfl, r1, r2⟩ := reps2 r
    exact ⟨i, j, by rw [rep_int.mp r1, rep_int.mp r2], pst_same m (rep_int.mpr rfl) q⟩
theorem cd_max2 (hc : c.X.calm = true) (q : Q (.int (if j > i then j else i)) S) : CD c (.builtin "max") [.int i, .int j] S Q :=
  CD.of (call_max2 hc) fun H vs m r => by
    obtain ⟨v, w, rfl, r1, r2⟩ := reps2 r
    exact ⟨i, j, by rw [rep_int.mp r1, rep_int.mp r2], pst_same m (rep_int.mpr rfl) q⟩
theorem cd_int (q : Q (.int i) S) : CD c (.type "int") [.int i] S Q :=
  CD.of call_int1 fun H vs m r => by
    obtain ⟨v, rfl, r1⟩ := reps1 r
    exact .inl ⟨i, by rw [rep_int.mp r1], pst_same m (rep_int.mpr rfl) q⟩
theorem cd_list {xs : List D} (h : IsQ S x xs) (q : Q (.fl xs) S) : CD c (.type "list") [x] S Q :=
  CD.of call_list_of fun H vs m r => by
    obtain ⟨v, rfl, r1⟩ := reps1 r
    obtain ⟨a, ws, rfl, e2, e3⟩ := h.sq r1 m
    refine ⟨a, ws, rfl, e2, fun l hl => ?_⟩
    obtain ⟨st, sm, e⟩ := m.new (o := .lst ws) hl
    exact ⟨_, S, rep_fl.mpr ⟨l, ws, rfl, SqL.of e, e3.mono st⟩, sm, st, q⟩
theorem cd_listM {xs : List D} (h : IsQ S x xs) (q : ∀ p, S p = none → Q (.ref p) (sup S p (.lst xs))) : CD c (.type "list") [x] S Q :=
  CD.of call_list_of fun H vs m r => by
    obtain ⟨v, rfl, r1⟩ := reps1 r
    obtain ⟨a, ws, rfl, e2, e3⟩ := h.sq r1 m
    refine ⟨a, ws, rfl, e2, fun l hl => ?_⟩
    obtain ⟨st, sm⟩ := m.newM (o := .lst ws) (m := .lst xs) hl fun H' S' sb e => ⟨ws, e, e3.mono sb⟩
    exact ⟨_, _, rep_ref.mpr rfl, sm, st, q l (m.free hl)⟩
theorem cd_tuple {xs : List D} (h : IsQ S x xs) (q : Q (.tup xs) S) : CD c (.type "tuple") [x] S Q :=
  CD.of call_tuple_of fun H vs m r => by
    obtain ⟨v, rfl, r1⟩ := reps1 r
    rcases h with h | rfl
    · obtain ⟨a, ws, rfl, e2, e3⟩ := h.sq r1 m
      refine ⟨a, ws, rfl, .inl ⟨e2, fun l hl => ?_⟩⟩
      obtain ⟨st, sm, e⟩ := m.new (o := .tup ws) hl
      exact ⟨_, S, rep_tup.mpr ⟨l, ws, rfl, SqT.of e, e3.mono st⟩, sm, st, q⟩
    · obtain ⟨a, ws, rfl, e2, e3⟩ := tup_sq r1
      exact ⟨a, ws, rfl, .inr ⟨e2, pst_same m r1 q⟩⟩
theorem cd_sortedI {ns : List Int} (h : IsL S x (ns.map D.int)) (q : ∀ ns' : List Int, ns'.Perm ns → ns'.Pairwise (· ≤ ·) → Q (.fl (ns'.map D.int)) S) : CD c (.builtin "sorted") [x] S Q :=
  CD.of cr_sortedI fun H vs m r => by
    obtain ⟨v, rfl, r1⟩ := reps1 r
    obtain ⟨a, ws, rfl, e2, e3⟩ := h.sq r1 m
    have e4 := reps_ints e3
    subst e4
    refine ⟨a, ns, rfl, e2, fun ns' p hp hs hn => ?_⟩
    obtain ⟨st, sm, e⟩ := m.new (o := .lst (ns'.map V.int)) hn
    exact ⟨_, S, rep_fl.mpr ⟨p, _, rfl, SqL.of e, reps_ints'⟩, sm, st, q ns' hp hs⟩
theorem cd_sortedS {xs : List Str} (h : IsL S x (xs.map D.str)) (hl : xs.length < 64) (q : ∀ ys : List Str, ys.Perm xs → PyProof.Rows.sortedS ys = true → Q (.fl (ys.map D.str)) S) : CD c (.builtin "sorted") [x] S Q :=
  CD.of cr_sortedS fun H vs m r => by
    obtain ⟨v, rfl, r1⟩ := reps1 r
    obtain ⟨a, ws, rfl, e2, e3⟩ := h.sq r1 m
    have e4 := reps_strs e3
    subst e4
    refine ⟨a, xs, rfl, e2, hl, fun ns' p hp hs hn => ?_⟩
    obtain ⟨st, sm, e⟩ := m.new (o := .lst (ns'.map V.str)) hn
    exact ⟨_, S, rep_fl.mpr ⟨p, _, rfl, SqL.of e, reps_strs'⟩, sm, st, q ns' hp hs⟩
theorem cd_all {bs : List Bool} (hc : c.X.calm = true) (h : IsL S x (bs.map D.bl)) (q : Q (.bl (bs.all id)) S) : CD c (.builtin "all") [x] S Q :=
  CD.of (cr_all hc) fun H vs m r => by
    obtain ⟨v, rfl, r1⟩ := reps1 r
    obtain ⟨a, ws, rfl, e2, e3⟩ := h.sq r1 m
    have e4 := reps_bls e3
    subst e4
    exact ⟨a, bs, rfl, e2, pst_same m (rep_bl.mpr rfl) q⟩
theorem cd_any {bs : List Bool} (hc : c.X.calm = true) (h : IsL S x (bs.map D.bl)) (q : Q (.bl (bs.any id)) S) : CD c (.builtin "any") [x] S Q :=
  CD.of (cr_any hc) fun H vs m r => by
    obtain ⟨v, rfl, r1⟩ := reps1 r
    obtain ⟨a, ws, rfl, e2, e3⟩ := h.sq r1 m
    have e4 := reps_bls e3
    subst e4
    exact ⟨a, bs, rfl, e2, pst_same m (rep_bl.mpr rfl) q⟩
theorem cd_sum {ns : List Int} (hc : c.X.calm = true) (h : IsL S x (ns.map D.int)) (q : Q (.int ns.sum) S) : CD c (.builtin "sum") [x] S Q :=
  CD.of (cr_sum hc) fun H vs m r => by
    obtain ⟨v, rfl, r1⟩ := reps1 r
    obtain ⟨a, ws, rfl, e2, e3⟩ := h.sq r1 m
    have e4 := reps_ints e3
    subst e4
    exact ⟨a, ns, rfl, e2, pst_same m (rep_int.mpr rfl) q⟩
/-! isinstance -/
/-- the name of a value's built-in type -/
def tyN (S : SS) : D → Option String
  | .non => some "NoneType"
  | .bl _ => some "bool"
  | .int _ => some "int"
  | .str _ => some "str"
  | .tup _ => some "tuple"
  | .fl _ => some "list"
  | .ref a => match S a with
    | some (.lst _) => some "list"
    | some (.dk _) => some "dict"
    | some (.dt _) => some "dict"
    | _ => none
  | .ty _ => none
  | .lam _ _ _ _ => none
theorem tyN_ok {K : PySem.W.Frag} {H : Hp} {v : V} {n : String} (h : tyN S x = some n) (r : Rep K (im H S) x v) (m : Sim K H S) : TyX K H v (.type n) := by
  cases x with
  | non => cases h; rw [rep_non.mp r]; exact .base .non
  | bl b => cases h; rw [rep_bl.mp r]; exact .base (.bl b)
  | int b => cases h; rw [rep_int.mp r]; exact .base (.int b)
  | str b => cases h; rw [rep_str.mp r]; exact .base (.str b)
  | ty b => cases h
  | lam f c q G => cases h
  | tup xs =>
    cases h
    obtain ⟨a, vs, rfl, e2, _⟩ := tup_sq r
    rcases e2 with (e2 | ⟨o, e2⟩) | ⟨o, _, _, e2, e3, _⟩
    · exact .base (.tup e2)
    · exact .fTuple e2
    · exact .kTuple e2 e3
  | fl xs =>
    cases h
    obtain ⟨a, vs, rfl, e2, _⟩ := IsL.sq IsL.fl r m
    rcases e2 with (e2 | ⟨o, e2⟩) | ⟨o, _, _, e2, e3, _⟩
    · exact .base (.lst e2)
    · exact .base (.frz e2)
    · exact .kList e2 e3
  | ref a =>
    rw [rep_ref.mp r]
    have h' : (match S a with | some (.lst _) => some "list" | some (.dk _) => some "dict" | some (.dt _) => some "dict" | _ => none) = some n := h
    cases e : S a with
    | none => rw [e] at h'; cases h'
    | some o =>
      rw [e] at h'
      have so := m a o e
      cases o with
      | lst xs => cases h'; obtain ⟨vs, e1, _⟩ := so; exact .base (.lst e1)
      | dk xs => cases h'; obtain ⟨vs, e1, _⟩ := so; exact .base (.dK e1)
      | dt xs => cases h'; obtain ⟨vs, e1, _⟩ := so; exact .base (.dT e1)
      | ins C fs => cases h'
      | xd fs => cases h'
      | fdk od vs fs => cases h'
      | tb q => cases h'
theorem cd_isi {n m : String} {b : Bool} (h : tyN S x = some n) (hk : kitB n m = some b) (q : Q (.bl b) S) : CD c (.builtin "isinstance") [x, .ty m] S Q :=
  CD.of call_isi fun H vs sm r => by
    obtain ⟨v, w, rfl, r1, r2⟩ := reps2 r
    rw [rep_ty.mp r2]
    exact ⟨v, .ty m, _, _, b, rfl, .ty m, tyN_ok h r1 sm, kit_ty hk, pst_same sm (rep_bl.mpr rfl) q⟩
theorem tys_ok {K : PySem.W.Frag} {G : Hp} : ∀ {ms : List String} {cs : List V}, Reps K G (ms.map D.ty) cs → cs = ms.map V.ty ∧ Paired ClsV cs (ms.map Value.type)
  | [], cs, h => by unfold List.map Reps at h; subst h; exact ⟨rfl, .nil⟩
  | n :: ms, cs, h => by
    unfold List.map Reps at h
    obtain ⟨w, t, rfl, h1, h2⟩ := h
    obtain ⟨e1, e2⟩ := tys_ok h2
    rw [rep_ty.mp h1]
    exact ⟨by rw [e1] <;> rfl, .cons (.ty n) e2⟩
/-- isinstance(x, (T1, T2, ..)) of built-in types; the tuple laid just now -/
theorem cd_isiT {n : String} {ms : List String} {b : Bool} (h : tyN S x = some n) (hk : ∀ K, PySem.W.kitAny K (.type n) (ms.map Value.type) = some b) (q : Q (.bl b) S) :
    ∀ H vs, Sim c.X.K H S → ∀ v tp cs, vs = [v, .ref tp] → Rep c.X.K (im H S) x v → H tp = some (.tup cs) → Reps c.X.K (im H S) (ms.map D.ty) cs → rIsiT c.X.K vs H (pst c.X.K H S Q) := fun H vs sm v tp cs e r ht rc => by
  subst e
  have e1 := tys_ok rc
  exact ⟨v, tp, cs, _, _, b, rfl, ht, e1.2, tyN_ok h r sm, hk _, pst_same sm (rep_bl.mpr rfl) q⟩
end

/-! ### methods of what is built in -/
section
variable {c : Ctx} {o e : Expr} {es : List Expr} {ρ : DEnv} {S : SS} {Q : D → SS → Prop} {apos cpos : Pos}
/-- l.append(e) -/
theorem je_append (h : JE c o ρ S fun x S1 => ∃ l, x = .ref l ∧ (∃ ys, S1 l = some (.lst ys)) ∧ JE c e ρ S1 fun y S2 => ∃ xs, S2 l = some (.lst xs) ∧ xs.length < sizeLine ∧ Q .non (sup S2 l (.lst (xs ++ [y]))))
    (hbase : attributeBase o "append" c.X.env (eval o c.X.env) = eval o c.X.env := by rfl)
    (hfew : ((backTo cpos (starEach [e] c.X.env)).all (fun x => !x.1) && (backToKw cpos (keywordEach [] c.X.env)).all (fun x => x.1.isSome) && decide (([e] : List Expr).length + ([] : List Keyword).length + (if ([] : List Keyword).isEmpty then 0 else 1) < 30)) = true := by rfl)
    (hline : (apos.endLine == cpos.line) = true := by rfl) (hs : starEach [e] c.X.env = (false, eval e c.X.env) :: starEach [] c.X.env := by rfl) (hpl : (backTo cpos (starEach [] c.X.env)).any (·.1) = false := by rfl) : JE c (.Call (.Attribute o "append" apos) [e] [] cpos) ρ S Q :=
  JE.of (pe_bm PySem.F.plainAttrs_list PySem.F.slot_list_append PySem.F.type_list_append mt_append PEt (pa_cons PEt pa_nil hs) hbase hfew hline hs hpl) fun σ H ds => h.then ds fun x S1 v H1 r1 d1 s1 ⟨l, e1, ⟨ys, e0⟩, h2⟩ => by
    subst e1
    rw [rep_ref.mp r1]
    obtain ⟨us, hu, _⟩ := d1.sim l _ e0
    refine ⟨.inl ⟨rfl, us, SqL.of hu⟩, h2.then d1 fun y S2 w H2 r2 d2 s2 ⟨xs, e3, hl, q⟩ => ?_⟩
    obtain ⟨vs, hv, rv⟩ := d2.sim l _ e3
    obtain ⟨st, sm⟩ := d2.sim.write (o := .lst (vs ++ [w])) (m := .lst (xs ++ [y])) e3 fun H' S' sb e => ⟨_, e, (rv.mono sb).append (Reps.cons (r2.mono sb) Reps.nil)⟩
    exact ⟨l, vs, w, rfl, rfl, hv, by rw [← rv.length]; exact hl, .non, _, rep_non.mpr rfl, sm, (s1.trans s2).trans st, q⟩
end

/-! ### defs -/
abbrev DSp := List D → SS → (D → SS → Prop) → (Value → Option Addr → SS → Prop) → Prop
def lift (K : PySem.W.Frag) (sp : DSp) : Sp := fun vs H Q E => ∃ ds S Qd Ed, Reps K (im H S) ds vs ∧ Sim K H S ∧ sp ds S Qd Ed ∧ (∀ d S' v H', Qd d S' → Rep K (im H' S') d v → Sim K H' S' → Stp H S H' S' → Q v H') ∧
  ∀ cls dd S' H', Ed cls dd S' → Sim K H' S' → Stp H S H' S' → E cls dd H'
/-- the def that stands at the module's name x keeps sp -/
structure Fn (P : Program) (w : World) (K : PySem.W.Frag) (mg : Str → Option Value) (base : Heap) (k : Nat) (x : Str) (sp : DSp) : Prop where
  ex : ∃ f fd ps, mg x = some (.ref f) ∧ PySem.W.keepIn K (.ref f) = true ∧ Binds K fd ps [] ∧ FnOk P w K mg base (L2.CX P w) k f fd ps (lift K sp)
section
variable {c : Ctx} {e : Expr} {es : List Expr} {ρ : DEnv} {S : SS} {Q : D → SS → Prop} {pos p : Pos} {x : Str} {k : Nat} {sp : DSp}
theorem lift_use {K : PySem.W.Frag} {σ : L2.St} {H : Hp} {ds : List D} {vs : List V} {S0 : SS} {H0 : Hp} (d1 : Ds c σ H ρ S) (s1 : Stp H0 S0 H S) (r : Reps c.X.K (im H S) ds vs) (q : sp ds S Q fun cls d S' => c.DX cls d ρ S') : lift c.X.K sp vs H (pst c.X.K H0 S0 Q) (WE c.W σ) :=
  ⟨ds, S, Q, fun cls d S' => c.DX cls d ρ S', r, d1.sim, q, fun d S' v H' hq rv m st => ⟨d, S', rv, m, s1.trans st, hq⟩, fun cls dd S' H' hq m st => d1.ex cls dd σ H' ρ S' hq (d1.sl.step st) m st⟩
theorem je_call (F : Fn c.X.prog c.X.w c.X.K c.X.mg c.X.base k x sp) (hr : Room k c.X.A) (h : JA c (e :: es) ρ S fun ds S1 => sp ds S1 Q fun cls d S' => c.DX cls d ρ S') (hg : Gl c.X x := by rfl) (hdb : (x == ("__debug__" : Str)) = false := by decide)
    (he : starEach (e :: es) c.X.env = (false, eval e c.X.env) :: starEach es c.X.env := by rfl) (hpl : (backTo pos (starEach es c.X.env)).any (·.1) = false := by rfl) : JE c (.Call (.Name x p) (e :: es) [] pos) ρ S Q := by
  obtain ⟨f, fd, ps, hm, hk, hb, F⟩ := F.ex
  exact JE.of (pe_callS F hr hg hm hk hb (passAt c.tk) PAt hdb he hpl) fun σ H ds => h.then ds fun dsa S1 vs H1 r d1 s1 q => lift_use (K := c.X.K) d1 s1 r q
theorem je_call0 (F : Fn c.X.prog c.X.w c.X.K c.X.mg c.X.base k x sp) (hr : Room k c.X.A) (h : sp [] S Q fun cls d S' => c.DX cls d ρ S') (hg : Gl c.X x := by rfl) (hdb : (x == ("__debug__" : Str)) = false := by decide) : JE c (.Call (.Name x p) [] [] pos) ρ S Q := by
  obtain ⟨f, fd, ps, hm, hk, hb, F⟩ := F.ex
  intro σ H ds pins s I
  refine wpAny_Call_Name_kw (ld_glob I hg hm ?_ hdb)
  exact PySem.W.callWith_K0 I.kIn hk (run_fnS (us := []) (E := WE c.W) F hr hb (passAt c.tk σ) I .nil (lift_use (K := c.X.K) ds Stp.refl Reps.nil h))
end
def startD : List Str → List D → DEnv
  | [], _ => []
  | _ :: N, [] => none :: startD N []
  | _ :: N, d :: ds => some d :: startD N ds
/-- the context of a def's body -/
def fnC (P : Program) (w : World) (K : PySem.W.Frag) (mg : Str → Option Value) (base : Heap) (N : List Str) (qual : Str) (st : Stmt) (f : Addr) (cdv : Value) (A : Around) (outer : List Env) (s : Shared) (H : Hp) (E : XK) (Ed : Value → Option Addr → SS → Prop) : Ctx where
  X := cxOf (L2.CX P w) P w K mg base N qual (defScope st) f cdv A outer s H E
  W := fun cls d _ H' => E cls d H'
  tk := takes_of rfl rfl rfl rfl
  DX := fun cls d _ S' => Ed cls d S'
theorem fnC_po {P : Program} {w : World} {K : PySem.W.Frag} {mg : Str → Option Value} {base : Heap} {N : List Str} {qual : Str} {st : Stmt} {f : Addr} {cdv : Value} {A : Around} {outer : List Env} {s : Shared} {H : Hp} {E : XK} {Ed : Value → Option Addr → SS → Prop} :
    PassesOwn (model (fnC P w K mg base N qual st f cdv A outer s H E Ed).X.prog (fnC P w K mg base N qual st f cdv A outer s H E Ed).X.w) (fnC P w K mg base N qual st f cdv A outer s H E Ed).X.A (fnC P w K mg base N qual st f cdv A outer s H E Ed).X.env (fnC P w K mg base N qual st f cdv A outer s H E Ed).X.xe := passes_of rfl
theorem start_none {K : PySem.W.Frag} {H : Hp} {S : SS} : ∀ (N : List Str) {i : Nat} {d : D}, (startD N [])[i]? = some (some d) → False
  | [], i, d, h => by simp [startD] at h
  | _ :: N, 0, d, h => by simp [startD] at h
  | _ :: N, i + 1, d, h => start_none (K := K) (H := H) (S := S) N (i := i) (d := d) (by simpa [startD] using h)
theorem startD_len : ∀ (N : List Str) (ds : List D), (startD N ds).length = N.length
  | [], _ => rfl
  | _ :: N, [] => by simp [startD, startD_len N []]
  | _ :: N, d :: ds => by simp [startD, startD_len N ds]
theorem start_sl {K : PySem.W.Frag} {H : Hp} {S : SS} {N : List Str} {ds : List D} {vs : List V} (r : Reps K (im H S) ds vs) (hl : ds.length ≤ N.length) : Sl K H S (L2.start N vs) (startD N ds) := by
  have hlen := r.length
  refine ⟨?_, fun i d h => ?_⟩
  · rw [startD_len]
    unfold L2.start
    rw [List.length_append, List.length_map, List.length_replicate]
    omega
  · have key : ∀ (N : List Str) (ds : List D) (vs : List V) (i : Nat) (d : D), Reps K (im H S) ds vs → ds.length ≤ N.length → (startD N ds)[i]? = some (some d) → ∃ v, (vs.map some ++ List.replicate (N.length - vs.length) none)[i]? = some (some v) ∧ Rep K (im H S) d v := by
      intro N
      induction N with
      | nil => intro ds vs i d r hl h; simp [startD] at h
      | cons n N ih =>
        intro ds vs i d r hl h
        cases ds with
        | nil => exact (start_none (K := K) (H := H) (S := S) (n :: N) h).elim
        | cons d0 ds =>
          unfold Reps at r
          obtain ⟨v, t, rfl, r1, r2⟩ := r
          cases i with
          | zero =>
            simp [startD] at h
            subst h
            exact ⟨v, by simp, r1⟩
          | succ i =>
            obtain ⟨v', e1, e2⟩ := ih ds t i d r2 (by simpa using hl) (by simpa [startD] using h)
            refine ⟨v', ?_, e2⟩
            have e3 : (n :: N).length - (v :: t).length = N.length - t.length := by simp
            rw [e3]
            simpa using e1
    exact key N ds vs i d r hl h
/-- THE RULE for a def -/
theorem fn_mk {P : Program} {w : World} {K : PySem.W.Frag} {mg : Str → Option Value} {base : Heap} {x nm qual : Str} {st : Stmt} {f : Addr} {fd : FuncData} {N ps : List Str} {k : Nat} {sp : DSp} (F : Fun K nm qual st f fd) (hm : mg x = some (.ref f)) (hb : Binds K fd ps [])
    (Sc : FnScope N ps (defScope st)) (hl : ∀ ds S Q E, sp ds S Q E → ds.length = ps.length)
    (body : ∀ (cdv : Value) (A : Around) (outer : List Env) (s : Shared) (H : Hp) (E : XK) (Ed : Value → Option Addr → SS → Prop) (ds : List D) (S : SS) (Q : D → SS → Prop), Room k (fnC P w K mg base N qual st f cdv A outer s H E Ed).X.A → sp ds S Q Ed →
      JSs (fnC P w K mg base N qual st f cdv A outer s H E Ed) (defBody st) (startD N ds) S (fun _ S' => Q .non S') Q (fun _ _ => False) (fun _ _ => False)) : Fn P w K mg base (k + 1) x sp := by
  refine ⟨f, fd, ps, hm, F.kp, hb, F.okX Sc (fun vs H Q E ⟨ds, S, Qd, Ed, r, _, h, _⟩ => by rw [← r.length]; exact hl ds S Qd Ed h) fun cdv A outer s H vs Q E hr ⟨ds, S, Qd, Ed, r, m, h, hQ, hE⟩ => ?_⟩
  have hps : ps.length ≤ N.length := by
    have := congrArg List.length Sc.pre
    rw [List.length_take] at this
    omega
  have sl : Sl K H S (L2.start N vs) (startD N ds) := start_sl r (by rw [hl ds S Qd Ed h]; exact hps)
  have j := body cdv A outer s H E Ed ds S Qd hr h
  refine ⟨_, PSst, tSs_mono (j (L2.start N vs) H ⟨sl, m, fun cls d σ' H' ρ' S' q _ m' st' => hE cls d S' H' q m' st', fun cls d σ' H' S' q m' st' => hE cls d S' H' q m' st'⟩) ⟨fun σ' H' ⟨ρ', S', _, m', st', q⟩ => hQ .non S' .non H' q (rep_non.mpr rfl) m' st', fun v H' ⟨d, S', rv, m', st', q⟩ => hQ d S' v H' q rv m' st', fun σ' H' ⟨_, _, _, _, _, q⟩ => q.elim, fun σ' H' ⟨_, _, _, _, _, q⟩ => q.elim⟩⟩
end DP

namespace PySem
open AutoSeq1 (wpAny_loadPart')
set_option maxHeartbeats 1000000 in
theorem dp_enum_newB {v : Value} {o : Obj} {H : Heap → Prop} (B : Begins v o H) :
    Meets (Builtin.«enumerate.__new__» ⟨[.type "enumerate", v], []⟩) (fun _ R s => H s.heap ∧
      R (.ok (.ret (.ref (s.heap.push o).objs.size))) { s with heap := (s.heap.push o).push { cls := .type "enumerate", data := .fields #[.none, .bool false, .ref s.heap.objs.size, rawInt 0, .none, .none] } }) :=
  .of_wp fun prog w A R s h => by
    obtain ⟨hp, g, d, tk, os⟩ := s; obtain ⟨h1, h⟩ := h
    have hsub := sub_enumerate
    have q1 : ∀ {A' : Around} {E : Value → Shared → Prop} {Q : Value → Shared → Prop}, Q (.ref hp.objs.size) ⟨hp.push o, g, d, tk, os⟩ → wpAny (model prog w) A' (pyIter v) Q E ⟨hp, g, d, tk, os⟩ :=
      fun q => B.iter prog w _ _ ⟨hp, g, d, tk, os⟩ _ h1 q
    wp_walk using q1
    refine wpAny_stack_any fun st => wpAny_pure ?_
    split
    · rename_i c _ _ _ _ _
      cases (c == Value.type "enumerate")
      · wp_walk using q1
        exact ⟨_, rfl, h⟩
      · wp_walk using q1
        exact ⟨_, rfl, h⟩
    · wp_walk using q1
      exact ⟨_, rfl, h⟩
theorem dp_call_enum {prog : Program} {w : World} {A : Around} {E : Value → Shared → Prop} {s : Shared} {v : Value} {o : Obj} {H : Heap → Prop} {Q : Value → Shared → Prop} (B : Begins v o H) (h1 : H s.heap)
    (h : ∀ h', IsEnum h' (s.heap.objs.size + 1) s.heap.objs.size 0 .none → h'.get? s.heap.objs.size = some o → h'.objs.size = s.heap.objs.size + 2 →
      (∀ b o, s.heap.get? b = some o → h'.get? b = some o) → Q (.ref (s.heap.objs.size + 1)) { s with heap := h' }) :
    wpAny (model prog w) A (call (.type "enumerate") [v]) Q E s := by
  refine callType_new F.called_enumerate (by decide) (F.typeCall_enumerate_1 _) (F.newCall_enumerate_1 _) (fun obj => F.args_object_init_2 obj _) F.entry_enumerate_new
    (dp_enum_newB B) ⟨h1, ?_⟩
  have hz : (s.heap.push o).objs.size = s.heap.objs.size + 1 := Heap.size_push ..
  show _ ∧ _
  rw [hz]
  have he : IsEnum ((s.heap.push o).push { cls := .type "enumerate", data := .fields #[.none, .bool false, .ref s.heap.objs.size, rawInt 0, .none, .none] }) (s.heap.objs.size + 1) s.heap.objs.size 0 .none := by
    have := Heap.get?_push_size (s.heap.push o) (o := { cls := .type "enumerate", data := .fields #[.none, .bool false, .ref s.heap.objs.size, rawInt 0, .none, .none] }) rfl
    rw [hz] at this; exact this
  refine ⟨⟨_, he, rfl⟩, h _ he (Heap.get?_push_of_some _ (Heap.get?_push_size _ B.free)) (by rw [Heap.size_push, hz]) fun b o x => Heap.get?_push_of_some _ (Heap.get?_push_of_some _ x)⟩
end PySem
namespace DP
open PySem L2
/-! ### enumerate(tuple) -/
def IteT (K : PySem.W.Frag) (a : Addr) : It :=
  ⟨fun i H => ∃ (xs : List V) (x : V), SqT K H a xs ∧ xs[i]? = some x, fun i H v H' => ∃ T x, v = .ref T ∧ H T = none ∧ H' = upd H T (.tup [.int (i : Nat), x]) ∧ ∀ xs, SqT K H a xs → xs[i]? = some x, fun i H => ∃ xs : List V, SqT K H a xs ∧ xs.length = i⟩
theorem turn_enumT {P : Program} {w : World} {K : PySem.W.Frag} {elts : List Expr} {kk : Nat} {tpos : Pos} (a e it : Addr) :
    Turn P w K (.Tuple elts kk tpos) (IteT K a) [e, it] e (fun i h => (∃ old, IsEnum h e it ((i : Nat) : Int) old) ∧ h.IsTupleIter it a i ∧ e ≠ it) where
  mem := by simp
  obj := fun i h st b hb => by
    obtain ⟨⟨old, he⟩, ⟨o, ho, hc, hd⟩, _⟩ := st
    have e' : b = e ∨ b = it := by simpa using hb
    rcases e' with z | z
    · rw [z]; exact ⟨_, he, fun v q => nomatch q⟩
    · rw [z]; exact ⟨o, ho, fun v q => by rw [hd] at q; cases q⟩
  keep := fun i h h' st k => let ⟨⟨old, he⟩, hi, hne⟩ := st; ⟨⟨old, k e (by simp) _ he⟩, hi.at fun o q => k it (by simp) o q, hne⟩
  item := by
    intro X hP hw hK hc i pins s σ H E I hf st hg
    subst hP hw hK
    obtain ⟨⟨old, he⟩, hit, hne⟩ := st
    obtain ⟨xs, x, hq, hx⟩ := hg
    obtain ⟨its, rv, p, hz⟩ := I.tuple hq
    obtain ⟨u, hu, ru⟩ := rv.get hx
    have hel : e < s.heap.objs.size := Heap.lt_size he
    have hil : it < s.heap.objs.size := by obtain ⟨_, q, _⟩ := hit; exact Heap.lt_size q
    have hia : a ≠ it := fun z => by
      subst z
      obtain ⟨o1, q1, q2, _⟩ := hit
      obtain ⟨o2, q3, q4, _⟩ := p
      rw [q1] at q3; cases q3
      rw [q2] at q4
      exact absurd q4 (by decide)
    have hea : e ≠ a := fun z => by
      subst z
      obtain ⟨o2, q3, q4, _⟩ := p
      rw [show s.heap.get? e = some _ from he] at q3; cases q3
      exact absurd (Value.type.inj q4) (by decide)
    have hlt : i < its.toArray.size := by
      obtain ⟨hi, _⟩ := List.getElem?_eq_some_iff.mp hu
      simpa using hi
    refine wpAny_pyNext_enum_itemD (Draws.tuple (A := X.A.in1) (I.ok.hd hc) it a hia its.toArray) he ⟨hit, p⟩ hlt hne (by simp only [List.mem_cons, List.not_mem_nil, or_false, not_or]; exact ⟨hne, hea⟩) fun y h' tk hy ho hit' hT hsz hk => ?_
    have ey : y = u := by
      have : its.toArray[i]? = some y := hy
      rw [show its.toArray[i]? = its[i]? by simp] at this
      rw [hu] at this; exact (Option.some.inj this).symm
    subst ey
    refine ⟨_, rfl, wpAny_letOwnedTupleGo_enum (s := { s with heap := h', toks := tk + 1 }) ho fun h'' he' sb => ?_⟩
    have hT2 : h''.get? s.heap.objs.size = some { cls := .type "tuple", data := .seq #[.int i tk, y] } := (sb.2 _ (Nat.ne_of_gt hel)).trans hT
    have new : ObjOk X.prog X.w (upd H s.heap.objs.size (.tup [.int (i : Nat), x])) h'' s.heap.objs.size (.tup [.int (i : Nat), x]) :=
      ⟨by show 2 ≤ sizeLine; decide, [.int i tk, y], .cons ⟨_, rfl⟩ (.cons ru .nil), ⟨_, hT2, rfl, _, rfl⟩⟩
    have I1 : L2.Inv X pins σ (upd H s.heap.objs.size (.tup [.int (i : Nat), x])) { s with heap := h'', toks := tk + 1 } :=
      I.turnedNew (ch := [e, it]) (fun b ob hb q => (sb.2 b (fun z => hb (by simp [z]))).trans (hk b ob (fun z => hb (by simp [z])) (fun z => hb (by simp [z])) q)) hf (Nat.le_refl _) new
    refine ⟨.ref s.heap.objs.size, _, I1, rfl, ⟨_, x, rfl, I.hok.fresh (Nat.le_refl _), rfl, fun ys hy => by rw [I.tuple_inj hy hq]; exact hx⟩, ⟨⟨y, ?_⟩, hit'.1.at fun o q => (sb.2 it (Ne.symm hne)).trans q, hne⟩, fun b hb => ?_⟩
    · have e1 : ((i + 1 : Nat) : Int) = (i : Int) + 1 := by omega
      rw [e1]; exact he'
    · have hb' : b < s.heap.objs.size := by
        have e' : b = e ∨ b = it := by simpa using hb
        rcases e' with z | z
        · rw [z]; exact hel
        · rw [z]; exact hil
      rw [upd_ne (Nat.ne_of_lt hb')]
      exact (hf b hb).1
  done := by
    intro X hP hw hK hc i pins s σ H E I hf st hg
    subst hP hw hK
    obtain ⟨⟨old, he⟩, hit, hne⟩ := st
    obtain ⟨xs, hq, hx⟩ := hg
    obtain ⟨its, rv, p, hz⟩ := I.tuple hq
    have hl := rv.length
    have hia : a ≠ it := fun z => by
      subst z
      obtain ⟨o1, q1, q2, _⟩ := hit
      obtain ⟨o2, q3, q4, _⟩ := p
      rw [q1] at q3; cases q3
      rw [q2] at q4
      exact absurd q4 (by decide)
    have hi : its.toArray.size = i := by rw [List.size_toArray]; omega
    obtain ⟨f0, f1, f2, f3, f4, f5⟩ := hf it (by simp)
    refine wpAny_pyNext_enum_endD (n := its.toArray.size) (Draws.tuple (A := X.A.in1) (I.ok.hd hc) it a hia its.toArray) he ⟨by rw [hi]; exact hit, p⟩ fun h' eb => ⟨rfl, I.turned (t' := s.toks) (fun b o hb q => eb b o hb q) f0 f1 f3 f4 f5⟩
  self := fun A i s Q E st h => let ⟨⟨_, he⟩, _⟩ := st; wpAny_pyIter_enum he h
def iEnumT (K : PySem.W.Frag) (ta : TA) : TI := fun σ H R => ta σ H fun vs H1 => ∃ a xs, vs = [.ref a] ∧ SqT K H1 a xs ∧ R (IteT K a) H1
theorem pi_enumT {X : Cx} {e : Expr} {ta : TA} {p pos tpos : Pos} {elts : List Expr} {kk : Nat} (hg : Gl X "enumerate") (hm : X.mg "enumerate" = none) (ha : PA X [e] ta) (hs : starEach [e] X.env = [(false, eval e X.env)] := by rfl) :
    PI X (.Tuple elts kk tpos) (.Call (.Name "enumerate" p) [e] [] pos) (iEnumT X.K ta) := by
  refine ⟨fun pins s σ H R I h => ?_⟩
  refine PyProof.Rows.Call_ (ld_blt I hg hm PyProof.Rows.boot_enumerate (PyProof.Rows.callWith_type1 (thn (ha.run pos pins s σ H _ I h) fun us s1 ⟨vs, H1, I1, r1, q1⟩ => ?_) hs rfl))
  obtain ⟨a, xs, ex, hq, q⟩ := q1
  subst ex
  cases r1 with
  | cons r rr =>
    cases rr
    cases r
    obtain ⟨its, rv, p', hz⟩ := I1.tuple hq
    refine dp_call_enum (begins_tuple a its.toArray) p' fun h' he hit hsz hk => wpAny_pyIter_enum he ?_
    have I2 : L2.Inv X pins σ H1 { s1 with heap := h' } := I1.kept (t' := s1.toks) hk
    refine ⟨s1.heap.objs.size + 1, [s1.heap.objs.size + 1, s1.heap.objs.size], _, _, H1, rfl, I2, turn_enumT a (s1.heap.objs.size + 1) s1.heap.objs.size, ⟨⟨.none, he⟩, ⟨_, hit, rfl, rfl⟩, Nat.succ_ne_self _⟩, fun b hb => ?_, q⟩
    have e' : b = s1.heap.objs.size + 1 ∨ b = s1.heap.objs.size := by simpa using hb
    have hle : s1.heap.objs.size ≤ b := by
      rcases e' with z | z
      · rw [z]; exact Nat.le_add_right _ _
      · rw [z]; exact Nat.le_refl _
    exact I1.fpOk hle (I1.hok.fresh hle)
section
variable {c : Ctx} {a e : Expr} {es : List Expr} {ρ : DEnv} {S : SS} {R : List D → (SS → Prop) → SS → Prop} {Q : D → SS → Prop} {pos : Pos}
theorem ji_enumT {elts : List Expr} {kk : Nat} {tpos p : Pos} (hm : c.X.mg "enumerate" = none) (h : JE c a ρ S fun x S1 => ∃ xs, x = .tup xs ∧ R (enums xs) (fun _ => True) S1) (hg : Gl c.X "enumerate" := by rfl) (hs : starEach [a] c.X.env = [(false, eval a c.X.env)] := by rfl) : JI c (.Tuple elts kk tpos) (.Call (.Name "enumerate" p) [a] [] pos) ρ S R :=
  JI.of (pi_enumT hg hm (pa_cons PEt pa_nil hs) hs) fun σ H ds => h.then ds fun x S1 v H1 r1 d1 s1 ⟨xs, hx, q⟩ => by
    subst hx
    obtain ⟨a, vs, rfl, h1, h2⟩ := rep_tup.mp r1
    refine ⟨a, vs, rfl, sub_im.t h1, _, _, S1, d1.sim, s1, fun H2 S2 m2 st _ i => ⟨fun d hd => ?_, fun hle hl => ?_⟩, q⟩
    · have hs : SqT c.X.K H2 a vs := sub_im.t (Sub.t st h1)
      unfold enums at hd
      rw [List.getElem?_mapIdx] at hd
      cases e0 : xs[i]? with
      | none => rw [e0] at hd; cases hd
      | some d0 =>
        rw [e0] at hd
        cases hd
        obtain ⟨z, hz, rz⟩ := h2.get e0
        refine ⟨⟨vs, z, hs, hz⟩, fun x H' y => ?_⟩
        obtain ⟨T, x0, e1, e2, e3, e4⟩ := y
        have := e4 vs hs
        rw [hz] at this; cases this
        rw [e1]
        exact pair_ok m2 e2 e3 (rep_int.mpr rfl) (rz.mono st)
    · refine ⟨vs, sub_im.t (Sub.t st h1), ?_⟩
      rw [hl]
      unfold enums
      rw [List.length_mapIdx]
      exact h2.length.symm
end
/-! ### t[::-1] of a tuple -/
theorem sliceApplied_rev {prog : Program} {w : World} {A : Around} {E : Value → Shared → Prop} {s : Shared} {sl : Addr} {vs : Value} {n : Nat} {Q : Int × Int × Nat → Shared → Prop} (hs : s.heap.IsSliceOf sl .none .none vs) (pk : IsPart vs (some (-1)))
    (h : Q ((n : Int) - 1, -1, n) s) : wpAny (model prog w) A (Builtin.Slice.sliceApplied (.ref sl) (pure (n : Int))) Q E s := by
  obtain ⟨os, hos, hcs, hds⟩ := id hs
  unfold Builtin.Slice.sliceApplied Builtin.Slice.sliceFields
  refine wpAny_bind (wpAny_bind (wpAny_field hos hds (x := .none) rfl (wpAny_bind (wpAny_field hos hds (x := .none) rfl (wpAny_bind (wpAny_field hos hds (x := vs) rfl (wpAny_pure ?_)))))))
  refine wpAny_bind (HT.slicePart_ pk ?_)
  show wpAny _ _ (if ((-1 : Int) == 0) = true then _ else _) _ _ s
  rw [if_neg (by decide)]
  refine wpAny_bind (PyProof.Rows.slicePart_none (wpAny_bind (PyProof.Rows.slicePart_none (wpAny_bind (wpAny_pure ?_)))))
  show wpAny _ _ (match Builtin.Slice.sliceAdjust none none (-1) (n : Int) with | (lo, hi) => pure (lo, (-1 : Int), Builtin.Slice.slicePlaces lo hi (-1))) _ _ s
  have e1 : Builtin.Slice.sliceAdjust none none (-1) (n : Int) = ((n : Int) - 1, -1) := by
    unfold Builtin.Slice.sliceAdjust
    simp
  rw [e1]
  show wpAny _ _ (pure ((n : Int) - 1, (-1 : Int), Builtin.Slice.slicePlaces ((n : Int) - 1) (-1) (-1))) _ _ s
  have e2 : Builtin.Slice.slicePlaces ((n : Int) - 1) (-1) (-1) = n := by
    unfold Builtin.Slice.slicePlaces
    cases n with
    | zero => decide
    | succ n => simp; omega
  rw [e2]
  exact wpAny_pure h
theorem fm_congr {α β : Type} {f g : α → Option β} : ∀ (l : List α), (∀ x ∈ l, f x = g x) → l.filterMap f = l.filterMap g
  | [], _ => rfl
  | x :: xs, h => by
    have h1 := h x List.mem_cons_self
    have h2 := fm_congr xs fun y hy => h y (List.mem_cons_of_mem _ hy)
    rw [List.filterMap_cons, List.filterMap_cons, h1, h2]
theorem pick_rev (xs : Array Value) : ((List.range xs.size).filterMap fun (m : Nat) => xs[(((xs.size : Int) - 1) + (m : Int) * (-1)).toNat]?).toArray = xs.toList.reverse.toArray := by
  have e : ((List.range xs.size).filterMap fun (m : Nat) => xs[(((xs.size : Int) - 1) + (m : Int) * (-1)).toNat]?) = ((List.range xs.size).map fun k => xs.size - 1 - k).filterMap (xs[·]?) := by
    rw [List.filterMap_map]
    refine fm_congr _ fun m hm => ?_
    show xs[(((xs.size : Int) - 1) + (m : Int) * (-1)).toNat]? = xs[xs.size - 1 - m]?
    have hm' : m < xs.size := List.mem_range.mp hm
    have : (((xs.size : Int) - 1) + (m : Int) * (-1)).toNat = xs.size - 1 - m := by omega
    rw [this]
  rw [e, PySem.W.krv_range, List.filterMap_reverse, PySem.W.krv_all]
theorem getItem_tuple_rev {prog : Program} {w : World} {A : Around} {E : Value → Shared → Prop} {s : Shared} {t sl : Addr} {items : Array Value} {vs : Value} {Q : Value → Shared → Prop} (ht : PyProof.Rows.IsTup s.heap t items) (hs : s.heap.IsSliceOf sl .none .none vs) (pk : IsPart vs (some (-1)))
    (h : Q (.ref s.heap.objs.size) { s with heap := s.heap.push { cls := .type "tuple", data := .seq items.toList.reverse.toArray } })
    (hsz : items.size ≤ sizeLine) : wpAny (model prog w) A (getItem (.ref t) (.ref sl)) Q E s := by
  have htake : sizeOk (.seq items.toList.reverse.toArray) := by
    show items.toList.reverse.toArray.size ≤ sizeLine
    rw [List.size_toArray, List.length_reverse, Array.length_toList]
    exact hsz
  obtain ⟨os, hos, hcs, hds⟩ := id hs
  have hTs : s.TypeIs (.ref sl) "slice" := ⟨os, hos, hcs⟩
  unfold getItem
  try with_reducible refine wpAny_holding ?_
  first | refine wpAny_bind (wpAny_pure ?_) | skip
  refine wpAny_bind (wpAny_sequenceKey ht.typeIs (by decide) ?_)
  refine wpAny_bind (wpAny_callSpecial?_slot (name := Str.ofString "__getitem__") ht.typeIs PyProof.Rows.slot_tuple_getitem
    (wpAny_call_entry PyProof.Rows.slot_tuple_getitem ht.typeIs PyProof.Rows.entry_tuple_getitem ?_ (PyProof.Rows.args_tuple_getitem _ _)))
  show wpAny _ _ (Builtin.Tuple.tupleItemsOf (.ref t) >>= _) _ _ s
  refine wpAny_bind (PyProof.Rows.tupleItemsOf_ ht ?_)
  refine wpAny_bind (wpAny_typeOf hTs ?_)
  rw [if_pos (by decide)]
  refine wpAny_bind (sliceApplied_rev hs pk ?_)
  have hno : ¬ ((((items.size : Int) - 1) == 0 && (-1 : Int) == 1 && items.size == items.size) = true) := by
    intro q
    rw [Bool.and_eq_true, Bool.and_eq_true] at q
    exact absurd q.1.2 (by decide)
  show wpAny _ _ (if (((items.size : Int) - 1) == 0 && (-1 : Int) == 1 && items.size == items.size) = true then _ else _) _ _ s
  rw [if_neg hno, pick_rev]
  first
    | exact wpAny_bind (m := Builtin.Tuple.tupleExact _) (wpAny_newObj_type (wpAny_pure ⟨_, rfl, wpAny_pure h⟩) htake)
    | exact wpAny_bind (m := Builtin.Tuple.tupleExact _) (wpAny_newObj_type (wpAny_bind (wpAny_pure (wpAny_pure ⟨_, rfl, wpAny_pure h⟩))) htake)
    | exact wpAny_bind (wpAny_bind (m := Builtin.Tuple.tupleExact _) (wpAny_newObj_type (wpAny_pure (wpAny_pure ⟨_, rfl, wpAny_pure h⟩)) htake))
    | exact wpAny_bind (wpAny_bind (m := Builtin.Tuple.tupleExact _) (wpAny_newObj_type (wpAny_pure ⟨_, rfl, wpAny_pure h⟩) htake))
def tRevT (K : PySem.W.Frag) (te : TE) : TE := fun σ H Q => te σ H fun x H1 => ∃ a xs, x = .ref a ∧ SqT K H1 a xs ∧ ∀ p, H1 p = none → Q (.ref p) (upd H1 p (.tup xs.reverse))
theorem pe_revT {X : Cx} {pos : Pos} {e : Expr} {te : TE} {k : Nat} {p1 p2 p3 : Pos} (he : PE X e te) : PE X (.Subscript e (.Slice none none (some (.UnaryOp .USub (.Constant (.int 1) k p1) p2)) p3) pos) (tRevT X.K te) := by
  refine ⟨fun pins s σ H Q I h => ?_⟩
  refine PyProof.Rows.Subscript_ (thn (he.run pins s σ H _ I h) fun v s1 ⟨x, H1, I1, r1, q1⟩ => ?_)
  obtain ⟨a, xs, ex, hx, q⟩ := q1
  subst ex
  cases r1
  have hst : PO X (some (.UnaryOp .USub (.Constant (.int 1) k p1) p2)) (tPart (tUn (rU fun i => .int (-i)) (L2.tC (.int 1)))) := po_some (pe_un un_neg pe_int)
  refine wpAny_Slice (thn (po_none.run pins s1 σ H1 (fun o H2 => o = none ∧ H2 = H1) I1 ⟨rfl, rfl⟩) fun vl s2 ⟨l, H2, I2, pl, el, e2⟩ => ?_)
  subst el e2
  refine thn (po_none.run pins s2 σ H2 (fun o H3 => o = none ∧ H3 = H2) I2 ⟨rfl, rfl⟩) fun vu s3 ⟨u, H3, I3, pu, eu, e3⟩ => ?_
  subst eu e3
  refine thn (hst.run pins s3 σ H3 (fun o H4 => o = some (-1) ∧ H4 = H3) I3 ⟨1, rfl, -1, rfl, rfl, rfl⟩) fun vs s4 ⟨o, H4, I4, ps, eo, e4⟩ => ?_
  subst eo e4
  have I5 : L2.Inv X pins σ H4 { s4 with heap := s4.heap.push { cls := .type "slice", data := .fields #[vl, vu, vs] } } := I4.kept (t' := s4.toks) fun b ob q => Heap.get?_push_of_some _ q
  obtain ⟨its, r, ht, hz⟩ := I5.tuple hx
  have hlen := r.length
  cases pl
  cases pu
  show wpAny (model X.prog X.w) X.A (PyProof.Rows.subscriptTail e (.Slice none none (some (.UnaryOp .USub (.Constant (.int 1) k p1) p2)) p3) (.ref a) (.ref s4.heap.objs.size)) (EP X pins σ Q) X.xe { s4 with heap := s4.heap.push { cls := .type "slice", data := .fields #[.none, .none, vs] } }
  refine PyProof.Rows.tail_any (ops := [.ref a, .ref s4.heap.objs.size]) ht.typeIs PyProof.Rows.slot_tuple_getitem.lookup ?_ (by with_unfolding_all rfl)
  refine getItem_tuple_rev ht (Heap.IsSliceOf.new _ .none .none vs) ps ?_ (by rw [List.size_toArray]; omega)
  refine ⟨.ref _, _, I5.laid (t' := s4.toks) (o := .tup xs.reverse) (fun b ob q => Heap.get?_push_of_some _ q) (Nat.le_refl _) ?_, rfl, q _ (I5.hok.fresh (Nat.le_refl _))⟩
  exact ⟨by rw [List.length_reverse]; exact hz, _, r.reverse, PyProof.Rows.IsTup.new _ _⟩
section
variable {c : Ctx} {a e : Expr} {es : List Expr} {ρ : DEnv} {S : SS} {Q : D → SS → Prop} {pos : Pos}
theorem je_revT {k : Nat} {p1 p2 p3 : Pos} (h : JE c e ρ S fun x S1 => ∃ xs, x = .tup xs ∧ Q (.tup xs.reverse) S1) : JE c (.Subscript e (.Slice none none (some (.UnaryOp .USub (.Constant (.int 1) k p1) p2)) p3) pos) ρ S Q :=
  JE.of (pe_revT PEt) fun σ H ds => h.then ds fun x S1 v H1 r1 d1 s1 ⟨xs, hx, q⟩ => by
    subst hx
    obtain ⟨p, vs, rfl, h3, h4⟩ := tup_sq r1
    refine ⟨p, vs, rfl, h3, fun a ha => ?_⟩
    obtain ⟨st, sm, e⟩ := d1.sim.new (o := .tup vs.reverse) ha
    exact ⟨_, S1, rep_tup.mpr ⟨a, _, rfl, SqT.of e, h4.reverse.mono st⟩, sm, s1.trans st, q⟩
/-- isinstance against a tuple of built-in types -/
theorem isiT_ok {X : Cx} : CallR X (.builtin "isinstance") (fun xs H Q => ∃ (x : V) (tp : Addr) (cs : List V) (t : Value) (us : List Value) (b : Bool), xs = [x, .ref tp] ∧ SqT X.K H tp cs ∧ Paired ClsV cs us ∧ TyX X.K H x t ∧ PySem.W.kitAny X.K t us = some b ∧ Q (.bl b) H) := by
  intro pins s σ H xs us Q I r h
  obtain ⟨x, tp, cs, t, ws, b, rfl, hT, k, ty, e, q⟩ := h
  obtain ⟨u1, u2, rfl, r1, r2⟩ := vals2 r
  cases (show u2 = Value.ref tp from r2)
  obtain ⟨P, Z, p, hx⟩ := kit_of I r1 ty
  obtain ⟨its, rv, ⟨o, h1, h2, n, h3⟩, _⟩ := I.tuple hT
  have e3 := ClsV.all k rv
  subst e3
  obtain ⟨oc, od, dt, sl⟩ := o
  simp only at h2 h3
  subst h2 h3
  exact PySem.W.kia_tup Z I.kIn p h1 e hx fun tk => ⟨.bl b, H, I.tok tk, rfl, q⟩
def kitBs (n : String) : List String → Option Bool
  | [] => some false
  | m :: ms => match kitB n m with
    | some true => some true
    | some false => kitBs n ms
    | none => none
theorem kitBs_ok {K : PySem.W.Frag} {n : String} : ∀ {ms : List String} {b : Bool}, kitBs n ms = some b → PySem.W.kitAny K (.type n) (ms.map Value.type) = some b
  | [], b, h => h
  | m :: ms, b, h => by
    have h' : (match kitB n m with | some true => some true | some false => kitBs n ms | none => none) = some b := h
    show (match PySem.W.kitOne K (.type n) (.type m) with | some true => some true | some false => PySem.W.kitAny K (.type n) (ms.map Value.type) | none => none) = some b
    cases e : kitB n m with
    | none => rw [e] at h'; cases h'
    | some k =>
      rw [e] at h'
      rw [kit_ty e]
      cases k with
      | true => exact h'
      | false => exact kitBs_ok h'
theorem cd_isiTs {x : D} {n : String} {ms : List String} {b : Bool} (h : tyN S x = some n) (hk : kitBs n ms = some b) (q : Q (.bl b) S) : CD c (.builtin "isinstance") [x, .tup (ms.map D.ty)] S Q :=
  CD.of isiT_ok fun H vs sm r => by
    obtain ⟨v, w, rfl, r1, r2⟩ := reps2 r
    obtain ⟨tp, cs, rfl, h1, h2⟩ := tup_sq r2
    obtain ⟨e1, e2⟩ := tys_ok h2
    exact ⟨v, tp, cs, _, _, b, rfl, h1, e2, tyN_ok h r1 sm, kitBs_ok hk, pst_same sm (rep_bl.mpr rfl) q⟩
end
end DP

namespace DP
open PySem L2
/-! ### the law itself -/
def spLaw : DSp := fun ds S Q _ => ∃ ns : List Int, ds = [.fl (ns.map D.int)] ∧ ns.length ≤ 63 ∧ (∀ z ∈ ns, Builtin.Int.intBits z ≤ 1048576) ∧ S = (fun _ => none) ∧ ∀ S', Q (.bl true) S'
theorem law_walk {l : PySem.W.OpenLaw} {k : Nat} {q : Program} {loose : List Str} {XP : (Str → Option Value) → Heap → Prop} {YP : World → Heap → Prop} {d : DefRec} {K : Params → PySem.W.Frag} {x : Str}
    (hn : l.most = some 63) (hdf : d.params.defaults = []) (hr : Room k callerA)
    (hY : ∀ (w : World) (h : Heap), YP w h → (K w.params).In h)
    (F : ∀ (w : World) (mg : Str → Option Value) (fa : Addr) (h : Heap), (K w.params).In h → h.Ns mainGlobals mg → mg d.name = some (.ref fa) →
      ∃ fd : FuncData, (∀ (s : Shared) (u : Value), BindsTo s fd ⟨[u], []⟩ [(x, u)]) ∧
        ∀ base : Heap, (K w.params).In base → base.Ns mainGlobals mg → FnOk l.prog w (K w.params) mg base (L2.CX l.prog w) k fa fd [x] (lift (K w.params) spLaw)) :
    PySem.W.WalkO q loose XP YP l.row.toRowW d [] (fun f vs => PySem.call f vs) :=
  L2.walk_ofB (n := 63) (k := k) (x := x) (CX := fun w => L2.CX l.prog w) (sp := fun w => lift (K w.params) spLaw) hn (by decide) hdf hr hY F (fun w H a ns hl hb _ hs => by
      refine ⟨[.fl (ns.map D.int)], fun _ => none, fun d _ => d = .bl true, fun _ _ _ => False, ?_, (fun a o h => nomatch h), ⟨ns, rfl, hl, hb, rfl, fun _ => rfl⟩, fun d S' v H' hq r _ _ => ?_, fun _ _ _ _ z _ _ => z.elim⟩
      · exact Reps.cons (rep_fl.mpr ⟨a, _, rfl, sql_im hs rfl, reps_ints'⟩) Reps.nil
      · subst hq
        exact rep_bl.mp r)
    fun w H s e s' z => by
      obtain ⟨_, _, _, _, _, _, _, _, _, _, _, _, z⟩ := z
      exact z.elim
theorem fn_ok {P : Program} {w : World} {K : PySem.W.Frag} {mg : Str → Option Value} {base : Heap} {nm qual : Str} {st : Stmt} {f : Addr} {fd : FuncData} {N ps : List Str} {k : Nat} {sp : DSp} (F : Fun K nm qual st f fd)
    (Sc : FnScope N ps (defScope st)) (hl : ∀ ds S Q E, sp ds S Q E → ds.length = ps.length)
    (body : ∀ (cdv : Value) (A : Around) (outer : List Env) (s : Shared) (H : Hp) (E : XK) (Ed : Value → Option Addr → SS → Prop) (ds : List D) (S : SS) (Q : D → SS → Prop), Room k (fnC P w K mg base N qual st f cdv A outer s H E Ed).X.A → sp ds S Q Ed →
      JSs (fnC P w K mg base N qual st f cdv A outer s H E Ed) (defBody st) (startD N ds) S (fun _ S' => Q .non S') Q (fun _ _ => False) (fun _ _ => False)) : FnOk P w K mg base (L2.CX P w) (k + 1) f fd ps (lift K sp) := by
  refine F.okX Sc (fun vs H Q E ⟨ds, S, Qd, Ed, r, _, h, _⟩ => by rw [← r.length]; exact hl ds S Qd Ed h) fun cdv A outer s H vs Q E hr ⟨ds, S, Qd, Ed, r, m, h, hQ, hE⟩ => ?_
  have hps : ps.length ≤ N.length := by
    have := congrArg List.length Sc.pre
    rw [List.length_take] at this
    omega
  have sl : Sl K H S (L2.start N vs) (startD N ds) := start_sl r (by rw [hl ds S Qd Ed h]; exact hps)
  have j := body cdv A outer s H E Ed ds S Qd hr h
  refine ⟨_, PSst, tSs_mono (j (L2.start N vs) H ⟨sl, m, fun cls d σ' H' ρ' S' q _ m' st' => hE cls d S' H' q m' st', fun cls d σ' H' S' q m' st' => hE cls d S' H' q m' st'⟩) ⟨fun σ' H' ⟨ρ', S', _, m', st', q⟩ => hQ .non S' .non H' q (rep_non.mpr rfl) m' st', fun v H' ⟨d, S', rv, m', st', q⟩ => hQ d S' v H' q rv m' st', fun σ' H' ⟨_, _, _, _, _, q⟩ => q.elim, fun σ' H' ⟨_, _, _, _, _, q⟩ => q.elim⟩⟩
theorem iteT2 {A B : Prop} {b : Bool} (e : b = true) (h : A) : if b = true then A else B := by rw [if_pos e]; exact h
theorem iteF2 {A B : Prop} {b : Bool} (e : b = false) (h : B) : if b = true then A else B := by rw [if_neg (by rw [e]; exact Bool.false_ne_true)]; exact h
theorem iteN {A B : Prop} {b : Bool} (h : if b = true then B else A) : if (!b) = true then A else B := by cases b <;> exact h
/-! ### isinstance of what is known -/
def Kn (S : SS) (x : D) : Prop := (tyN S x).isSome = true
@[reducible] def isI : D → Bool
  | .int _ => true
  | .bl _ => true
  | _ => false
@[reducible] def isB : D → Bool
  | .bl _ => true
  | _ => false
@[reducible] def isInt : D → Bool
  | .int _ => true
  | _ => false
@[reducible] def isS : D → Bool
  | .str _ => true
  | _ => false
@[reducible] def isT : D → Bool
  | .tup _ => true
  | _ => false
def isLs (S : SS) (x : D) : Bool := tyN S x == some "list"
def isDc (S : SS) (x : D) : Bool := tyN S x == some "dict"
theorem tyN_cases {S : SS} {x : D} {n : String} (h : tyN S x = some n) : n = "NoneType" ∨ n = "bool" ∨ n = "int" ∨ n = "str" ∨ n = "tuple" ∨ n = "list" ∨ n = "dict" := by
  cases x with
  | non => cases h; simp
  | bl b => cases h; simp
  | int b => cases h; simp
  | str b => cases h; simp
  | ty b => cases h
  | lam f c q G => cases h
  | tup xs => cases h; simp
  | fl xs => cases h; simp
  | ref a =>
    have h' : (match S a with | some (.lst _) => some "list" | some (.dk _) => some "dict" | some (.dt _) => some "dict" | _ => none) = some n := h
    split at h' <;> first | (cases h'; simp) | cases h'
theorem tyN_ref {S : SS} {a : Addr} {n : String} (h : tyN S (.ref a) = some n) : n = "list" ∨ n = "dict" := by
  have h' : (match S a with | some (.lst _) => some "list" | some (.dk _) => some "dict" | some (.dt _) => some "dict" | _ => none) = some n := h
  split at h' <;> first | (cases h'; simp) | cases h'
section
variable {c : Ctx} {S : SS} {Q : D → SS → Prop} {x : D}
theorem cd_isI (h : Kn S x) (q : Q (.bl (isI x)) S) : CD c (.builtin "isinstance") [x, .ty "int"] S Q := by
  obtain ⟨n, hn⟩ := Option.isSome_iff_exists.mp h
  refine cd_isi hn ?_ q
  cases x <;> first | (cases hn; done) | (cases hn; first | (show kitB _ _ = some true; decide +kernel) | (show kitB _ _ = some false; decide +kernel)) | (rcases tyN_ref hn with rfl | rfl <;> first | (show kitB _ _ = some true; decide +kernel) | (show kitB _ _ = some false; decide +kernel))
theorem cd_isB (h : Kn S x) (q : Q (.bl (isB x)) S) : CD c (.builtin "isinstance") [x, .ty "bool"] S Q := by
  obtain ⟨n, hn⟩ := Option.isSome_iff_exists.mp h
  refine cd_isi hn ?_ q
  cases x <;> first | (cases hn; done) | (cases hn; first | (show kitB _ _ = some true; decide +kernel) | (show kitB _ _ = some false; decide +kernel)) | (rcases tyN_ref hn with rfl | rfl <;> first | (show kitB _ _ = some true; decide +kernel) | (show kitB _ _ = some false; decide +kernel))
theorem cd_isS (h : Kn S x) (q : Q (.bl (isS x)) S) : CD c (.builtin "isinstance") [x, .ty "str"] S Q := by
  obtain ⟨n, hn⟩ := Option.isSome_iff_exists.mp h
  refine cd_isi hn ?_ q
  cases x <;> first | (cases hn; done) | (cases hn; first | (show kitB _ _ = some true; decide +kernel) | (show kitB _ _ = some false; decide +kernel)) | (rcases tyN_ref hn with rfl | rfl <;> first | (show kitB _ _ = some true; decide +kernel) | (show kitB _ _ = some false; decide +kernel))
theorem cd_isT (h : Kn S x) (q : Q (.bl (isT x)) S) : CD c (.builtin "isinstance") [x, .ty "tuple"] S Q := by
  obtain ⟨n, hn⟩ := Option.isSome_iff_exists.mp h
  refine cd_isi hn ?_ q
  cases x <;> first | (cases hn; done) | (cases hn; first | (show kitB _ _ = some true; decide +kernel) | (show kitB _ _ = some false; decide +kernel)) | (rcases tyN_ref hn with rfl | rfl <;> first | (show kitB _ _ = some true; decide +kernel) | (show kitB _ _ = some false; decide +kernel))
theorem cd_isLs (h : Kn S x) (q : Q (.bl (isLs S x)) S) : CD c (.builtin "isinstance") [x, .ty "list"] S Q := by
  obtain ⟨n, hn⟩ := Option.isSome_iff_exists.mp h
  refine cd_isi hn ?_ q
  unfold isLs
  rw [hn]
  rcases tyN_cases hn with rfl | rfl | rfl | rfl | rfl | rfl | rfl <;> decide +kernel
theorem cd_isDc (h : Kn S x) (q : Q (.bl (isDc S x)) S) : CD c (.builtin "isinstance") [x, .ty "dict"] S Q := by
  obtain ⟨n, hn⟩ := Option.isSome_iff_exists.mp h
  refine cd_isi hn ?_ q
  unfold isDc
  rw [hn]
  rcases tyN_cases hn with rfl | rfl | rfl | rfl | rfl | rfl | rfl <;> decide +kernel
/-- isinstance(x, (list, tuple)) -/
theorem cd_isLT (h : Kn S x) (q : Q (.bl (isLs S x || isT x)) S) : CD c (.builtin "isinstance") [x, .tup [.ty "list", .ty "tuple"]] S Q := by
  obtain ⟨n, hn⟩ := Option.isSome_iff_exists.mp h
  refine cd_isiTs (ms := ["list", "tuple"]) hn ?_ q
  cases x <;> first | (cases hn; done) | (cases hn; first | (show kitBs _ _ = some true; decide +kernel) | (show kitBs _ _ = some false; decide +kernel) | (unfold isLs; rw [hn]; show kitBs _ _ = some true; decide +kernel) | (unfold isLs; rw [hn]; show kitBs _ _ = some false; decide +kernel)) | (rcases tyN_ref hn with rfl | rfl <;> first | (show kitBs _ _ = some true; decide +kernel) | (show kitBs _ _ = some false; decide +kernel) | (unfold isLs; rw [hn]; show kitBs _ _ = some true; decide +kernel) | (unfold isLs; rw [hn]; show kitBs _ _ = some false; decide +kernel))
end
/-! ### what is built in -/
theorem bt_int : bootBuiltins "int" = some (.type "int") := by decide +kernel
theorem bt_bool : bootBuiltins "bool" = some (.type "bool") := by decide +kernel
theorem bt_str : bootBuiltins "str" = some (.type "str") := by decide +kernel
theorem bt_tuple : bootBuiltins "tuple" = some (.type "tuple") := by decide +kernel
theorem bt_list : bootBuiltins "list" = some (.type "list") := by decide +kernel
theorem bt_dict : bootBuiltins "dict" = some (.type "dict") := by decide +kernel
theorem bt_range : bootBuiltins "range" = some (.type "range") := by decide +kernel
theorem bt_enumerate : bootBuiltins "enumerate" = some (.type "enumerate") := by decide +kernel
theorem bt_zip : bootBuiltins "zip" = some (.type "zip") := by decide +kernel
theorem bt_set : bootBuiltins "set" = some (.type "set") := by decide +kernel
theorem bt_reversed : bootBuiltins "reversed" = some (.type "reversed") := by decide +kernel
theorem bt_type : bootBuiltins "type" = some (.type "type") := by decide +kernel
theorem bt_float : bootBuiltins "float" = some (.type "float") := by decide +kernel
theorem bt_object : bootBuiltins "object" = some (.type "object") := by decide +kernel
theorem bt_bytes : bootBuiltins "bytes" = some (.type "bytes") := by decide +kernel
theorem bt_len : bootBuiltins "len" = some (.builtin "len") := by decide +kernel
theorem bt_isinstance : bootBuiltins "isinstance" = some (.builtin "isinstance") := by decide +kernel
theorem bt_abs : bootBuiltins "abs" = some (.builtin "abs") := by decide +kernel
theorem bt_min : bootBuiltins "min" = some (.builtin "min") := by decide +kernel
theorem bt_max : bootBuiltins "max" = some (.builtin "max") := by decide +kernel
theorem bt_sorted : bootBuiltins "sorted" = some (.builtin "sorted") := by decide +kernel
theorem bt_all : bootBuiltins "all" = some (.builtin "all") := by decide +kernel
theorem bt_any : bootBuiltins "any" = some (.builtin "any") := by decide +kernel
theorem bt_sum : bootBuiltins "sum" = some (.builtin "sum") := by decide +kernel
theorem bt_repr : bootBuiltins "repr" = some (.builtin "repr") := by decide +kernel
theorem bt_ord : bootBuiltins "ord" = some (.builtin "ord") := by decide +kernel
theorem bt_chr : bootBuiltins "chr" = some (.builtin "chr") := by decide +kernel
theorem bt_iter : bootBuiltins "iter" = some (.builtin "iter") := by decide +kernel
theorem bt_next : bootBuiltins "next" = some (.builtin "next") := by decide +kernel
theorem bt_hash : bootBuiltins "hash" = some (.builtin "hash") := by decide +kernel
theorem bt_divmod : bootBuiltins "divmod" = some (.builtin "divmod") := by decide +kernel
end DP

namespace DP
open PySem L2
theorem atI_of {α : Type} {xs : List α} {i : Int} {n : Nat} {d : α} (e : i = (n : Int)) (h : xs[n]? = some d) : atI xs i = some d := by
  obtain ⟨hn, _⟩ := List.getElem?_eq_some_iff.mp h
  subst e
  unfold atI ixN
  rw [if_pos (by omega), if_pos (by omega)]
  exact h
section
variable {c : Ctx} {S : SS} {Q : D → SS → Prop} {x y : D}
/-- tuple + tuple, any -/
theorem od_catA {xs ys : List D} (hl : xs.length + ys.length ≤ sizeLine) (q : Q (.tup (xs ++ ys)) S) : OD c (binaryOp .Add) (.tup xs) (.tup ys) S Q :=
  OD.of op_catA fun H v w m rv rw => by
    obtain ⟨a, vs, rfl, h1, h2⟩ := tup_sq rv
    obtain ⟨b, ws, rfl, h3, h4⟩ := tup_sq rw
    have l1 := h2.length
    have l2 := h4.length
    refine ⟨a, b, vs, ws, rfl, rfl, h1, h3, by rw [← h2.length, ← h4.length]; exact hl, fun z => ?_, fun _ z => ?_, fun _ _ p hp => ?_⟩
    · subst z
      have e4 : xs = [] := List.eq_nil_of_length_eq_zero l1
      subst e4
      exact ⟨_, S, rw, m, Stp.refl, q⟩
    · subst z
      have e4 : ys = [] := List.eq_nil_of_length_eq_zero l2
      subst e4
      refine ⟨_, S, rv, m, Stp.refl, ?_⟩
      rw [List.append_nil] at q
      exact q
    · obtain ⟨st, sm, e⟩ := m.new (o := .tup (vs ++ ws)) hp
      exact ⟨_, S, rep_tup.mpr ⟨p, _, rfl, SqT.of e, (h2.mono st).append (h4.mono st)⟩, sm, st, q⟩
theorem cutD_whole {xs : List D} {lo hi : Option Int} (h : HT.sIx xs.length 0 lo = 0 ∧ HT.sIx xs.length xs.length hi = xs.length) : cutD xs lo hi = xs := by
  unfold cutD
  rw [h.1, h.2, List.drop_zero, Nat.sub_zero, List.take_length]
variable {e : Expr} {ρ : DEnv} {pos : Pos}
/-- t[lo:hi] of a tuple -/
theorem je_sliceT {lo hi : Option Expr} {p2 : Pos} (h : JE c e ρ S fun x S1 => JO c lo ρ S1 fun l S2 => JO c hi ρ S2 fun u S3 => ∃ xs, x = .tup xs ∧ Q (.tup (cutD xs l u)) S3) : JE c (.Subscript e (.Slice lo hi none p2) pos) ρ S Q :=
  JE.of (pe_slice sl_tupA PEt POt POt) fun σ H ds => h.then ds fun x S1 v H1 r1 d1 s1 h1 => h1 σ H1 d1 _ fun l S2 H2 d2 s2 h2 => h2 σ H2 d2 _ fun u S3 H3 d3 s3 ⟨xs, hx, q⟩ => by
    subst hx
    have r3 := (r1.mono s2).mono s3
    obtain ⟨p, vs, rfl, h3, h4⟩ := tup_sq r3
    have hl := h4.length
    refine ⟨p, vs, rfl, h3, fun z => ?_, fun _ a ha => ?_⟩
    · rw [← hl] at z
      rw [cutD_whole z] at q
      exact ⟨_, S3, r3, d3.sim, (s1.trans s2).trans s3, q⟩
    · obtain ⟨st, sm, e⟩ := d3.sim.new (o := .tup (cutV vs l u)) ha
      exact ⟨_, S3, rep_tup.mpr ⟨a, _, rfl, SqT.of e, (cut_rep h4).mono st⟩, sm, ((s1.trans s2).trans s3).trans st, q⟩
end
/-! ### names inside a comprehension -/
section
variable {c : Ctx} {s : Shared} {H : Hp} {scope : Scope} {C : Addr} {cl : List (Str × Addr)} {fp : List Addr} {ρ : DEnv} {S : SS} {Q : D → SS → Prop} {QT : Bool → SS → Prop} {pos : Pos}
theorem je_bn {i : Nat} {x : Str} {d : D} (a : c.X.N[i]? = some x) (v : Vis (compEnvC scope cl C c.X.env).scope x) (hd : ρ[i]? = some (some d)) (q : Q d S) (h1 : (x == ("__debug__" : Str)) = false := by decide) (h2 : (x == ("__classdict__" : Str)) = false := by decide) : JE (blkC c s H scope C cl fp) (.Name x pos) ρ S Q :=
  je_var (c := blkC c s H scope C cl fp) i hd a v q h1 h2
theorem jts_nil (q : QT true S) : JTs c [] ρ S QT := q
theorem jts_one {t : Expr} (h : JT c t ρ S QT) : JTs c [t] ρ S QT := h
theorem lcT_n {i : Nat} {x : Str} (hN : c.X.N.Nodup) (a : c.X.N[i]? = some x) (hx : ∀ C cl, Loc (compEnvC scope cl C c.X.env).scope x) (hf : ∀ C cl, (compEnvC scope cl C c.X.env).scope.names.lookup x = some .local) : LcT c scope (.Name x pos) (.n i) := fun s H C cl fp =>
  pg_name (X := c.X.blk s H scope (compEnvC scope cl C c.X.env) fp) hN a (hx C cl) (.inr (hf C cl))
theorem lcT_2 {i j : Nat} {x y : Str} {k : Nat} {p1 p2 : Pos} (hN : c.X.N.Nodup) (hc : c.X.calm = true) (a : c.X.N[i]? = some x) (b : c.X.N[j]? = some y) (hx : ∀ C cl, Loc (compEnvC scope cl C c.X.env).scope x) (hf : ∀ C cl, (compEnvC scope cl C c.X.env).scope.names.lookup x = some .local) (hy : ∀ C cl, Loc (compEnvC scope cl C c.X.env).scope y) (hg : ∀ C cl, (compEnvC scope cl C c.X.env).scope.names.lookup y = some .local) : LcT c scope (.Tuple [.Name x p1, .Name y p2] k pos) (.t [i, j]) := fun s H C cl fp =>
  pg_tup (X := c.X.blk s H scope (compEnvC scope cl C c.X.env) fp) hc (pgs_cons (pg_name (X := c.X.blk s H scope (compEnvC scope cl C c.X.env) fp) hN a (hx C cl) (.inr (hf C cl))) (pgs_cons (pg_name (X := c.X.blk s H scope (compEnvC scope cl C c.X.env) fp) hN b (hy C cl) (.inr (hg C cl))) pgs_nil))
end
end DP

/-! plain data: shape, equality, membership -/
namespace DP
open PySem L2
mutual
/-- data of a depth, its strings sound -/
def lev : Nat → D → Prop
  | _, .non => True
  | _, .bl _ => True
  | _, .int _ => True
  | _, .str x => PyData.canLay0 (.str x) = true
  | 0, .tup xs => False
  | n + 1, .tup xs => levs n xs
  | 0, .fl xs => False
  | n + 1, .fl xs => levs n xs
  | _, .ref _ => False
  | _, .ty _ => False
  | _, .lam _ _ _ _ => False
def levs : Nat → List D → Prop
  | _, [] => True
  | n, x :: xs => lev n x ∧ levs n xs
end
theorem levs_of {n : Nat} : ∀ {xs : List D}, (∀ x ∈ xs, lev n x) → levs n xs
  | [], _ => by unfold levs; trivial
  | x :: xs, h => by unfold levs; exact ⟨h x List.mem_cons_self, levs_of fun y hy => h y (List.mem_cons_of_mem _ hy)⟩
theorem lev_tup {n : Nat} {xs : List D} (h : ∀ x ∈ xs, lev n x) : lev (n + 1) (.tup xs) := by unfold lev; exact levs_of h
theorem lev_fl {n : Nat} {xs : List D} (h : ∀ x ∈ xs, lev n x) : lev (n + 1) (.fl xs) := by unfold lev; exact levs_of h
theorem lev_int {n : Nat} {i : Int} : lev n (.int i) := by unfold lev; trivial
theorem lev_bl {n : Nat} {i : Bool} : lev n (.bl i) := by unfold lev; trivial
theorem lev_non {n : Nat} : lev n .non := by unfold lev; trivial
mutual
theorem lev_ok : ∀ (n : Nat) (d : D), lev n d → isDt d = true ∧ (toPy d).canLay0 = true ∧ (toPy d).depth ≤ n
  | n, .non, _ => by unfold isDt toPy PyData.canLay0 PyData.depth; exact ⟨rfl, rfl, Nat.zero_le _⟩
  | n, .bl b, _ => by unfold isDt toPy PyData.canLay0 PyData.depth; exact ⟨rfl, rfl, Nat.zero_le _⟩
  | n, .int b, _ => by unfold isDt toPy PyData.canLay0 PyData.depth; exact ⟨rfl, rfl, Nat.zero_le _⟩
  | n, .str b, h => by
    unfold lev at h
    refine ⟨by unfold isDt; rfl, by unfold toPy; exact h, by unfold toPy PyData.depth; exact Nat.zero_le _⟩
  | 0, .tup xs, h => by unfold lev at h; exact h.elim
  | n + 1, .tup xs, h => by
    unfold lev at h
    obtain ⟨h1, h2, h3⟩ := levs_ok n xs h
    refine ⟨by unfold isDt; exact h1, by unfold toPy PyData.canLay0; exact h2, by unfold toPy PyData.depth; omega⟩
  | 0, .fl xs, h => by unfold lev at h; exact h.elim
  | n + 1, .fl xs, h => by
    unfold lev at h
    obtain ⟨h1, h2, h3⟩ := levs_ok n xs h
    refine ⟨by unfold isDt; exact h1, by unfold toPy PyData.canLay0; exact h2, by unfold toPy PyData.depth; omega⟩
  | n, .ref a, h => by unfold lev at h; exact h.elim
  | n, .ty a, h => by unfold lev at h; exact h.elim
  | n, .lam _ _ _ _, h => by unfold lev at h; exact h.elim
theorem levs_ok : ∀ (n : Nat) (ds : List D), levs n ds → isDts ds = true ∧ PyData.canLayAll0 (toPys ds) = true ∧ PyData.depthAll (toPys ds) ≤ n
  | n, [], _ => by unfold isDts toPys PyData.canLayAll0 PyData.depthAll; exact ⟨rfl, rfl, Nat.zero_le _⟩
  | n, x :: xs, h => by
    unfold levs at h
    obtain ⟨h1, h2, h3⟩ := lev_ok n x h.1
    obtain ⟨g1, g2, g3⟩ := levs_ok n xs h.2
    refine ⟨by unfold isDts; rw [h1, g1]; rfl, by unfold toPys PyData.canLayAll0; rw [h2, g2]; rfl, by unfold toPys PyData.depthAll; omega⟩
end
theorem lev_shp {d : D} (h : lev 60 d) : shp d = true := by
  obtain ⟨h1, h2, h3⟩ := lev_ok 60 d h
  unfold shp SeqAt.shaped
  rw [h1, h2, decide_eq_true (by omega)]; rfl
mutual
/-- no flag in it -/
def nob : D → Bool
  | .bl _ => false
  | .tup xs => nobs xs
  | .fl xs => nobs xs
  | .ref _ => false
  | .ty _ => false
  | .lam _ _ _ _ => false
  | _ => true
def nobs : List D → Bool
  | [] => true
  | x :: xs => nob x && nobs xs
end
theorem nobs_of : ∀ {xs : List D}, (∀ x ∈ xs, nob x = true) → nobs xs = true
  | [], _ => by unfold nobs; rfl
  | x :: xs, h => by unfold nobs; rw [h x List.mem_cons_self, nobs_of fun y hy => h y (List.mem_cons_of_mem _ hy)]; rfl
mutual
theorem eqv_nob : ∀ (a b : D), nob a = true → nob b = true → (PyData.eqv (toPy a) (toPy b) = true ↔ a = b)
  | .non, b, _, hb => by cases b <;> simp [nob, toPy, PyData.eqv] at hb ⊢
  | .int i, b, _, hb => by cases b <;> simp [nob, toPy, PyData.eqv] at hb ⊢
  | .str i, b, _, hb => by cases b <;> simp [nob, toPy, PyData.eqv] at hb ⊢
  | .bl i, b, ha, hb => by simp [nob] at ha
  | .ref i, b, ha, hb => by simp [nob] at ha
  | .ty i, b, ha, hb => by simp [nob] at ha
  | .tup xs, b, ha, hb => by
    cases b with
    | tup ys =>
      have h1 : nobs xs = true := by unfold nob at ha; exact ha
      have h2 : nobs ys = true := by unfold nob at hb; exact hb
      have := eqvs_nob xs ys h1 h2
      simp only [toPy, PyData.eqv, this, D.tup.injEq]
    | _ => simp [nob, toPy, PyData.eqv] at hb ⊢
  | .fl xs, b, ha, hb => by
    cases b with
    | fl ys =>
      have h1 : nobs xs = true := by unfold nob at ha; exact ha
      have h2 : nobs ys = true := by unfold nob at hb; exact hb
      have := eqvs_nob xs ys h1 h2
      simp only [toPy, PyData.eqv, this, D.fl.injEq]
    | _ => simp [nob, toPy, PyData.eqv] at hb ⊢
theorem eqvs_nob : ∀ (as bs : List D), nobs as = true → nobs bs = true → (PyData.eqvAll (toPys as) (toPys bs) = true ↔ as = bs)
  | [], [], _, _ => by simp [toPys, PyData.eqvAll]
  | [], b :: bs, _, _ => by simp [toPys, PyData.eqvAll]
  | a :: as, [], _, _ => by simp [toPys, PyData.eqvAll]
  | a :: as, b :: bs, ha, hb => by
    unfold nobs at ha hb
    rw [Bool.and_eq_true] at ha hb
    have h1 := eqv_nob a b ha.1 hb.1
    have h2 := eqvs_nob as bs ha.2 hb.2
    simp only [toPys, PyData.eqvAll, Bool.and_eq_true, h1, h2, List.cons.injEq]
end
theorem deq_iff {a b : D} (ha : nob a = true) (hb : nob b = true) : deq a b = true ↔ a = b := eqv_nob a b ha hb
theorem deq_self {a : D} (ha : nob a = true) : deq a a = true := (deq_iff ha ha).mpr rfl
theorem Room65 {k : Nat} {A : Around} (r : Room k A) : A.units + 65 < cLine := by have := r.un; omega
theorem toV_int {xs : List Int} : (xs.map D.int).map toV = xs.map V.int := by rw [List.map_map]; rfl
theorem fl_ints {xs : List Int} : (xs.map D.int).all flD = true := by rw [List.all_map]; exact List.all_eq_true.mpr fun _ _ => rfl
theorem inF_int {a : Int} {xs : List Int} : inF (.int a) (xs.map D.int) = decide (a ∈ xs) := by
  unfold inF inV
  rw [toV_int]
  by_cases h : a ∈ xs
  · rw [decide_eq_true h]
    exact List.any_eq_true.mpr ⟨.int a, List.mem_map.mpr ⟨a, h, rfl⟩, by simp [toV, eqV]⟩
  · rw [decide_eq_false h]
    refine List.any_eq_false.mpr fun y hy => ?_
    obtain ⟨b, hb, rfl⟩ := List.mem_map.mp hy
    simp [toV, eqV]
    rintro rfl
    exact h hb
section
variable {c : Ctx} {e : Expr} {ρ : DEnv} {S : SS} {Q : D → SS → Prop}
/-- what is not needed any more leaves the store -/
theorem je_drop (a : Addr) (h : JE c e ρ S fun d S1 => Q d (sdel S1 a)) : JE c e ρ S Q := fun σ H ds => tE_mono (h σ H ds) fun v H' ⟨d, S', r, m, s, q⟩ => by
    obtain ⟨st, m2⟩ := m.freeze (a := a)
    exact ⟨d, sdel S' a, r.mono st, m2, s.trans st, q⟩
end
end DP

/-! the store's order, the laws' bags -/
namespace DP
open PySem L2
theorem sup_comm {S : SS} {p q : Addr} {a b : MO} (h : p ≠ q) : sup (sup S p a) q b = sup (sup S q b) p a := by
  funext x; unfold sup; split <;> split <;> first | rfl | (rename_i e1 e2; exact (h (e2.symm.trans e1)).elim)
/-- an older object of the store is written -/
theorem sup_under {S : SS} {p q : Addr} {a b f : MO} (h : p ≠ q) : sup (sup (sup S q a) p b) q f = sup (sup S q f) p b := by
  rw [sup_comm h, sup_sup]
theorem sdel_under {S : SS} {p q : Addr} {a b : MO} (h : p ≠ q) (hq : S q = none) : sdel (sup (sup S q a) p b) q = sup S p b := by
  rw [sup_comm h.symm, sdel_sup (by rw [sup_ne h.symm]; exact hq)]
theorem cdivw {i j : Int} (h : 0 < j) (h2 : j < 2 ^ 64) : CDivW i j := by
  refine ⟨h, ?_⟩
  have : j.natAbs.log2 < 64 := (Nat.log2_lt (by omega)).mpr (by omega)
  omega
theorem mulok_l {i j : Int} (h1 : -(2 ^ 64) < i) (h2 : i < 2 ^ 64) : IntMulOk i j := IntMulOk.of_left (intBits_le_64 h1 h2)
theorem mulok_r {i j : Int} (h1 : -(2 ^ 64) < j) (h2 : j < 2 ^ 64) : IntMulOk i j := IntMulOk.of_right (intBits_le_64 h1 h2)
section
variable {c : Ctx} {S : SS} {Q : D → SS → Prop}
theorem od_p18 (q : Q (.int 1000000000000000000) S) : OD c (binaryOp .Pow) (.int 10) (.int 18) S Q := od_pow (by unfold CPow; decide) (by rw [show (10 : Int) ^ (18 : Int).toNat = 1000000000000000000 from by decide]; exact q)
theorem od_p17 (q : Q (.int 100000000000000000) S) : OD c (binaryOp .Pow) (.int 10) (.int 17) S Q := od_pow (by unfold CPow; decide) (by rw [show (10 : Int) ^ (17 : Int).toNat = 100000000000000000 from by decide]; exact q)
theorem od_p16 (q : Q (.int 10000000000000000) S) : OD c (binaryOp .Pow) (.int 10) (.int 16) S Q := od_pow (by unfold CPow; decide) (by rw [show (10 : Int) ^ (16 : Int).toNat = 10000000000000000 from by decide]; exact q)
end
/-- one of a list's numbers -/
theorem atI_int {xs : List Int} {n : Int} (h0 : 0 ≤ n) (h1 : n < xs.length) : ∃ m, m ∈ xs ∧ atI (xs.map D.int) n = some (.int m) := by
  obtain ⟨k, rfl⟩ : ∃ k : Nat, n = k := ⟨n.toNat, by omega⟩
  have hk : k < xs.length := by omega
  exact ⟨xs[k], List.getElem_mem hk, atI_of rfl (by rw [List.getElem?_map, List.getElem?_eq_getElem hk]; rfl)⟩
theorem cutD_map {xs : List Int} {lo hi : Option Int} : ∃ ys : List Int, cutD (xs.map D.int) lo hi = ys.map D.int ∧ ys.length ≤ xs.length :=
  ⟨(xs.drop (HT.sIx xs.length 0 lo)).take (HT.sIx xs.length xs.length hi - HT.sIx xs.length 0 lo), by unfold cutD; rw [List.length_map, List.map_take, List.map_drop], by rw [List.length_take, List.length_drop]; omega⟩
/-- a law's bag: cells, place, what is left, turns -/
def OkBag (o : MO) : Prop := ∃ (cs : List Int) (at_ left turn : Int), o = .lst [.fl (cs.map D.int), .int at_, .int left, .int turn] ∧ 0 ≤ at_ ∧ 0 ≤ left
def BagOk (S : SS) (p : Addr) : Prop := ∃ b, S p = some b ∧ OkBag b
theorem BagOk.here {S : SS} {p : Addr} {b : MO} (h : OkBag b) : BagOk (sup S p b) p := ⟨b, sup_same, h⟩
theorem BagOk.ne {S : SS} {p q : Addr} (h : BagOk S p) (hq : S q = none) : p ≠ q := fun e => by
  obtain ⟨b, hb, _⟩ := h
  rw [e, hq] at hb
  cases hb
theorem td_bl {S : SS} {b : Bool} : TD S (.bl b) b := rfl
/-- both ways of an if come to the same -/
theorem js_join {c : Ctx} {sa sb : List Stmt} {ρ : DEnv} {S : SS} {nx bk ct : NK} {rt : RK} {b : Bool} (ρ1 : DEnv) (hx : nx ρ1 S) (h1 : b = true → ∀ nx' : NK, nx' ρ1 S → JSs c sa ρ S nx' rt bk ct) (h2 : b = false → ∀ nx' : NK, nx' ρ1 S → JSs c sb ρ S nx' rt bk ct) : if b = true then JSs c sa ρ S nx rt bk ct else JSs c sb ρ S nx rt bk ct := by
  cases b with
  | true => rw [if_pos rfl]; exact h1 rfl nx hx
  | false => rw [if_neg Bool.false_ne_true]; exact h2 rfl nx hx
end DP

/-! sorted of a tuple, dicts -/
namespace SrtO
open PySem PyProof.Rows PySem.Spec
section
variable {prog : Program} {w : World} {A : Around} {E : Value → Shared → Prop} {s : Shared}
theorem gather_tup {t : Addr} {ws : List Value} {R : List Value → Shared → Prop} (ht : IsTup s.heap t ws.toArray) (hz : ws.length ≤ sizeLine)
    (k : R ws { s with heap := (s.heap.push (seqObj "list" #[] 0)).update s.heap.objs.size (Obj.mapSeq (· ++ ws.toArray)) }) : wpAny (model prog w) A (collect (.ref t)) R E s := by
  obtain ⟨o, g, gc, n, gd⟩ := id ht
  have g' : (s.heap.push (seqObj "list" #[] 0)).get? t = some o := Heap.get?_push_of_some _ g
  unfold collect
  refine wpAny_bind (wpAny_runValue (codeAny_builtin entry_proto_collect' ?_)); refine wpAny_bind (wpAny_newList (wpAny_pure ⟨Code.quiet_builtin _ (by decide +kernel), codeAny_builtin entry_list_iadd' ?_⟩))
  show wpAny _ _ (Builtin.List.listExtendWith (.ref s.heap.objs.size) (.ref t) (.ref s.heap.objs.size)) _ _ { s with heap := s.heap.push (seqObj "list" #[] 0) }
  unfold Builtin.List.listExtendWith
  refine wpAny_bind (wpAny_typeOf (T := "tuple") ⟨o, g', gc⟩ ?_)
  have e1 : (Value.type "tuple" == Value.type "tuple") = true := by rfl
  rw [if_pos (by rw [e1]; simp)]; refine wpAny_bind (listItems_at g' gd ?_); refine wpAny_bind (listItems_at (xs := #[]) (n := 0) (Heap.get?_push_size _ rfl) rfl ?_)
  rw [if_neg (by simp)]; refine wpAny_bind (listUpdate_at (xs := #[]) (n := 0) (Heap.get?_push_size _ rfl) rfl ?_ (Nat.zero_le _) (by show (#[] ++ ws.toArray).size ≤ sizeLine + 1; simp only [Array.size_append, List.size_toArray, List.length_nil]; omega))
  refine wpAny_pure ?_; refine wpAny_bind (wpAny_load (get?_update_seq (Heap.get?_push_size _ rfl) _) ?_); show wpAny _ _ (pure ((#[] : Array Value) ++ ws.toArray).toList) _ E _; rw [show ((#[] : Array Value) ++ ws.toArray).toList = ws by simp]; exact wpAny_pure k
theorem sorted_tup {t : Addr} {ws : List Value} {lt' : Value → Value → Bool} {R : Value → Shared → Prop} (O : Swo lt') (ht : IsTup s.heap t ws.toArray) (hz : ws.length ≤ sizeLine)
    (hS : 2 ≤ ws.length → ∀ (g : Heap) (a : Addr), g.get? a = some (seqObj "list" ws.toArray 0) → SortableO prog w A.in1.in1 { s with heap := g } a ws lt')
    (k : ∀ out : List Value, Srtd lt' out → Stb lt' out ws → R (.ref (s.heap.objs.size + 1)) { s with heap := sortedAll s.heap ws out.toArray }) : wpAny (model prog w) A (call (.builtin "sorted") [.ref t]) R E s := by
  refine Calls.call_function_entry kind_sorted plain_sorted entry_sorted (args_sorted1 _) ?_; unfold Builtin.«sorted»
  refine wpAny_bind (m := checkCount "sorted" 1 1 _) (wpAny_pure ?_); refine wpAny_bind (gather_tup ht hz ?_); refine wpAny_bind (wpAny_newList ?_ hz)
  have z1 : ((s.heap.push (seqObj "list" #[] 0)).update s.heap.objs.size (Obj.mapSeq (· ++ ws.toArray))).objs.size = s.heap.objs.size + 1 := by rw [Heap.size_update, size_push']
  have z2 : (((s.heap.push (seqObj "list" #[] 0)).update s.heap.objs.size (Obj.mapSeq (· ++ ws.toArray))).push (seqObj "list" ws.toArray 0)).get? (s.heap.objs.size + 1) = some (seqObj "list" ws.toArray 0) := by rw [← z1]; exact Heap.get?_push_size _ rfl
  show wpAny _ _ _ _ _ { s with heap := ((s.heap.push (seqObj "list" #[] 0)).update s.heap.objs.size (Obj.mapSeq (· ++ ws.toArray))).push (seqObj "list" ws.toArray 0) }
  rw [z1]; refine wpAny_bind (wpAny_holding (wpAny_call_entry slot_list_sort ⟨_, z2, rfl⟩ entry_list_sort (list_sort_ord O z2 hz (fun h2 => hS h2 _ _ z2) fun out h1 h2 => ⟨_, rfl, wpAny_pure ⟨_, rfl, k out h1 h2⟩⟩) (args_list_sort _)))
end
end SrtO
namespace L2
open PySem PySem.Spec PyProof.Rows
theorem cr_sortedTI {X : Cx} : CallR X (.builtin "sorted") (fun vs H Q => ∃ (a : Addr) (ns : List Int), vs = [V.ref a] ∧ SqT X.K H a (ns.map V.int) ∧ ∀ (ms : List Int) (p : Addr), ms.Perm ns → ms.Pairwise (· ≤ ·) → H p = none → Q (.ref p) (upd H p (.lst (ms.map V.int)))) := by
  intro pins s σ H vs us Q I r h
  obtain ⟨a, ns, rfl, hs, q⟩ := h
  obtain ⟨its, rv, ht, hz⟩ := I.tuple hs
  rw [Vals.ref1 r]
  have hi := rv.ints
  refine SrtO.sorted_tup SrtO.swo_int ht (by rw [← rv.length]; exact hz) (fun h2 g a' _ => SrtO.ints_sortable hi h2) fun out h1 h2 => ?_
  obtain ⟨k1, k2, k3⟩ := SrtO.ints_out hi h1 h2; obtain ⟨ep, he⟩ := PyProof.Rows.sortedAll_at s.heap its out.toArray
  have hlen : ((out.map SrtO.iv).map V.int).length ≤ sizeLine := by rw [List.length_map, k2.length_eq]; rw [List.length_map] at hz; exact hz
  exact ⟨.ref _, upd H (s.heap.objs.size + 1) (.lst ((out.map SrtO.iv).map V.int)), I.laid (t' := s.toks) (fun _ _ => PyProof.Rows.sortedAll_old) (Nat.le_succ _) ⟨hlen, out, ep, vals_of_ints k1, he⟩, rfl, q _ _ k2 k3 (I.hok.fresh (Nat.le_succ _))⟩
end L2
namespace DP
open PySem L2
section
variable {c : Ctx} {S : SS} {Q : D → SS → Prop} {x : D} {ρ : DEnv} {pos : Pos}
theorem cd_sortedTI {ns : List Int} (q : ∀ ns' : List Int, ns'.Perm ns → ns'.Pairwise (· ≤ ·) → Q (.fl (ns'.map D.int)) S) : CD c (.builtin "sorted") [.tup (ns.map D.int)] S Q :=
  CD.of cr_sortedTI fun H vs m r => by
    obtain ⟨v, rfl, r1⟩ := reps1 r
    obtain ⟨a, ws, rfl, e2, e3⟩ := tup_sq r1
    have e4 := reps_ints e3
    subst e4
    refine ⟨a, ns, rfl, e2, fun ns' p hp hs hn => ?_⟩
    obtain ⟨st, sm, e⟩ := m.new (o := .lst (ns'.map V.int)) hn
    exact ⟨_, S, rep_fl.mpr ⟨p, _, rfl, SqL.of e, reps_ints'⟩, sm, st, q ns' hp hs⟩
/-- len of a dict of the store -/
theorem cd_lenD {a : Addr} {kvs : List (Key × D)} (h : S a = some (.dk kvs)) (q : Q (.int (kvs.length : Int)) S) : CD c (.builtin "len") [.ref a] S Q := fun H vs m r pins s σ us I rv => by
  obtain ⟨v, rfl, r1⟩ := reps1 r
  rw [rep_ref.mp r1] at rv
  obtain ⟨ws, e1, e2⟩ := m a _ h
  rw [Vals.ref1 rv]
  refine d_len I (.inl e1) fun t s' I' => ⟨.int ws.length, H, I', ⟨t, rfl⟩, pst_same m (rep_int.mpr ?_) q⟩
  rw [repP_len e2]
/-- a dict's key as a value -/
def kD : Key → D
  | .inl i => .int i
  | .inr x => .str x
theorem kD_rep {K : PySem.W.Frag} {G : Hp} {k : Key} {v : V} (r : Rep K G (kD k) v) : v = kV k := by
  cases k with
  | inl i => exact rep_int.mp r
  | inr i => exact rep_str.mp r
/-- {} -/
theorem je_dict0 (q : ∀ p, S p = none → Q (.ref p) (sup S p (.dk []))) : JE c (.Dict [] [] pos) ρ S Q :=
  JE.of pe_dnewK fun σ H ds p hp => by
    obtain ⟨st, sm⟩ := ds.sim.newM (o := .dK []) (m := .dk []) hp fun H' S' sb e => ⟨[], e, rfl⟩
    exact ⟨.ref p, _, rep_ref.mpr rfl, sm, st, q p (ds.sim.free hp)⟩
/-- {k: v} -/
theorem je_dict1 {ek ev : Expr} (h : ∀ p, S p = none → JE c ek ρ (sup S p (.dk [])) fun x S1 => JE c ev ρ S1 fun y S2 => ∃ key, x = kD key ∧ S2 p = some (.dk []) ∧ Q (.ref p) (sup S2 p (.dk [(key, y)]))) : JE c (.Dict [some ek] [ev] pos) ρ S Q :=
  JE.of (pe_disp (pps_cons PEt PEt pps_nil) rfl rfl (by simp) (by show 1 ≤ 15; omega)) fun σ H ds p hp => by
    obtain ⟨st, sm⟩ := ds.sim.newM (o := .dK []) (m := .dk []) hp fun H' S' sb e => ⟨[], e, rfl⟩
    have d1 : Ds c σ (upd H p (.dK [])) ρ (sup S p (.dk [])) := ds.step sm st
    refine (h p (ds.sim.free hp)).then d1 fun x S1 v H1 r1 d2 s2 h2 => h2.then d2 fun y S2 w H2 r2 d3 s3 ⟨key, ex, e2, q⟩ => ?_
    subst ex
    obtain ⟨ws, e4, e5⟩ := d3.sim p _ e2
    cases e5
    refine ⟨e4, [(key, w)], by rw [kD_rep r1]; rfl, by show 1 ≤ 15; omega, ?_⟩
    have em : mergeK [] [(key, w)] = [(key, w)] := rfl
    rw [em]
    obtain ⟨st4, sm4⟩ := d3.sim.write (o := .dK [(key, w)]) (m := .dk [(key, y)]) e2 fun H' S' sb e => ⟨_, e, w, [], rfl, r2.mono sb, rfl⟩
    exact ⟨.ref p, _, rep_ref.mpr rfl, sm4, ((st.trans s2).trans s3).trans st4, q⟩
end
end DP

/-! dict comprehensions -/
namespace DP
open PySem L2
def putD (kvs : List (Key × D)) (k : Key) (v : D) : List (Key × D) := if (kvs.any fun kv => decide (kv.1 = k)) = true then kvs.map (fun kv => if kv.1 = k then (kv.1, v) else kv) else kvs ++ [(k, v)]
theorem RepP.any {K : PySem.W.Frag} {G : Hp} {k : Key} : ∀ {xs : List (Key × D)} {vs : List (Key × V)}, RepP K G xs vs → (vs.any fun kv => decide (kv.1 = k)) = xs.any fun kv => decide (kv.1 = k)
  | [], vs, h => by cases h; rfl
  | (j, d) :: xs, vs, h => by
    obtain ⟨v, t, rfl, _, h3⟩ := h
    rw [List.any_cons, List.any_cons, RepP.any h3]
theorem RepP.map {K : PySem.W.Frag} {G : Hp} {k : Key} {d : D} {v : V} (r : Rep K G d v) : ∀ {xs : List (Key × D)} {vs : List (Key × V)}, RepP K G xs vs → RepP K G (xs.map fun kv => if kv.1 = k then (kv.1, d) else kv) (vs.map fun kv => if kv.1 = k then (kv.1, v) else kv)
  | [], vs, h => by cases h; rfl
  | (j, e) :: xs, vs, h => by
    obtain ⟨u, t, rfl, h2, h3⟩ := h
    have ih := RepP.map (k := k) r h3
    by_cases z : j = k
    · rw [List.map_cons, List.map_cons, if_pos z, if_pos z]
      exact ⟨v, _, rfl, r, ih⟩
    · rw [List.map_cons, List.map_cons, if_neg z, if_neg z]
      exact ⟨u, _, rfl, h2, ih⟩
theorem RepP.snoc {K : PySem.W.Frag} {G : Hp} {k : Key} {d : D} {v : V} (r : Rep K G d v) : ∀ {xs : List (Key × D)} {vs : List (Key × V)}, RepP K G xs vs → RepP K G (xs ++ [(k, d)]) (vs ++ [(k, v)])
  | [], vs, h => by cases h; exact ⟨v, [], rfl, r, rfl⟩
  | (j, e) :: xs, vs, h => by
    obtain ⟨u, t, rfl, h2, h3⟩ := h
    exact ⟨u, _, rfl, h2, RepP.snoc r h3⟩
theorem RepP.put {K : PySem.W.Frag} {G : Hp} {xs : List (Key × D)} {vs : List (Key × V)} {k : Key} {d : D} {v : V} (h : RepP K G xs vs) (r : Rep K G d v) : RepP K G (putD xs k d) (putK vs k v) := by
  unfold putD putK
  rw [h.any]
  split
  · exact RepP.map r h
  · exact RepP.snoc r h
section
variable {c : Ctx} {tg iter kx vx : Expr} {ifs : List Expr} {scope : Scope} {ρ : DEnv} {S : SS} {Q : D → SS → Prop} {pos : Pos}
/-- the turns of a dict comprehension: an invariant by the turn and the pairs so far; the store without the new dict -/
def DcD (c : Ctx) (pat : Pat) (kx vx : Expr) (ifs : List Expr) (scope : Scope) (vs : List Nat) (ρ : DEnv) (Qf : Addr → List (Key × D) → SS → Prop) (ds : List D) (Cnd : SS → Prop) (S : SS) : Prop := ∃ Iv : Nat → List (Key × D) → SS → Prop, Iv 0 [] S ∧ ds.length < sizeLine ∧
  (∀ i acc S' Dl, S' Dl = none → Iv i acc S' → Cnd (sup S' Dl (.dk acc)) ∧ acc.length ≤ i) ∧
  (∀ (Dl : Addr) (i : Nat) (d : D) (acc : List (Key × D)) (S' : SS), S' Dl = none → ds[i]? = some d → Iv i acc S' → ∃ ρ2, bindP pat d (wipeD ρ vs) = some ρ2 ∧
      ∀ (s : Shared) (H : Hp) (C : Addr) (cl : List (Str × Addr)) (fp : List Addr), JTs (blkC c s H scope C cl fp) ifs ρ2 (sup S' Dl (.dk acc)) fun k S3 => if k = true then
          ∀ (s : Shared) (H : Hp) (C : Addr) (cl : List (Str × Addr)) (fp : List Addr), JE (blkC c s H scope C cl fp) kx ρ2 S3 fun y S4 =>
            ∀ (s : Shared) (H : Hp) (C : Addr) (cl : List (Str × Addr)) (fp : List Addr), JE (blkC c s H scope C cl fp) vx ρ2 S4 fun z S5 => ∃ key, y = kD key ∧ S5 Dl = some (.dk acc) ∧ Iv (i + 1) (putD acc key z) (sdel S5 Dl)
        else S3 Dl = some (.dk acc) ∧ Iv (i + 1) acc (sdel S3 Dl)) ∧
  ∀ acc S' Dl, S' Dl = none → Iv ds.length acc S' → Qf Dl acc S'
theorem dc_ok {pat : Pat} {vs : List Nat} {Qf : Addr → List (Key × D) → SS → Prop} {R : VK} {σ : L2.St} {H : Hp} (hi : JI c tg iter ρ S (DcD c pat kx vx ifs scope vs ρ Qf)) (hw : ∀ i ∈ pat.slots, i ∈ vs) (dst : Ds c σ H ρ S)
    (hR : ∀ Dl acc S' H', S' Dl = none → Qf Dl acc S' → Sim c.X.K H' (sup S' Dl (.dk acc)) → Stp H S H' (sup S' Dl (.dk acc)) → R (.ref Dl) H') :
    tDc (tIt c.X tg iter) (gPat c.X.K pat) (fun σ H R => ∀ (s : Shared) (H0 : Hp) (C : Addr) (cl : List (Str × Addr)) (fp : List Addr), tTs (c.X.blk s H0 scope (compEnvC scope cl C c.X.env) fp) ifs σ H R)
      (fun σ H R => ∀ (s : Shared) (H0 : Hp) (C : Addr) (cl : List (Str × Addr)) (fp : List Addr), tE (c.X.blk s H0 scope (compEnvC scope cl C c.X.env) fp) kx σ H R)
      (fun σ H R => ∀ (s : Shared) (H0 : Hp) (C : Addr) (cl : List (Str × Addr)) (fp : List Addr), tE (c.X.blk s H0 scope (compEnvC scope cl C c.X.env) fp) vx σ H R) vs σ H R := by
  intro pins s I
  refine thn (hi σ H dst pins s I) fun v s1 h1 => thn h1 fun itv s2 hp => ?_
  obtain ⟨it, fp, tn, J, H1, e, I2, T, st2, f2, ds, Cnd, S1, m1, s1', ok, Iv, i0, hsz, icn, turn, fin⟩ := hp
  refine ⟨it, fp, tn, J, H1, e, I2, T, st2, f2, fun Dl hDl => ?_⟩
  have hS1 : S1 Dl = none := m1.free hDl
  obtain ⟨sN, mN⟩ := m1.newM (o := .dK []) (m := .dk []) hDl fun H' S' sb e => ⟨[], e, rfl⟩
  refine ⟨fun i m H' => m = ds.length - i ∧ i ≤ ds.length ∧ ∃ acc S', S' Dl = none ∧ Sim c.X.K H' (sup S' Dl (.dk acc)) ∧ Stp H1 S1 H' (sup S' Dl (.dk acc)) ∧ Iv i acc S', ⟨ds.length, by simp, Nat.zero_le _, [], S1, hS1, mN, sN, i0⟩, ?_⟩
  rintro i m H3 ⟨rfl, hi', acc, S3, n3, m3, s3, v3⟩
  obtain ⟨cn3, al3⟩ := icn i acc S3 Dl n3 v3
  have ok3 := ok H3 _ m3 s3 cn3 i
  by_cases hlt : i < ds.length
  · have hd := List.getElem?_eq_getElem hlt
    obtain ⟨go, yld⟩ := ok3.1 _ hd
    refine .inr ⟨go, fun H' => i + 1 ≤ ds.length ∧ ∃ acc S', S' Dl = none ∧ Sim c.X.K H' (sup S' Dl (.dk acc)) ∧ Stp H1 S1 H' (sup S' Dl (.dk acc)) ∧ Iv (i + 1) acc S', fun H' ⟨q1, q2⟩ => ⟨ds.length - (i + 1), by omega, rfl, q1, q2⟩, fun x H4 y => ?_⟩
    obtain ⟨r4, m4, s4⟩ := yld x H4 y
    obtain ⟨ρ2, hb, jts⟩ := turn Dl i _ acc S3 n3 hd v3
    have slw : Sl c.X.K H4 (sup S3 Dl (.dk acc)) (wipe σ vs) (wipeD ρ vs) := ((dst.sl.step s1').step (s3.trans s4)).wipes vs
    have key : ∀ us : List Nat, (∀ u ∈ us, u ∈ vs) → wipe (wipe σ us) vs = wipe σ vs := fun us => by
      induction us with
      | nil => intro _; rfl
      | cons u us ih =>
        intro hu
        rw [wipe, wipe_set (hu u List.mem_cons_self), ih fun z hz => hu z (List.mem_cons_of_mem _ hz)]
    refine bind_ok slw r4 hb hw fun σ2 sl2 w2 => ⟨by rw [w2, key vs fun _ h => h], ?_⟩
    intro sB HB CB clB fpB
    have jt := jts sB HB CB clB fpB
    have d2 : Ds (blkC c sB HB scope CB clB fpB) σ2 H4 ρ2 (sup S3 Dl (.dk acc)) := ⟨sl2, m4, fun _ _ _ _ _ _ z => z.elim, fun _ _ _ _ _ z => z.elim⟩
    refine jt.then d2 fun k S5 H5 d5 s5 q5 => ?_
    have st5 : Stp H1 S1 H5 S5 := (s3.trans s4).trans s5
    cases k with
    | false =>
      rw [if_neg Bool.false_ne_true] at q5 ⊢
      refine ⟨hlt, acc, sdel S5 Dl, sdel_same, ?_, ?_, q5.2⟩
      · rw [sup_sdel, sup_self q5.1]; exact d5.sim
      · rw [sup_sdel, sup_self q5.1]; exact st5
    | true =>
      rw [if_pos rfl] at q5 ⊢
      intro sC HC CC clC fpC
      have d5' : Ds (blkC c sC HC scope CC clC fpC) σ2 H5 ρ2 S5 := ⟨d5.sl, d5.sim, fun _ _ _ _ _ _ z => z.elim, fun _ _ _ _ _ z => z.elim⟩
      refine (q5 sC HC CC clC fpC).then d5' fun y S6 w H6 r6 d6 s6 q6 => ?_
      intro sD HD CD clD fpD
      have d6' : Ds (blkC c sD HD scope CD clD fpD) σ2 H6 ρ2 S6 := ⟨d6.sl, d6.sim, fun _ _ _ _ _ _ z => z.elim, fun _ _ _ _ _ z => z.elim⟩
      refine (q6 sD HD CD clD fpD).then d6' fun z S7 w7 H7 r7 d7 s7 ⟨key', ek, e7, q7⟩ => ?_
      subst ek
      obtain ⟨ws, hws, rws⟩ := d7.sim Dl _ e7
      obtain ⟨st8, sm8⟩ := d7.sim.write (o := .dK (putK ws key' w7)) (m := .dk (putD acc key' z)) e7 fun H' S' sb e => ⟨_, e, (rws.mono sb).put (r7.mono sb)⟩
      have hl := repP_len rws
      refine ⟨ws, key', kD_rep r6, hws, by omega, hlt, putD acc key' z, sdel S7 Dl, sdel_same, ?_, ?_, q7⟩
      · rw [sup_sdel]; exact sm8
      · rw [sup_sdel]; exact ((st5.trans s6).trans s7).trans st8
  · have e : i = ds.length := by omega
    refine .inl ⟨ok3.2 (by omega) e, ?_⟩
    subst e
    exact hR Dl acc S3 H3 n3 (fin acc S3 Dl n3 v3) m3 (s1'.trans s3)
variable {pat : Pat} {own : List (Str × Nat)}
theorem je_dc (pat : Pat) (own : List (Str × Nat)) (hN : c.X.N.Nodup) (h : JI c tg iter ρ S (DcD c pat kx vx ifs scope (own.map (·.2)) ρ fun Dl acc S' => Q (.ref Dl) (sup S' Dl (.dk acc)))) (hg : LcT c scope tg pat) (ok : L2.blkC c.X.N c.X.env.scope scope own = true) (hw : pat.slots.all (fun i => (own.map (·.2)).contains i) = true := by rfl)
    (hc : c.X.calm = true := by rfl) (hs : ∀ x, foldedSetIterable iter c.X.env x = pure x := by intro _; rfl) : JE c (.DictComp kx vx [⟨tg, iter, ifs, 0⟩] scope pos) ρ S Q :=
  JE.of (pe_dc hc hN PIt (blkOk_by ok) hg (lc_pts c.X) (lc_pe c.X) (lc_pe c.X) hs) fun σ H dst => dc_ok h (fun i hi => by simpa using List.all_eq_true.mp hw i hi) dst fun Dl acc S' H' hn q m st => ⟨.ref Dl, _, rep_ref.mpr rfl, m, st, q⟩
/-- a store's object is let go of, ahead of statements -/
theorem jss_drop {sts : List Stmt} {nx bk ct : NK} {rt : RK} (a : Addr) (h : JSs c sts ρ (sdel S a) nx rt bk ct) : JSs c sts ρ S nx rt bk ct := fun σ H ds => by
  obtain ⟨st, m2⟩ := ds.sim.freeze (a := a)
  exact tSs_mono (h σ H (ds.step m2 st)) (pstE_step st)
/-- {x: v for x in ints}: as many keys as there are numbers -/
theorem putD_in {kvs : List (Key × D)} {k : Key} {d : D} (h : k ∈ kvs.map (·.1)) : (putD kvs k d).map (·.1) = kvs.map (·.1) := by
  unfold putD
  obtain ⟨y, hy, e⟩ := List.mem_map.mp h
  rw [if_pos (List.any_eq_true.mpr ⟨y, hy, decide_eq_true e⟩), List.map_map]
  refine List.map_congr_left fun x _ => ?_
  show (if x.1 = k then (x.1, d) else x).1 = x.1
  split <;> rfl
theorem putD_out {kvs : List (Key × D)} {k : Key} {d : D} (h : k ∉ kvs.map (·.1)) : (putD kvs k d).map (·.1) = kvs.map (·.1) ++ [k] := by
  unfold putD
  rw [if_neg, List.map_append]
  · rfl
  · intro z
    obtain ⟨y, hy, e⟩ := List.any_eq_true.mp z
    exact h (List.mem_map.mpr ⟨y, hy, of_decide_eq_true e⟩)
/-- the numbers of a list, each once, as they come -/
def onceI : List Int → List Int → List Int
  | acc, [] => acc
  | acc, n :: ns => onceI (if n ∈ acc then acc else acc ++ [n]) ns
theorem onceI_len : ∀ (ns acc : List Int), acc.length ≤ (onceI acc ns).length ∧ (onceI acc ns).length ≤ acc.length + ns.length
  | [], acc => ⟨Nat.le_refl _, Nat.le_refl _⟩
  | n :: ns, acc => by
    unfold onceI
    by_cases hh : n ∈ acc
    · rw [if_pos hh]
      have := onceI_len ns acc
      simp only [List.length_cons]
      omega
    · rw [if_neg hh]
      have := onceI_len ns (acc ++ [n])
      rw [List.length_append] at this
      simp only [List.length_cons, List.length_nil] at this ⊢
      omega
theorem onceI_nodup : ∀ (ns acc : List Int), acc.Nodup → ((onceI acc ns).length = acc.length + ns.length ↔ (acc ++ ns).Nodup)
  | [], acc, h => by simpa [onceI] using h
  | n :: ns, acc, h => by
    unfold onceI
    by_cases hn : n ∈ acc
    · rw [if_pos hn]
      have := (onceI_len ns acc).2
      refine ⟨fun e => by simp only [List.length_cons] at e; omega, fun d => ?_⟩
      exact ((List.nodup_append.mp d).2.2 n hn n List.mem_cons_self rfl).elim
    · rw [if_neg hn]
      have hd : (acc ++ [n]).Nodup := List.nodup_append.mpr ⟨h, List.nodup_cons.mpr ⟨List.not_mem_nil, List.nodup_nil⟩, fun x hx y hy e => by
        rw [List.mem_singleton] at hy
        subst hy e
        exact hn hx⟩
      have ih := onceI_nodup ns (acc ++ [n]) hd
      rw [List.append_assoc] at ih
      rw [← show acc ++ ([n] ++ ns) = acc ++ n :: ns from rfl, ← ih, List.length_append]
      simp only [List.length_cons, List.length_nil]
      omega
end
end DP

/-! ends of expressions: what is let go of, lists that are frozen -/
namespace DP
open PySem L2
def sdels (S : SS) : List Addr → SS
  | [] => S
  | a :: l => sdels (sdel S a) l
theorem sdels_ok {K : PySem.W.Frag} {H : Hp} : ∀ (l : List Addr) {S : SS}, Sim K H S → Stp H S H (sdels S l) ∧ Sim K H (sdels S l)
  | [], S, m => ⟨Stp.refl, m⟩
  | a :: l, S, m => by
    obtain ⟨st, m2⟩ := m.freeze (a := a)
    obtain ⟨st3, m3⟩ := sdels_ok l m2
    exact ⟨st.trans st3, m3⟩
section
variable {c : Ctx} {e : Expr} {ρ : DEnv} {S : SS} {Q : D → SS → Prop}
theorem je_fin (h : JE c e ρ S fun d S1 => ∃ l, Q d (sdels S1 l)) : JE c e ρ S Q := fun σ H ds => tE_mono (h σ H ds) fun v H' ⟨d, S', r, m, s, l, q⟩ => by
  obtain ⟨st, m2⟩ := sdels_ok l m
  exact ⟨d, sdels S' l, r.mono st, m2, s.trans st, q⟩
/-- a list of the store never changes from now on -/
theorem je_frz (h : JE c e ρ S fun d S1 => ∃ r xs, d = .ref r ∧ S1 r = some (.lst xs) ∧ Q (.fl xs) (sdel S1 r)) : JE c e ρ S Q := fun σ H ds => tE_mono (h σ H ds) fun v H' ⟨d, S', r, m, s, a, xs, e1, e2, q⟩ => by
  subst e1
  obtain ⟨st, m2⟩ := m.freeze (a := a)
  obtain ⟨vs, h1, h2⟩ := m a _ e2
  exact ⟨.fl xs, sdel S' a, rep_fl.mpr ⟨a, vs, rep_ref.mp r, SqL.of (im_of sdel_same h1), h2.mono st⟩, m2, s.trans st, q⟩
end
/-- a list's item by a place in it -/
theorem atI_in {α : Type} {xs : List α} {n : Int} (h0 : 0 ≤ n) (h1 : n < xs.length) : ∃ x, x ∈ xs ∧ atI xs n = some x := by
  obtain ⟨k, rfl⟩ : ∃ k : Nat, n = k := ⟨n.toNat, by omega⟩
  have hk : k < xs.length := by omega
  exact ⟨xs[k], List.getElem_mem hk, atI_of rfl (List.getElem?_eq_getElem hk)⟩
section
variable {c : Ctx} {tg iter e : Expr} {ρ : DEnv} {S : SS} {R : List D → (SS → Prop) → SS → Prop} {Q : D → SS → Prop}
/-- over a list or a tuple -/
theorem ji_ft {x : D} {xs : List D} (hx : x = .fl xs ∨ x = .tup xs) (h : JE c iter ρ S fun d S1 => d = x ∧ R xs (fun _ => True) S1) : JI c tg iter ρ S R := by
  rcases hx with rfl | rfl
  · exact ji_fl (h.mono fun d S1 ⟨e, q⟩ => ⟨xs, e, q⟩)
  · exact ji_tup (h.mono fun d S1 ⟨e, q⟩ => ⟨xs, e, q⟩)
/-- what is not needed leaves the store ahead of an expression -/
theorem je_let (a : Addr) (h : JE c e ρ (sdel S a) Q) : JE c e ρ S Q := fun σ H ds => by
  obtain ⟨st, m2⟩ := ds.sim.freeze (a := a)
  exact tE_mono (h σ H (ds.step m2 st)) fun v H' q => pst_step st q
theorem onceI_snoc {n : Int} : ∀ (ns acc : List Int), onceI acc (ns ++ [n]) = if n ∈ onceI acc ns then onceI acc ns else onceI acc ns ++ [n]
  | [], acc => rfl
  | m :: ns, acc => by
    show onceI (if m ∈ acc then acc else acc ++ [m]) (ns ++ [n]) = _
    rw [onceI_snoc ns]; rfl
/-- {n: .. for n in ints} -/
theorem DcD.once {pat : Pat} {kx vx : Expr} {scope : Scope} {vs : List Nat} {Qf : Addr → List (Key × D) → SS → Prop} {Cnd : SS → Prop} {ns : List Int} (hsz : ns.length < sizeLine) (hcn : ∀ Dl acc, S Dl = none → Cnd (sup S Dl (.dk acc)))
    (turn : ∀ (n : Int) (S' : SS), ∃ ρ2, bindP pat (.int n) (wipeD ρ vs) = some ρ2 ∧ ∀ (s : Shared) (H : Hp) (C : Addr) (cl : List (Str × Addr)) (fp : List Addr), JE (blkC c s H scope C cl fp) kx ρ2 S' fun y S4 => S4 = S' ∧ y = .int n ∧
      ∀ (s : Shared) (H : Hp) (C : Addr) (cl : List (Str × Addr)) (fp : List Addr), JE (blkC c s H scope C cl fp) vx ρ2 S' fun z S5 => S5 = S')
    (q : ∀ Dl kvs, S Dl = none → kvs.length = (onceI [] ns).length → Qf Dl kvs S) : DcD c pat kx vx [] scope vs ρ Qf (ns.map D.int) Cnd S := by
  refine ⟨fun i acc S' => S' = S ∧ acc.map (·.1) = (onceI [] (ns.take i)).map Sum.inl, ⟨rfl, rfl⟩, by rw [List.length_map]; exact hsz, fun i acc S' Dl hn ⟨e1, e2⟩ => ?_, fun Dl i d acc S' hn hd ⟨e1, e2⟩ => ?_, fun acc S' Dl hn ⟨e1, e2⟩ => ?_⟩
  · subst e1
    refine ⟨hcn Dl acc hn, ?_⟩
    have h1 := congrArg List.length e2
    rw [List.length_map, List.length_map] at h1
    have h2 := (onceI_len (ns.take i) []).2
    rw [List.length_take] at h2
    simp only [List.length_nil] at h2
    omega
  · subst e1
    rw [List.getElem?_map] at hd
    cases hn2 : ns[i]? with
    | none => rw [hn2] at hd; cases hd
    | some n =>
      rw [hn2] at hd
      cases hd
      obtain ⟨ρ2, hb, h⟩ := turn n (sup S' Dl (.dk acc))
      refine ⟨ρ2, hb, fun s H C cl fp => jts_nil ?_⟩
      rw [if_pos rfl]
      intro s H C cl fp
      refine (h s H C cl fp).mono fun y S4 ⟨e4, e5, h5⟩ => ?_
      subst e4 e5
      intro s H C cl fp
      refine (h5 s H C cl fp).mono fun z S5 e6 => ?_
      subst e6
      refine ⟨.inl n, rfl, sup_same, sdel_sup hn, ?_⟩
      have tk : ns.take (i + 1) = ns.take i ++ [n] := by rw [List.take_add_one, hn2]; rfl
      rw [tk, onceI_snoc]
      by_cases hm : n ∈ onceI [] (ns.take i)
      · rw [if_pos hm, putD_in (by rw [e2]; exact List.mem_map.mpr ⟨n, hm, rfl⟩), e2]
      · rw [if_neg hm, putD_out (by
          rw [e2]
          intro z
          obtain ⟨m, hm2, e⟩ := List.mem_map.mp z
          cases e
          exact hm hm2), e2, List.map_append]
        rfl
  · subst e1
    rw [List.length_map, List.take_length] at e2
    refine q Dl acc hn ?_
    have h1 := congrArg List.length e2
    rw [List.length_map, List.length_map] at h1
    exact h1
end
/-- the ints of a list of them -/
def intsOf : List D → Option (List Int)
  | [] => some []
  | .int i :: r => (intsOf r).map (i :: ·)
  | _ :: _ => none
theorem intsOf_map : ∀ {xs : List D} {ns : List Int}, intsOf xs = some ns → xs = ns.map D.int
  | [], ns, h => by cases h; rfl
  | x :: r, ns, h => by
    cases x with
    | int i =>
      have h' : (intsOf r).map (i :: ·) = some ns := h
      cases e : intsOf r with
      | none => rw [e] at h'; cases h'
      | some ms => rw [e] at h'; cases h'; rw [intsOf_map e, List.map_cons]
    | _ => cases h
theorem intsOf_of : ∀ {ns : List Int}, intsOf (ns.map D.int) = some ns
  | [] => rfl
  | n :: ns => by
    show (intsOf (ns.map D.int)).map (n :: ·) = _
    rw [intsOf_of]; rfl
theorem intsOf_all : ∀ {xs : List D}, (xs.map isInt).all id = (intsOf xs).isSome
  | [] => rfl
  | x :: r => by
    rw [List.map_cons, List.all_cons, intsOf_all]
    cases x with
    | int i =>
      show (true && (intsOf r).isSome) = ((intsOf r).map (i :: ·)).isSome
      cases intsOf r <;> rfl
    | _ => rfl
theorem deq_ints {ns ms : List Int} : deq (.fl (ns.map D.int)) (.fl (ms.map D.int)) = decide (ns = ms) := by
  have hn : ∀ ns : List Int, nob (.fl (ns.map D.int)) = true := fun ns => by
    unfold nob
    exact nobs_of fun x hx => by obtain ⟨i, _, rfl⟩ := List.mem_map.mp hx; rfl
  rw [Bool.eq_iff_iff, deq_iff (hn ns) (hn ms), decide_eq_true_iff]
  refine ⟨fun h => ?_, fun h => by rw [h]⟩
  have := intsOf_of (ns := ns)
  rw [D.fl.inj h, intsOf_of] at this
  exact (Option.some.inj this).symm
theorem shp_ints {ns : List Int} : shp (.fl (ns.map D.int)) = true := lev_shp (lev_fl fun x hx => by
  obtain ⟨i, _, rfl⟩ := List.mem_map.mp hx
  exact lev_int)
theorem map_bls {α : Type} {xs : List α} {f : α → D} {g : α → Bool} (h : ∀ x, f x = .bl (g x)) : xs.map f = (xs.map g).map D.bl := by
  rw [List.map_map]
  exact List.map_congr_left fun x _ => h x
/-- x, y = a, b with plain names -/
theorem js_par {c : Ctx} {a b : Expr} {ρ : DEnv} {S : SS} {nx bk ct : NK} {rt : RK} {i j : Nat} {x y : Str} {px py pt pt2 pos : Pos} {kt k2 : Nat} (ni : Nm c i x) (nj : Nm c j y) (nd : c.X.N.Nodup) (hij : i ≠ j) (h : JA c [a, b] ρ S fun ds S1 => ∃ d e, ds = [d, e] ∧ nx ((ρ.set i (some d)).set j (some e)) S1)
    (hx : c.X.env.scope.names.lookup x = some .local := by rfl) (hy : c.X.env.scope.names.lookup y = some .local := by rfl) (hw : swappedStores [.Tuple [.Name x px, .Name y py] kt pt] (.Tuple [a, b] k2 pt2) c.X.env = pure (some [x, y]) := by rfl)
    (hs : swapsWithSole [.Tuple [.Name x px, .Name y py] kt pt] (.Tuple [a, b] k2 pt2) pos.line c.X.env = pure false := by rfl) (hc : c.X.calm = true := by rfl) : JS c (.Assign [.Tuple [.Name x px, .Name y py] kt pt] (.Tuple [a, b] k2 pt2) pos) ρ S nx rt bk ct :=
  JS.of (ps_par hc nd ni.at_ nj.at_ hij hx hy PAt hw hs) fun σ H ds => h.then ds fun dsa S1 vs H1 r d1 s1 ⟨d, e, ed, q⟩ => by
    subst ed
    obtain ⟨v, w, rfl, r1, r2⟩ := reps2 r
    exact ⟨v, w, rfl, (ρ.set i (some d)).set j (some e), S1, (d1.sl.set r1).set r2, d1.sim, s1, q⟩
/-- a statement's ends, told ahead -/
theorem js_via {c : Ctx} {st : Stmt} {ρ : DEnv} {S : SS} {nx bk ct : NK} {rt : RK} {α : Type} (P : α → Prop) (ρ1 : α → DEnv) (S1 : α → SS) (h : ∀ nx' : NK, (∀ a, P a → nx' (ρ1 a) (S1 a)) → JS c st ρ S nx' rt bk ct) (hx : ∀ a, P a → nx (ρ1 a) (S1 a)) : JS c st ρ S nx rt bk ct := h nx hx
theorem dec_bl {a b : Bool} : decide (V.bl a = V.bl b) = decide (a = b) := by cases a <;> cases b <;> rfl
section
variable {c : Ctx} {S : SS} {Q : D → SS → Prop}
theorem od_neB {a b : Bool} (q : Q (.bl (!decide (a = b))) S) : OD c (compareOp .NotEq) (.bl a) (.bl b) S Q :=
  OD.of op_ne fun H v w m rv rw => by
    rw [rep_bl.mp rv, rep_bl.mp rw]
    exact ⟨rfl, pst_same m (rep_bl.mpr (congrArg (fun b => V.bl (!b)) dec_bl)) q⟩
theorem od_eqB {a b : Bool} (q : Q (.bl (decide (a = b))) S) : OD c (compareOp .Eq) (.bl a) (.bl b) S Q :=
  OD.of op_eq fun H v w m rv rw => by
    rw [rep_bl.mp rv, rep_bl.mp rw]
    exact ⟨rfl, pst_same m (rep_bl.mpr (congrArg V.bl dec_bl)) q⟩
theorem od_p30 (q : Q (.int 1000000000000000000000000000000) S) : OD c (binaryOp .Pow) (.int 10) (.int 30) S Q := od_pow (by unfold CPow; decide) (by rw [show (10 : Int) ^ (30 : Int).toNat = 1000000000000000000000000000000 from by decide]; exact q)
end
theorem filter_ints {ns : List Int} (t : D → Bool) : ∃ ms : List Int, ((ns.map D.int).filter t).map id = ms.map D.int ∧ ms.length ≤ ns.length :=
  ⟨ns.filter fun i => t (.int i), by rw [List.map_id, List.filter_map]; rfl, List.length_filter_le _ _⟩
end DP

/-! Readings: what a piece of syntax asks, as a plain term, made once by the rules. -/
namespace DP
open PySem L2

abbrev RE := DEnv → SS → (D → SS → Prop) → Prop
abbrev RB := DEnv → SS → (Bool → SS → Prop) → Prop
abbrev RL := DEnv → SS → (List D → SS → Prop) → Prop
abbrev RZ := DEnv → SS → NK → RK → NK → NK → Prop
abbrev RG := D → DEnv → SS → NK → Prop
abbrev IK := List D → (SS → Prop) → SS → Prop
abbrev RI := DEnv → SS → IK → Prop
structure QE (c : Ctx) (e : Expr) (t : RE) : Prop where
  run : ∀ ρ S Q, t ρ S Q → JE c e ρ S Q
structure QT (c : Ctx) (e : Expr) (t : RB) : Prop where
  run : ∀ ρ S Q, t ρ S Q → JT c e ρ S Q
structure QW (c : Ctx) (e : Expr) (t : RB) : Prop where
  run : ∀ ρ S Q, t ρ S Q → JW c e ρ S Q
structure QA (c : Ctx) (es : List Expr) (t : RL) : Prop where
  run : ∀ ρ S Q, t ρ S Q → JA c es ρ S fun xs S' => xs.length = es.length ∧ Q xs S'
structure QS (c : Ctx) (st : Stmt) (t : RZ) : Prop where
  run : ∀ ρ S nx rt bk ct, t ρ S nx rt bk ct → JS c st ρ S nx rt bk ct
structure QZ (c : Ctx) (st : List Stmt) (t : RZ) : Prop where
  run : ∀ ρ S nx rt bk ct, t ρ S nx rt bk ct → JSs c st ρ S nx rt bk ct
structure QG (c : Ctx) (tg : Expr) (t : RG) : Prop where
  run : ∀ d ρ S nx, t d ρ S nx → JG c tg d ρ S nx
structure QGs (c : Ctx) (tg : List Expr) (t : List D → DEnv → SS → NK → Prop) : Prop where
  run : ∀ ds ρ S nx, t ds ρ S nx → JGs c tg ds ρ S nx ∧ ds.length = tg.length
structure QI (c : Ctx) (tg iter : Expr) (t : RI) : Prop where
  run : ∀ ρ S R, t ρ S R → JI c tg iter ρ S R
section
variable {c : Ctx} {e a b d tg iter : Expr} {es : List Expr} {st : Stmt} {sts : List Stmt} {ρ : DEnv} {S : SS} {nx bk ct : NK} {rt : RK} {pos : Pos}
theorem JT.mono {Q Q' : Bool → SS → Prop} (h : JT c e ρ S Q) (k : ∀ d S', Q d S' → Q' d S') : JT c e ρ S Q' := fun σ H ds => tT_mono (h σ H ds) fun v H' ⟨S', m, s, q⟩ => ⟨S', m, s, k v S' q⟩
theorem JW.mono {Q Q' : Bool → SS → Prop} (h : JW c e ρ S Q) (k : ∀ d S', Q d S' → Q' d S') : JW c e ρ S Q' := fun σ H ds => tW_mono (h σ H ds) fun v H' ⟨S', m, s, q⟩ => ⟨S', m, s, k v S' q⟩
theorem JA.mono {Q Q' : List D → SS → Prop} (h : JA c es ρ S Q) (k : ∀ d S', Q d S' → Q' d S') : JA c es ρ S Q' := fun σ H ds => tA_mono (h σ H ds) fun v H' ⟨d, S', r, m, s, q⟩ => ⟨d, S', r, m, s, k d S' q⟩
theorem pstE_mono {K : PySem.W.Frag} {H : Hp} {nx' bk' ct' : NK} {rt' : RK} (h1 : ∀ ρ S, nx ρ S → nx' ρ S) (h2 : ∀ d S, rt d S → rt' d S) (h3 : ∀ ρ S, bk ρ S → bk' ρ S) (h4 : ∀ ρ S, ct ρ S → ct' ρ S) : EndsLe (pstE K H S nx rt bk ct) (pstE K H S nx' rt' bk' ct') :=
  ⟨fun _ _ ⟨ρ', S', a, b, c, q⟩ => ⟨ρ', S', a, b, c, h1 _ _ q⟩, fun _ _ ⟨ρ', S', a, b, c, q⟩ => ⟨ρ', S', a, b, c, h2 _ _ q⟩, fun _ _ ⟨ρ', S', a, b, c, q⟩ => ⟨ρ', S', a, b, c, h3 _ _ q⟩, fun _ _ ⟨ρ', S', a, b, c, q⟩ => ⟨ρ', S', a, b, c, h4 _ _ q⟩⟩
theorem JS.mono {nx' bk' ct' : NK} {rt' : RK} (h : JS c st ρ S nx rt bk ct) (h1 : ∀ ρ S, nx ρ S → nx' ρ S) (h2 : ∀ d S, rt d S → rt' d S) (h3 : ∀ ρ S, bk ρ S → bk' ρ S) (h4 : ∀ ρ S, ct ρ S → ct' ρ S) : JS c st ρ S nx' rt' bk' ct' := fun σ H ds => tS_mono (h σ H ds) (pstE_mono h1 h2 h3 h4)
theorem JSs.mono {nx' bk' ct' : NK} {rt' : RK} (h : JSs c sts ρ S nx rt bk ct) (h1 : ∀ ρ S, nx ρ S → nx' ρ S) (h2 : ∀ d S, rt d S → rt' d S) (h3 : ∀ ρ S, bk ρ S → bk' ρ S) (h4 : ∀ ρ S, ct ρ S → ct' ρ S) : JSs c sts ρ S nx' rt' bk' ct' := fun σ H ds => tSs_mono (h σ H ds) (pstE_mono h1 h2 h3 h4)
theorem JG.mono {x : D} {nx' : NK} (h : JG c tg x ρ S nx) (k : ∀ ρ S, nx ρ S → nx' ρ S) : JG c tg x ρ S nx' := fun σ H v ds r => tGt_mono (h σ H v ds r) fun σ' H' ⟨ρ', S', a, b, c, q⟩ => ⟨ρ', S', a, b, c, k _ _ q⟩
theorem JGs.mono {xs : List D} {nx' : NK} (h : JGs c es xs ρ S nx) (k : ∀ ρ S, nx ρ S → nx' ρ S) : JGs c es xs ρ S nx' := fun σ H v ds r => by
  obtain ⟨t, g, q⟩ := h σ H v ds r
  exact tGs_use ⟨t, g, q⟩ fun σ' H' ⟨ρ', S', a, b, c, q⟩ => ⟨ρ', S', a, b, c, k _ _ q⟩
theorem JI.mono {R R' : IK} (h : JI c tg iter ρ S R) (k : ∀ ds C S, R ds C S → R' ds C S) : JI c tg iter ρ S R' := fun σ H ds pins s I => by
  refine thn (h σ H ds pins s I) fun v s1 h1 => thn h1 fun itv s2 hp => ?_
  obtain ⟨it, fp, tn, J, H1, e, I2, T, st2, f2, dz, Cnd, S1, m1, s1', ok, q⟩ := hp
  exact ⟨it, fp, tn, J, H1, e, I2, T, st2, f2, dz, Cnd, S1, m1, s1', ok, k _ _ _ q⟩
end

/-! ### slots -/
def rv : DEnv → Nat → (D → Prop) → Prop
  | some d :: _, 0, k => k d
  | _ :: r, i + 1, k => rv r i k
  | _, _, _ => False
theorem rv_ok : ∀ {ρ : DEnv} {i : Nat} {k : D → Prop}, rv ρ i k → ∃ d, ρ[i]? = some (some d) ∧ k d
  | [], i, k, h => by cases i <;> exact h.elim
  | none :: r, 0, k, h => h.elim
  | some d :: r, 0, k, h => ⟨d, rfl, h⟩
  | none :: r, i + 1, k, h => rv_ok (ρ := r) h
  | some d :: r, i + 1, k, h => rv_ok (ρ := r) h
/-- a flag -/
def rbl (x : D) (k : Bool → Prop) : Prop := match x with
  | .bl b => k b
  | _ => False
def rint (x : D) (k : Int → Prop) : Prop := match x with
  | .int b => k b
  | _ => False
theorem rbl_ok {x : D} {k : Bool → Prop} (h : rbl x k) : ∃ b, x = .bl b ∧ k b := by
  cases x <;> first | exact ⟨_, rfl, h⟩ | exact h.elim
theorem rint_ok {x : D} {k : Int → Prop} (h : rint x k) : ∃ b, x = .int b ∧ k b := by
  cases x <;> first | exact ⟨_, rfl, h⟩ | exact h.elim

section
variable {c : Ctx} {e a b d tg iter : Expr} {es : List Expr} {st : Stmt} {sts : List Stmt} {ρ : DEnv} {S : SS} {nx bk ct : NK} {rt : RK} {pos : Pos} {te ta tb td : RE} {wt : RB} {la : RL}
theorem q_n {i : Nat} {x : Str} (n : Nm c i x) : QE c (.Name x pos) fun ρ S Q => rv ρ i fun d => Q d S :=
  ⟨fun ρ S Q h => let ⟨_, h1, h2⟩ := rv_ok h; je_name n h1 h2⟩
theorem q_nv {i : Nat} {x : Str} (n : Nv c i x) : QE c (.Name x pos) fun ρ S Q => rv ρ i fun d => Q d S :=
  ⟨fun ρ S Q h => let ⟨_, h1, h2⟩ := rv_ok h; je_namev n h1 h2⟩
theorem q_int {i : Int} {j : Nat} : QE c (.Constant (.int i) j pos) fun _ S Q => Q (.int i) S := ⟨fun _ _ _ h => je_int h⟩
theorem q_bl {i : Bool} {j : Nat} : QE c (.Constant (.bool i) j pos) fun _ S Q => Q (.bl i) S := ⟨fun _ _ _ h => je_bl h⟩
theorem q_non {j : Nat} : QE c (.Constant .none j pos) fun _ S Q => Q .non S := ⟨fun _ _ _ h => je_non h⟩
theorem q_str {x : Str} {j : Nat} : QE c (.Constant (.str x) j pos) fun _ S Q => Q (.str x) S := ⟨fun _ _ _ h => je_str h⟩
theorem q_gint {x : Str} {i : Int} (hm : ∃ t, c.X.mg x = some (.int i t)) (hg : Gl c.X x := by rfl) (hx : (x == ("__debug__" : Str)) = false := by decide) : QE c (.Name x pos) fun _ S Q => Q (.int i) S := ⟨fun _ _ _ h => let ⟨_, hm⟩ := hm; je_gint hg hm h hx⟩
theorem q_gstr {x y : Str} (hm : ∃ t, c.X.mg x = some (.str y t)) (hg : Gl c.X x := by rfl) (hx : (x == ("__debug__" : Str)) = false := by decide) : QE c (.Name x pos) fun _ S Q => Q (.str y) S := ⟨fun _ _ _ h => let ⟨_, hm⟩ := hm; je_gstr hg hm h hx⟩
theorem q_gref {x : Str} {a : Addr} (hm : c.X.mg x = some (.ref a)) (hg : Gl c.X x := by rfl) (hx : (x == ("__debug__" : Str)) = false := by decide) : QE c (.Name x pos) fun _ S Q => Q (.ref a) S := ⟨fun _ _ _ h => je_gref hg hm h hx⟩
theorem q_ty {x : Str} {n : String} (hm : c.X.mg x = none) (hv : bootBuiltins x = some (.type n)) (hg : Gl c.X x := by rfl) (hn : x ≠ "__name__" := by decide) (hx : (x == ("__debug__" : Str)) = false := by decide) : QE c (.Name x pos) fun _ S Q => Q (.ty n) S := ⟨fun _ _ _ h => je_ty hg hm hv h hn hx⟩

/-! ### operators -/
def rI2 (g : Int → Int → Prop) (x y : D) : Prop := match x with
  | .int i => (match y with | .int j => g i j | _ => False)
  | _ => False
theorem rI2_ok {g : Int → Int → Prop} {x y : D} (h : rI2 g x y) : ∃ i j, x = .int i ∧ y = .int j ∧ g i j := by
  cases x with
  | int i =>
    cases y with
    | int j => exact ⟨i, j, rfl, rfl, h⟩
    | _ => exact h.elim
  | _ => exact h.elim
/-- a list's items -/
def rItm (x : D) (S : SS) (k : List D → Prop) : Prop := match x with
  | .fl xs => k xs
  | .ref a => ∃ xs, S a = some (.lst xs) ∧ k xs
  | _ => False
theorem rItm_ok {x : D} {k : List D → Prop} (h : rItm x S k) : ∃ xs, IsL S x xs ∧ k xs := by
  cases x with
  | fl xs => exact ⟨xs, .fl, h⟩
  | ref a => obtain ⟨xs, h0, h1⟩ := h; exact ⟨xs, .ref h0, h1⟩
  | _ => exact h.elim
def rAdd (x y : D) (S : SS) (Q : D → Prop) : Prop := match x with
  | .int i => (match y with | .int j => Q (.int (i + j)) | _ => False)
  | .tup xs => (match y with | .tup ys => xs.length + ys.length ≤ sizeLine ∧ Q (.tup (xs ++ ys)) | _ => False)
  | .fl xs => rItm y S fun ys => xs.length + ys.length ≤ sizeLine ∧ Q (.fl (xs ++ ys))
  | .ref a => ∃ xs, S a = some (.lst xs) ∧ rItm y S fun ys => xs.length + ys.length ≤ sizeLine ∧ Q (.fl (xs ++ ys))
  | _ => False
def rBin (op : Operator) (x y : D) (S : SS) (Q : D → Prop) : Prop := match op with
  | .Add => rAdd x y S Q
  | .Sub => rI2 (fun i j => Q (.int (i - j))) x y
  | .Mult => rI2 (fun i j => IntMulOk i j ∧ Q (.int (i * j))) x y
  | .FloorDiv => rI2 (fun i j => CDivW i j ∧ Q (.int (i / j))) x y
  | .Mod => rI2 (fun i j => 0 < j ∧ Q (.int (i % j))) x y
  | .Pow => rI2 (fun i j => CPow i j ∧ Q (.int (i ^ j.toNat))) x y
  | _ => False
theorem rAdd_ok {x y : D} {Q : D → SS → Prop} (h : rAdd x y S fun z => Q z S) : OD c (binaryOp .Add) x y S Q := by
  cases x with
  | int i =>
    cases y with
    | int j => exact od_add h
    | _ => exact h.elim
  | tup xs =>
    cases y with
    | tup ys => exact od_catA h.1 h.2
    | _ => exact h.elim
  | fl xs => obtain ⟨ys, h0, h1, h2⟩ := rItm_ok h; exact od_cat .fl h0 h1 h2
  | ref a => obtain ⟨xs, h3, h⟩ := h; obtain ⟨ys, h0, h1, h2⟩ := rItm_ok h; exact od_cat (.ref h3) h0 h1 h2
  | _ => exact h.elim
theorem rBin_ok {op : Operator} {x y : D} {Q : D → SS → Prop} (h : rBin op x y S fun z => Q z S) : OD c (binaryOp op) x y S Q := by
  cases op with
  | Add => exact rAdd_ok h
  | Sub => obtain ⟨i, j, rfl, rfl, h⟩ := rI2_ok h; exact od_sub h
  | Mult => obtain ⟨i, j, rfl, rfl, h⟩ := rI2_ok h; exact od_mul h.1 h.2
  | FloorDiv => obtain ⟨i, j, rfl, rfl, h⟩ := rI2_ok h; exact od_fdiv h.1 h.2
  | Mod => obtain ⟨i, j, rfl, rfl, h⟩ := rI2_ok h; exact od_mod h.1 h.2
  | Pow => obtain ⟨i, j, rfl, rfl, h⟩ := rI2_ok h; exact od_pow h.1 h.2
  | _ => exact h.elim
theorem q_bin {op : Operator} (ha : QE c a ta) (hb : QE c b tb) : QE c (.BinOp a op b pos) fun ρ S Q => ta ρ S fun x S1 => tb ρ S1 fun y S2 => rBin op x y S2 fun z => Q z S2 :=
  ⟨fun ρ S Q h => je_bin ((ha.run _ _ _ h).mono fun x S1 h => (hb.run _ _ _ h).mono fun y S2 h => rBin_ok h)⟩
def isSeq (S : SS) (x : D) (xs : List D) : Prop := IsL S x xs ∨ x = .tup xs
/-- a key -/
def rKey (x : D) (k : Key → Prop) : Prop := match x with
  | .int i => k (.inl i)
  | .str s => k (.inr s)
  | _ => False
theorem rKey_ok {x : D} {k : Key → Prop} (h : rKey x k) : ∃ key, x = kD key ∧ k key := by
  cases x with
  | int i => exact ⟨.inl i, rfl, h⟩
  | str i => exact ⟨.inr i, rfl, h⟩
  | _ => exact h.elim
/-- keys of a dict -/
def hasK (kvs : List (Key × D)) (k : Key) : Bool := kvs.any fun p => decide (p.1 = k)
def getK (kvs : List (Key × D)) (k : Key) : Option D := (kvs.find? fun p => decide (p.1 = k)).map (·.2)
def delK (kvs : List (Key × D)) (k : Key) : List (Key × D) := kvs.filter fun p => decide (p.1 ≠ k)
theorem valV_rep {K : PySem.W.Frag} {G : Hp} {k : Key} : ∀ {kvs : List (Key × D)} {vs : List (Key × V)}, RepP K G kvs vs → (∀ d, getK kvs k = some d → ∃ v, valV vs k = some v ∧ Rep K G d v) ∧ (getK kvs k = none → valV vs k = none) := by
  intro kvs
  induction kvs with
  | nil => intro vs h; cases h; exact ⟨fun d h => (by cases h), fun _ => rfl⟩
  | cons p r ih =>
    intro vs h
    obtain ⟨k0, d0⟩ := p
    obtain ⟨v, t, rfl, h1, h2⟩ := h
    have ih := ih h2
    unfold getK valV at *
    rw [List.find?_cons, List.find?_cons]
    by_cases e : k0 = k
    · simp only [e, decide_true]
      exact ⟨fun d h => by cases h; exact ⟨v, rfl, h1⟩, fun h => by cases h⟩
    · simp only [e, decide_false]
      exact ih
theorem getK_has {k : Key} : ∀ {kvs : List (Key × D)}, (getK kvs k).isSome = hasK kvs k
  | [] => rfl
  | (k0, d0) :: r => by
    have ih := getK_has (k := k) (kvs := r)
    unfold getK hasK at *
    rw [List.find?_cons, List.any_cons]
    by_cases e : k0 = k
    · simp [e]
    · simp only [e, decide_false, Bool.false_or]; exact ih
/-- what `==` reads of a value: a list of the store at the very top, too -/
def rDat (S : SS) (x : D) (k : D → Prop) : Prop := match x with
  | .ref a => ∃ xs, S a = some (.lst xs) ∧ shp (.fl xs) = true ∧ k (.fl xs)
  | x => shp x = true ∧ k x
def rEqv (S : SS) (x y : D) (Q : Bool → Prop) : Prop := match x with
  | .int i => (match y with | .int j => Q (decide (i = j)) | _ => rDat S y fun y => Q (deq (.int i) y))
  | .str i => (match y with | .str j => Q (decide (i = j)) | _ => shp (.str i) = true ∧ rDat S y fun y => Q (deq (.str i) y))
  | .bl i => (match y with | .bl j => Q (decide (i = j)) | _ => rDat S y fun y => Q (deq (.bl i) y))
  | .ref a => (∃ xs, S a = some (.lst xs) ∧ shp (.fl xs) = true ∧ rDat S y fun y => Q (deq (.fl xs) y)) ∨ ∃ ks b ls, y = .ref b ∧ S a = some (.dk ks) ∧ S b = some (.dk ls) ∧ ks.length = ls.length ∧ (∀ p ∈ ks, getK ls p.1 = some p.2 ∧ flD p.2 = true) ∧ Q true
  | x => shp x = true ∧ rDat S y fun y => Q (deq x y)
theorem shp_int {i : Int} : shp (.int i) = true := rfl
theorem shp_bl {i : Bool} : shp (.bl i) = true := rfl
theorem rDat_ok {x : D} {k : D → Prop} (h : rDat S x k) : ∃ z, shp z = true ∧ k z ∧ ∀ K H v, Sim K H S → Rep K (im H S) x v → Dp K H v (toPy z) := by
  have key : ∀ z : D, shp z = true → ∀ K H v, Sim K H S → Rep K (im H S) z v → Dp K H v (toPy z) := fun z h K H v _ r => by
    unfold shp at h
    rw [Bool.and_eq_true] at h
    exact rep_dp sub_im z v h.1 r
  cases x with
  | ref a =>
    obtain ⟨xs, h0, h1, h2⟩ := h
    refine ⟨.fl xs, h1, h2, fun K H v m r => ?_⟩
    rw [rep_ref.mp r]
    obtain ⟨vs, e1, e2⟩ := m a _ h0
    unfold shp at h1
    rw [Bool.and_eq_true] at h1
    have h3 := h1.1
    unfold isDt at h3
    unfold toPy
    exact .lst (SqL.of e1) (reps_dp sub_im xs vs h3 e2)
  | _ => exact ⟨_, h.1, h.2, key _ h.1⟩
theorem rEqv_ok {x y : D} {Q : Bool → Prop} (h : rEqv S x y Q) : (∃ i j, x = .int i ∧ y = .int j ∧ Q (decide (i = j))) ∨ (∃ i j, x = .str i ∧ y = .str j ∧ Q (decide (i = j))) ∨ (∃ i j, x = .bl i ∧ y = .bl j ∧ Q (decide (i = j))) ∨ (rDat S x fun x => rDat S y fun y => Q (deq x y)) ∨ ∃ a ks b ls, x = .ref a ∧ y = .ref b ∧ S a = some (.dk ks) ∧ S b = some (.dk ls) ∧ ks.length = ls.length ∧ (∀ p ∈ ks, getK ls p.1 = some p.2 ∧ flD p.2 = true) ∧ Q true := by
  cases x with
  | int i =>
    cases y with
    | int j => exact .inl ⟨_, _, rfl, rfl, h⟩
    | _ => exact .inr (.inr (.inr (.inl ⟨rfl, h⟩)))
  | str i =>
    cases y with
    | str j => exact .inr (.inl ⟨_, _, rfl, rfl, h⟩)
    | _ => exact .inr (.inr (.inr (.inl h)))
  | bl i =>
    cases y with
    | bl j => exact .inr (.inr (.inl ⟨_, _, rfl, rfl, h⟩))
    | _ => exact .inr (.inr (.inr (.inl ⟨rfl, h⟩)))
  | ref a =>
    rcases h with h | ⟨ks, b, ls, rfl, h1, h2, h3, h4, h5⟩
    · exact .inr (.inr (.inr (.inl h)))
    · exact .inr (.inr (.inr (.inr ⟨a, ks, b, ls, rfl, rfl, h1, h2, h3, h4, h5⟩)))
  | _ => exact .inr (.inr (.inr (.inl h)))
def Un (c : Ctx) : Prop := c.X.A.units + 66 < cLine
theorem dk_same {K : PySem.W.Frag} {G : Hp} {ls : List (Key × D)} {ws : List (Key × V)} : ∀ {ks : List (Key × D)} {vs : List (Key × V)}, RepP K G ks vs → RepP K G ls ws → (∀ p ∈ ks, getK ls p.1 = some p.2 ∧ flD p.2 = true) → ∀ p ∈ vs, valV ws p.1 = some p.2 ∧ flatB p.2 = true
  | [], vs, h, _, _ => by cases h; intro p hp; cases hp
  | (k, d) :: ks, vs, h, hl, hp => by
    obtain ⟨v, t, rfl, h1, h2⟩ := h
    intro p hm
    rcases List.mem_cons.mp hm with rfl | hm
    · obtain ⟨e1, e2⟩ := hp (k, d) List.mem_cons_self
      obtain ⟨z, e3, e4⟩ := (valV_rep hl).1 d e1
      obtain ⟨e5, e6⟩ := fl_rep e2 h1
      obtain ⟨e7, _⟩ := fl_rep e2 e4
      refine ⟨by rw [e3, e5, e7], ?_⟩
      subst e5
      cases d <;> first | rfl | cases e2
    · exact dk_same h2 hl (fun q hq => hp q (List.mem_cons_of_mem _ hq)) p hm
theorem rEqv_eq {x y : D} {Q : D → SS → Prop} (hu : Un c) (h : rEqv S x y fun b => Q (.bl b) S) : OD c (compareOp .Eq) x y S Q := by
  unfold Un at hu
  rcases rEqv_ok h with ⟨i, j, rfl, rfl, q⟩ | ⟨i, j, rfl, rfl, q⟩ | ⟨i, j, rfl, rfl, q⟩ | h | ⟨a, ks, b, ls, rfl, rfl, h1, h2, h3, h4, q⟩
  · exact od_eqI q
  · exact od_eqS q
  · exact od_eqB q
  · obtain ⟨z, s1, h1, k1⟩ := rDat_ok h
    obtain ⟨u, s2, q, k2⟩ := rDat_ok h1
    refine OD.of (op_eqD (by omega)) fun H v w m rv rw => ?_
    unfold shp at s1 s2
    simp only [Bool.and_eq_true] at s1 s2
    exact ⟨_, _, k1 _ _ _ m rv, k2 _ _ _ m rw, s1.2, s2.2, pst_same m (rep_bl.mpr rfl) q⟩
  · refine OD.of (op_eq_dictA (by omega)) fun H v w m rv rw => ?_
    obtain ⟨vs, e1, e2⟩ := m a _ h1
    obtain ⟨ws, e3, e4⟩ := m b _ h2
    exact ⟨a, b, vs, ws, rep_ref.mp rv, rep_ref.mp rw, e1, e3, by rw [← repP_len e2, ← repP_len e4]; exact h3, dk_same e2 e4 h4, pst_same m (rep_bl.mpr rfl) q⟩
theorem rEqv_ne {x y : D} {Q : D → SS → Prop} (hu : Un c) (h : rEqv S x y fun b => Q (.bl (!b)) S) : OD c (compareOp .NotEq) x y S Q := by
  unfold Un at hu
  rcases rEqv_ok h with ⟨i, j, rfl, rfl, q⟩ | ⟨i, j, rfl, rfl, q⟩ | ⟨i, j, rfl, rfl, q⟩ | h | ⟨a, ks, b, ls, rfl, rfl, h1, h2, h3, h4, q⟩
  · exact od_neI q
  · exact od_neS q
  · exact od_neB q
  · obtain ⟨z, s1, h1, k1⟩ := rDat_ok h
    obtain ⟨u, s2, q, k2⟩ := rDat_ok h1
    refine OD.of (op_neD (by omega)) fun H v w m rv rw => ?_
    unfold shp at s1 s2
    simp only [Bool.and_eq_true] at s1 s2
    exact ⟨_, _, k1 _ _ _ m rv, k2 _ _ _ m rw, s1.2, s2.2, pst_same m (rep_bl.mpr rfl) q⟩
  · refine OD.of (op_ne_dictA (by omega)) fun H v w m rv rw => ?_
    obtain ⟨vs, e1, e2⟩ := m a _ h1
    obtain ⟨ws, e3, e4⟩ := m b _ h2
    exact ⟨a, b, vs, ws, rep_ref.mp rv, rep_ref.mp rw, e1, e3, by rw [← repP_len e2, ← repP_len e4]; exact h3, dk_same e2 e4 h4, pst_same m (rep_bl.mpr rfl) q⟩
def rIs (x y : D) (Q : Bool → Prop) : Prop := match y with
  | .non => Q (isNon x)
  | .bl j => (match x with | .bl i => Q (decide (i = j)) | _ => False)
  | _ => False
theorem rIs_is {x y : D} {Q : D → SS → Prop} (h : rIs x y fun b => Q (.bl b) S) : OD c (compareOp .Is) x y S Q := by
  cases y with
  | non => exact od_isN h
  | bl j =>
    cases x with
    | bl i => exact od_isB h
    | _ => exact h.elim
  | _ => exact h.elim
theorem rIs_not {x y : D} {Q : D → SS → Prop} (h : rIs x y fun b => Q (.bl (!b)) S) : OD c (compareOp .IsNot) x y S Q := by
  cases y with
  | non => exact od_notN h
  | bl j =>
    cases x with
    | bl i => exact od_notB h
    | _ => exact h.elim
  | _ => exact h.elim
/-- `in` -/
def inS (s z : Str) : Bool := !(Builtin.Str.occurrences z s 0 z.length 1).isEmpty
def rIn (S : SS) (x y : D) (Q : Bool → Prop) : Prop := match y with
  | .str z => (match x with | .str s => Q (inS s z) | _ => False)
  | .tup xs => flD x = true ∧ xs.all flD = true ∧ Q (inF x xs)
  | .fl xs => flD x = true ∧ xs.all flD = true ∧ Q (inF x xs)
  | .ref a => (∃ xs, S a = some (.lst xs) ∧ flD x = true ∧ xs.all flD = true ∧ Q (inF x xs)) ∨ ∃ kvs, S a = some (.dk kvs) ∧ rKey x fun k => Q (hasK kvs k)
  | _ => False
theorem pst_b {H : Hp} {b : Bool} {Q : D → SS → Prop} (m : Sim c.X.K H S) (q : Q (.bl b) S) : pst c.X.K H S Q (.bl b) H := pst_same m (rep_bl.mpr rfl) q
theorem flat_ok {K : PySem.W.Frag} {H : Hp} {xs : List D} {y : D} {v : V} (hy : IsL S y xs ∨ y = .tup xs) (m : Sim K H S) (r : Rep K (im H S) y v) : ∃ a vs, v = .ref a ∧ (SqL K H a vs ∨ SqT K H a vs) ∧ Reps K (im H S) xs vs := IsQ.sq hy r m
theorem dk_get {K : PySem.W.Frag} {H : Hp} {a : Addr} {kvs : List (Key × D)} {key : Key} {v w : V} (h0 : S a = some (.dk kvs)) (m : Sim K H S) (r1 : Rep K (im H S) (kD key) v) (r2 : Rep K (im H S) (.ref a) w) : ∃ b o, w = V.ref b ∧ DGet H b v o ∧ o.isSome = hasK kvs key := by
  obtain ⟨vs, e1, e2⟩ := m a _ h0
  refine ⟨a, _, rep_ref.mp r2, by rw [kD_rep r1]; exact DGet.k e1, ?_⟩
  obtain ⟨k1, k2⟩ := valV_rep (k := key) e2
  rw [← getK_has]
  cases e : getK kvs key with
  | none => rw [k2 e] <;> rfl
  | some d => obtain ⟨v', e3, _⟩ := k1 d e; rw [e3] <;> rfl
theorem rIn_in {x y : D} {Q : D → SS → Prop} (hu : Un c) (h : rIn S x y fun b => Q (.bl b) S) : OD c (compareOp .In) x y S Q := by
  unfold Un at hu
  cases y with
  | str z =>
    cases x with
    | str s => exact OD.of op_in_str fun H v w m rv rw => ⟨s, z, rep_str.mp rv, rep_str.mp rw, pst_b m h⟩
    | _ => exact h.elim
  | tup xs => exact od_in (.inr rfl) h.1 h.2.1 h.2.2
  | fl xs => exact od_in (.inl .fl) h.1 h.2.1 h.2.2
  | ref a =>
    rcases h with ⟨xs, h0, h1, h2, h3⟩ | ⟨kvs, h0, h⟩
    · exact od_in (.inl (.ref h0)) h1 h2 h3
    · obtain ⟨key, rfl, q⟩ := rKey_ok h
      intro H v w m r1 r2 pins s σ u1 u2 I rx ry
      obtain ⟨b, o, rfl, g, eo⟩ := dk_get h0 m r1 r2
      obtain rfl : u2 = Value.ref b := ry
      exact d_in (by omega) I g rx fun s' I' => ⟨.bl o.isSome, H, I', rfl, by rw [eo]; exact pst_b m q⟩
  | _ => exact h.elim
theorem rIn_notin {x y : D} {Q : D → SS → Prop} (hu : Un c) (h : rIn S x y fun b => Q (.bl (!b)) S) : OD c (compareOp .NotIn) x y S Q := by
  unfold Un at hu
  cases y with
  | str z =>
    cases x with
    | str s => exact OD.of op_notin_str fun H v w m rv rw => ⟨s, z, rep_str.mp rv, rep_str.mp rw, pst_b m h⟩
    | _ => exact h.elim
  | tup xs => exact od_notIn (.inr rfl) h.1 h.2.1 h.2.2
  | fl xs => exact od_notIn (.inl .fl) h.1 h.2.1 h.2.2
  | ref a =>
    rcases h with ⟨xs, h0, h1, h2, h3⟩ | ⟨kvs, h0, h⟩
    · exact od_notIn (.inl (.ref h0)) h1 h2 h3
    · obtain ⟨key, rfl, q⟩ := rKey_ok h
      intro H v w m r1 r2 pins s σ u1 u2 I rx ry
      obtain ⟨b, o, rfl, g, eo⟩ := dk_get h0 m r1 r2
      obtain rfl : u2 = Value.ref b := ry
      exact d_notIn (by omega) I g rx fun s' I' => ⟨.bl (!o.isSome), H, I', rfl, by rw [eo]; exact pst_b m q⟩
  | _ => exact h.elim
def strLt (a b : Str) : Bool := decide (a.cps.toList < b.cps.toList)
def rOrd (f : Int → Int → Bool) (g : Str → Str → Bool) (x y : D) (Q : Bool → Prop) : Prop := match x with
  | .int i => (match y with | .int j => Q (f i j) | _ => False)
  | .str i => (match y with | .str j => Q (g i j) | _ => False)
  | _ => False
def rCmp (op : CmpOp) (S : SS) (x y : D) (Q : Bool → Prop) : Prop := match op with
  | .Eq => rEqv S x y Q
  | .NotEq => rEqv S x y fun b => Q (!b)
  | .Is => rIs x y Q
  | .IsNot => rIs x y fun b => Q (!b)
  | .In => rIn S x y Q
  | .NotIn => rIn S x y fun b => Q (!b)
  | .Lt => rOrd (fun i j => decide (i < j)) (fun i j => strLt i j) x y Q
  | .LtE => rOrd (fun i j => decide (i ≤ j)) (fun i j => !strLt j i) x y Q
  | .Gt => rOrd (fun i j => decide (j < i)) (fun i j => strLt j i) x y Q
  | .GtE => rOrd (fun i j => decide (j ≤ i)) (fun i j => !strLt i j) x y Q
theorem rCmp_ok {op : CmpOp} {x y : D} {Q : D → SS → Prop} (hu : Un c) (h : rCmp op S x y fun b => Q (.bl b) S) : OD c (compareOp op) x y S Q := by
  cases op with
  | Eq => exact rEqv_eq hu h
  | NotEq => exact rEqv_ne hu h
  | Is => exact rIs_is h
  | IsNot => exact rIs_not h
  | In => exact rIn_in hu h
  | NotIn => exact rIn_notin hu h
  | Lt =>
    cases x with
    | int i =>
      cases y with
      | int j => exact od_lt h
      | _ => exact h.elim
    | str i =>
      cases y with
      | str j => exact OD.of op_lt_str fun H v w m rv rw => ⟨i, j, rep_str.mp rv, rep_str.mp rw, pst_b m h⟩
      | _ => exact h.elim
    | _ => exact h.elim
  | LtE =>
    cases x with
    | int i =>
      cases y with
      | int j => exact od_le h
      | _ => exact h.elim
    | str i =>
      cases y with
      | str j => exact OD.of op_le_str fun H v w m rv rw => ⟨i, j, rep_str.mp rv, rep_str.mp rw, pst_b m h⟩
      | _ => exact h.elim
    | _ => exact h.elim
  | Gt =>
    cases x with
    | int i =>
      cases y with
      | int j => exact od_gt h
      | _ => exact h.elim
    | str i =>
      cases y with
      | str j => exact OD.of op_gt_str fun H v w m rv rw => ⟨i, j, rep_str.mp rv, rep_str.mp rw, pst_b m h⟩
      | _ => exact h.elim
    | _ => exact h.elim
  | GtE =>
    cases x with
    | int i =>
      cases y with
      | int j => exact od_ge h
      | _ => exact h.elim
    | str i =>
      cases y with
      | str j => exact OD.of op_ge_str fun H v w m rv rw => ⟨i, j, rep_str.mp rv, rep_str.mp rw, pst_b m h⟩
      | _ => exact h.elim
    | _ => exact h.elim
theorem rDat_mono {x : D} {k1 k2 : D → Prop} (k : ∀ b, k1 b → k2 b) (h : rDat S x k1) : rDat S x k2 := by
  cases x with
  | ref a => obtain ⟨xs, h0, h1, h2⟩ := h; exact ⟨xs, h0, h1, k _ h2⟩
  | _ => exact ⟨h.1, k _ h.2⟩
theorem rEqv_mono {x y : D} {k1 k2 : Bool → Prop} (k : ∀ b, k1 b → k2 b) (h : rEqv S x y k1) : rEqv S x y k2 := by
  have dm : ∀ z : D, rDat S y (fun y => k1 (deq z y)) → rDat S y (fun y => k2 (deq z y)) := fun z h => rDat_mono (fun _ => k _) h
  cases x with
  | int i =>
    cases y with
    | int j => exact k _ h
    | _ => exact dm _ h
  | str i =>
    cases y with
    | str j => exact k _ h
    | _ => exact ⟨h.1, dm _ h.2⟩
  | bl i =>
    cases y with
    | bl j => exact k _ h
    | _ => exact dm _ h
  | ref a =>
    rcases h with ⟨xs, h0, h1, h2⟩ | ⟨ks, b, ls, h1, h2, h3, h4, h5, h6⟩
    · exact .inl ⟨xs, h0, h1, dm _ h2⟩
    · exact .inr ⟨ks, b, ls, h1, h2, h3, h4, h5, k _ h6⟩
  | _ => exact ⟨h.1, dm _ h.2⟩
theorem rIs_mono {x y : D} {k1 k2 : Bool → Prop} (k : ∀ b, k1 b → k2 b) (h : rIs x y k1) : rIs x y k2 := by
  cases y with
  | non => exact k _ h
  | bl j =>
    cases x with
    | bl i => exact k _ h
    | _ => exact h.elim
  | _ => exact h.elim
theorem rKey_mono {x : D} {k1 k2 : Key → Prop} (k : ∀ b, k1 b → k2 b) (h : rKey x k1) : rKey x k2 := by
  cases x with
  | int i => exact k _ h
  | str i => exact k _ h
  | _ => exact h.elim
theorem rIn_mono {x y : D} {k1 k2 : Bool → Prop} (k : ∀ b, k1 b → k2 b) (h : rIn S x y k1) : rIn S x y k2 := by
  cases y with
  | str z =>
    cases x with
    | str s => exact k _ h
    | _ => exact h.elim
  | tup xs => exact ⟨h.1, h.2.1, k _ h.2.2⟩
  | fl xs => exact ⟨h.1, h.2.1, k _ h.2.2⟩
  | ref a =>
    rcases h with ⟨xs, h0, h1, h2, h3⟩ | ⟨kvs, h0, h⟩
    · exact .inl ⟨xs, h0, h1, h2, k _ h3⟩
    · exact .inr ⟨kvs, h0, rKey_mono (fun _ => k _) h⟩
  | _ => exact h.elim
theorem rOrd_mono {f : Int → Int → Bool} {g : Str → Str → Bool} {x y : D} {k1 k2 : Bool → Prop} (k : ∀ b, k1 b → k2 b) (h : rOrd f g x y k1) : rOrd f g x y k2 := by
  cases x with
  | int i =>
    cases y with
    | int j => exact k _ h
    | _ => exact h.elim
  | str i =>
    cases y with
    | str j => exact k _ h
    | _ => exact h.elim
  | _ => exact h.elim
theorem rCmp_mono {op : CmpOp} {x y : D} {k1 k2 : Bool → Prop} (k : ∀ b, k1 b → k2 b) (h : rCmp op S x y k1) : rCmp op S x y k2 := by
  cases op with
  | Eq => exact rEqv_mono k h
  | NotEq => exact rEqv_mono (fun _ => k _) h
  | Is => exact rIs_mono k h
  | IsNot => exact rIs_mono (fun _ => k _) h
  | In => exact rIn_mono k h
  | NotIn => exact rIn_mono (fun _ => k _) h
  | _ => exact rOrd_mono k h
theorem q_cmp {op : CmpOp} (hu : Un c) (ha : QE c a ta) (hb : QE c b tb) (hm : behindInMarks op b = false := by first | exact nomark _ | rfl) : QE c (.Compare a [op] [b] pos) fun ρ S Q => ta ρ S fun x S1 => tb ρ S1 fun y S2 => rCmp op S2 x y fun b => Q (.bl b) S2 :=
  ⟨fun ρ S Q h => je_cmp ((ha.run _ _ _ h).mono fun x S1 h => (hb.run _ _ _ h).mono fun y S2 h => rCmp_ok hu h) hm⟩
theorem qt_cmp {op : CmpOp} (hu : Un c) (ha : QE c a ta) (hb : QE c b tb) (hm : behindInMarks op b = false := by first | exact nomark _ | rfl) : QT c (.Compare a [op] [b] pos) fun ρ S Q => ta ρ S fun x S1 => tb ρ S1 fun y S2 => rCmp op S2 x y fun b => Q b S2 :=
  ⟨fun ρ S Q h => jt_cmp ((ha.run _ _ _ h).mono fun x S1 h => (hb.run _ _ _ h).mono fun y S2 h => rCmp_ok (Q := fun z S3 => ∃ k, z = .bl k ∧ Q k S3) hu (rCmp_mono (fun b q => ⟨b, rfl, q⟩) h)) hm⟩
theorem q_chain {op op' : CmpOp} (hu : Un c) (ha : QE c a ta) (hb : QE c b tb) (hd : QE c d td) (hm : lastMarks [op, op'] [b, d] = false := by with_unfolding_all rfl) : QE c (.Compare a [op, op'] [b, d] pos) fun ρ S Q => ta ρ S fun x S1 => tb ρ S1 fun y S2 => rCmp op S2 x y fun k => if k = true then td ρ S2 fun z S3 => rCmp op' S3 y z fun b => Q (.bl b) S3 else Q (.bl false) S2 :=
  ⟨fun ρ S Q h => je_chain ((ha.run _ _ _ h).mono fun x S1 h => (hb.run _ _ _ h).mono fun y S2 h => rCmp_ok hu (rCmp_mono (fun b q => by
    refine ⟨b, rfl, ?_⟩
    cases b with
    | true => rw [if_pos rfl] at q ⊢; exact (hd.run _ _ _ q).mono fun z S3 h => rCmp_ok hu h
    | false => rw [if_neg Bool.false_ne_true] at q ⊢; exact q) h)) hm⟩
theorem qt_chain {op op' : CmpOp} (hu : Un c) (ha : QE c a ta) (hb : QE c b tb) (hd : QE c d td) (hm : lastMarks [op, op'] [b, d] = false := by with_unfolding_all rfl) : QT c (.Compare a [op, op'] [b, d] pos) fun ρ S Q => ta ρ S fun x S1 => tb ρ S1 fun y S2 => rCmp op S2 x y fun k => if k = true then td ρ S2 fun z S3 => rCmp op' S3 y z fun b => Q b S3 else Q false S2 :=
  ⟨fun ρ S Q h => jt_chain ((ha.run _ _ _ h).mono fun x S1 h => (hb.run _ _ _ h).mono fun y S2 h => rCmp_ok hu (rCmp_mono (fun b q => by
    refine ⟨b, rfl, ?_⟩
    cases b with
    | true => rw [if_pos rfl] at q ⊢; exact (hd.run _ _ _ q).mono fun z S3 h => rCmp_ok (Q := fun z S3 => ∃ k, z = .bl k ∧ Q k S3) hu (rCmp_mono (fun b q => ⟨b, rfl, q⟩) h)
    | false => rw [if_neg Bool.false_ne_true] at q ⊢; exact q) h)) hm⟩

/-! ### and, or, not, if .. else -/
variable {fe fa fb : RB}
theorem q_ife (he : QT c e fe) (ha : QE c a ta) (hb : QE c b tb) : QE c (.IfExp e a b pos) fun ρ S Q => fe ρ S fun k S1 => if k = true then ta ρ S1 Q else tb ρ S1 Q :=
  ⟨fun ρ S Q h => je_ifExp ((he.run _ _ _ h).mono fun k S1 q => by
    cases k with
    | true => rw [if_pos rfl] at q ⊢; exact ha.run _ _ _ q
    | false => rw [if_neg Bool.false_ne_true] at q ⊢; exact hb.run _ _ _ q)⟩
theorem q_one {op} (ha : QE c a ta) : QE c (.BoolOp op [a] pos) ta := ⟨fun ρ S Q h => je_one (ha.run _ _ _ h)⟩
theorem q_and (ha : QE c a ta) (hb : QE c (.BoolOp .And (b :: es) pos) tb) : QE c (.BoolOp .And (a :: b :: es) pos) fun ρ S Q => ta ρ S fun x S1 => rbl x fun k => if k = true then tb ρ S1 Q else Q (.bl false) S1 :=
  ⟨fun ρ S Q h => je_and ((ha.run _ _ _ h).mono fun x S1 q => by
    obtain ⟨k, rfl, q2⟩ := rbl_ok q
    refine ⟨k, rfl, ?_⟩
    cases k with
    | true => rw [if_pos rfl] at q2 ⊢; exact hb.run _ _ _ q2
    | false => rw [if_neg Bool.false_ne_true] at q2 ⊢; exact q2)⟩
theorem q_or (ha : QE c a ta) (hb : QE c (.BoolOp .Or (b :: es) pos) tb) : QE c (.BoolOp .Or (a :: b :: es) pos) fun ρ S Q => ta ρ S fun x S1 => rbl x fun k => if k = true then Q (.bl true) S1 else tb ρ S1 Q :=
  ⟨fun ρ S Q h => je_or ((ha.run _ _ _ h).mono fun x S1 q => by
    obtain ⟨k, rfl, q2⟩ := rbl_ok q
    refine ⟨k, rfl, ?_⟩
    cases k with
    | true => rw [if_pos rfl] at q2 ⊢; exact q2
    | false => rw [if_neg Bool.false_ne_true] at q2 ⊢; exact hb.run _ _ _ q2)⟩
theorem q_not (ha : QE c a ta) : QE c (.UnaryOp .Not a pos) fun ρ S Q => ta ρ S fun x S1 => rbl x fun k => Q (.bl (!k)) S1 :=
  ⟨fun ρ S Q h => je_not ((ha.run _ _ _ h).mono fun x S1 q => rbl_ok q)⟩
theorem q_neg (ha : QE c a ta) : QE c (.UnaryOp .USub a pos) fun ρ S Q => ta ρ S fun x S1 => rint x fun k => Q (.int (-k)) S1 :=
  ⟨fun ρ S Q h => je_neg ((ha.run _ _ _ h).mono fun x S1 q => rint_ok q)⟩
theorem qt_not (ha : QT c a fa) : QT c (.UnaryOp .Not a pos) fun ρ S Q => fa ρ S fun k S1 => Q (!k) S1 := ⟨fun ρ S Q h => jt_not (ha.run _ _ _ h)⟩
theorem qt_w (ha : QW c a fa) : QT c a fa := ⟨fun ρ S Q h => jt_w (ha.run _ _ _ h)⟩
theorem qw_and1 (ha : QT c a fa) : QW c (.BoolOp .And [a] pos) fa := ⟨fun ρ S Q h => jw_and1 (ha.run _ _ _ h)⟩
theorem qw_or1 (ha : QT c a fa) : QW c (.BoolOp .Or [a] pos) fa := ⟨fun ρ S Q h => jw_or1 (ha.run _ _ _ h)⟩
theorem qw_and (ha : QT c a fa) (hb : QW c (.BoolOp .And (b :: es) pos) fb) : QW c (.BoolOp .And (a :: b :: es) pos) fun ρ S Q => fa ρ S fun k S1 => if k = true then fb ρ S1 Q else Q false S1 :=
  ⟨fun ρ S Q h => jw_and ((ha.run _ _ _ h).mono fun k S1 q => by
    cases k with
    | true => rw [if_pos rfl] at q ⊢; exact hb.run _ _ _ q
    | false => rw [if_neg Bool.false_ne_true] at q ⊢; exact q)⟩
theorem qw_or (ha : QT c a fa) (hb : QW c (.BoolOp .Or (b :: es) pos) fb) : QW c (.BoolOp .Or (a :: b :: es) pos) fun ρ S Q => fa ρ S fun k S1 => if k = true then Q true S1 else fb ρ S1 Q :=
  ⟨fun ρ S Q h => jw_or ((ha.run _ _ _ h).mono fun k S1 q => by
    cases k with
    | true => rw [if_pos rfl] at q ⊢; exact q
    | false => rw [if_neg Bool.false_ne_true] at q ⊢; exact hb.run _ _ _ q)⟩
/-- a value's truth -/
def rTru (S : SS) (x : D) (Q : Bool → Prop) : Prop := match x with
  | .non => Q false
  | .bl b => Q b
  | .int i => Q (i != 0)
  | .str y => y.length ≤ sizeLine ∧ Q ((y.length : Int) != 0)
  | .tup xs => Q (!xs.isEmpty)
  | .fl xs => Q (!xs.isEmpty)
  | .ref a => (∃ xs, S a = some (.lst xs) ∧ Q (!xs.isEmpty)) ∨ (∃ kvs, S a = some (.dk kvs) ∧ Q (!kvs.isEmpty))
  | .ty _ => False
  | .lam _ _ _ _ => False
theorem rTru_ok {x : D} {Q : Bool → Prop} (h : rTru S x Q) : ∃ k, TD S x k ∧ Q k := by
  cases x with
  | non => exact ⟨_, rfl, h⟩
  | bl b => exact ⟨_, rfl, h⟩
  | int b => exact ⟨_, rfl, h⟩
  | str b => exact ⟨_, ⟨h.1, rfl⟩, h.2⟩
  | tup b => exact ⟨_, rfl, h⟩
  | fl b => exact ⟨_, rfl, h⟩
  | ref a =>
    rcases h with ⟨xs, h0, h⟩ | ⟨xs, h0, h⟩
    · exact ⟨_, ⟨_, h0, rfl⟩, h⟩
    · exact ⟨_, ⟨_, h0, rfl⟩, h⟩
  | ty n => exact h.elim
  | lam f c q G => exact h.elim
theorem qt_tru (ha : QE c e te) (he : ∀ whole, isTrue e c.X.env whole = (do let v ← whole; standAt e.pos; holding [v] (truthy v)) := by intro _; rfl) : QT c e fun ρ S Q => te ρ S fun x S1 => rTru S1 x fun k => Q k S1 :=
  ⟨fun ρ S Q h => jt_truth ((ha.run _ _ _ h).mono fun x S1 q => rTru_ok q) he⟩

/-! ### arguments, displays -/
theorem qa_nil : QA c [] fun _ S Q => Q [] S := ⟨fun _ _ _ h => ja_nil ⟨rfl, h⟩⟩
theorem qa_cons (ha : QE c e te) (hb : QA c es la) (hs : starEach (e :: es) c.X.env = (false, eval e c.X.env) :: starEach es c.X.env := by rfl) : QA c (e :: es) fun ρ S Q => te ρ S fun x S1 => la ρ S1 fun xs S2 => Q (x :: xs) S2 :=
  ⟨fun ρ S Q h => ja_cons ((ha.run _ _ _ h).mono fun x S1 h => (hb.run _ _ _ h).mono fun xs S2 h => ⟨by simp only [List.length_cons, h.1], h.2⟩) hs⟩
theorem q_tup {k : Nat} (ha : QA c es la) (hl : es.length ≤ 1000 := by decide) : QE c (.Tuple es k pos) fun ρ S Q => la ρ S fun xs S1 => Q (.tup xs) S1 :=
  ⟨fun ρ S Q h => je_tup ((ha.run _ _ _ h).mono fun xs S1 h => ⟨by rw [h.1, sizeLine_eq]; omega, h.2⟩)⟩
/-- a list that never changes from now on -/
theorem q_lst (ha : QA c es la) (hl : es.length ≤ 1000 := by decide) : QE c (.List es pos) fun ρ S Q => la ρ S fun xs S1 => Q (.fl xs) S1 :=
  ⟨fun ρ S Q h => je_lst ((ha.run _ _ _ h).mono fun xs S1 h => ⟨by rw [h.1, sizeLine_eq]; omega, h.2⟩)⟩
/-- a list of the store -/
theorem q_lstM (ha : QA c es la) (hl : es.length ≤ 1000 := by decide) : QE c (.List es pos) fun ρ S Q => la ρ S fun xs S1 => ∀ p, S1 p = none → Q (.ref p) (sup S1 p (.lst xs)) :=
  ⟨fun ρ S Q h => je_lstM ((ha.run _ _ _ h).mono fun xs S1 h => ⟨by rw [h.1, sizeLine_eq]; omega, h.2⟩)⟩

/-! ### statements -/
variable {z1 z2 : RZ} {sa sb : List Stmt} {gt : RG}
theorem qz_nil : QZ c [] fun ρ S nx _ _ _ => nx ρ S := ⟨fun _ _ _ _ _ _ h => jss_nil h⟩
theorem qz_cons (h1 : QS c st z1) (h2 : QZ c sts z2) : QZ c (st :: sts) fun ρ S nx rt bk ct => z1 ρ S (fun ρ S => z2 ρ S nx rt bk ct) rt bk ct :=
  ⟨fun ρ S nx rt bk ct h => jss_cons ((h1.run _ _ _ _ _ _ h).mono (fun _ _ h => h2.run _ _ _ _ _ _ h) (fun _ _ h => h) (fun _ _ h => h) (fun _ _ h => h))⟩
theorem qz_one (h1 : QS c st z1) : QZ c [st] z1 := ⟨fun ρ S nx rt bk ct h => jss_cons ((h1.run _ _ _ _ _ _ h).mono (fun _ _ h => jss_nil h) (fun _ _ h => h) (fun _ _ h => h) (fun _ _ h => h))⟩
theorem qs_pass : QS c (.Pass pos) fun ρ S nx _ _ _ => nx ρ S := ⟨fun _ _ _ _ _ _ h => js_pass h⟩
theorem qs_break : QS c (.Break pos) fun ρ S _ _ bk _ => bk ρ S := ⟨fun _ _ _ _ _ _ h => js_break h⟩
theorem qs_continue : QS c (.Continue pos) fun ρ S _ _ _ ct => ct ρ S := ⟨fun _ _ _ _ _ _ h => js_continue h⟩
theorem qs_expr (h1 : QE c e te) (hs : swapsWith e none pos.line c.X.env = pure false := by rfl) : QS c (.Expr e pos) fun ρ S nx _ _ _ => te ρ S fun _ S1 => nx ρ S1 := ⟨fun ρ S nx rt bk ct h => js_expr (h1.run _ _ _ h) hs⟩
theorem qs_ret (h1 : QE c e te) : QS c (.Return (some e) pos) fun ρ S _ rt _ _ => te ρ S rt := ⟨fun ρ S nx rt bk ct h => js_ret (h1.run _ _ _ h)⟩
theorem qs_retN : QS c (.Return none pos) fun _ S _ rt _ _ => rt .non S := ⟨fun ρ S nx rt bk ct h => js_retN h⟩
theorem qs_if (he : QT c e fe) (h1 : QZ c sa z1) (h2 : QZ c sb z2) : QS c (.If e sa sb pos) fun ρ S nx rt bk ct => fe ρ S fun k S1 => if k = true then z1 ρ S1 nx rt bk ct else z2 ρ S1 nx rt bk ct :=
  ⟨fun ρ S nx rt bk ct h => js_if ((he.run _ _ _ h).mono fun k S1 q => by
    cases k with
    | true => rw [if_pos rfl] at q ⊢; exact h1.run _ _ _ _ _ _ q
    | false => rw [if_neg Bool.false_ne_true] at q ⊢; exact h2.run _ _ _ _ _ _ q)⟩
theorem qs_st {i : Nat} {x : Str} {pos' : Pos} (n : Nm c i x) (nd : c.X.N.Nodup) (h1 : QE c e te) (hs : swapsWith e (some (.Name x pos')) pos.line c.X.env = pure false := by rfl) : QS c (.Assign [.Name x pos'] e pos) fun ρ S nx _ _ _ => te ρ S fun d S1 => nx (ρ.set i (some d)) S1 :=
  ⟨fun ρ S nx rt bk ct h => js_st n nd (h1.run _ _ _ h) hs⟩
theorem qs_asg (h1 : QE c e te) (h2 : QG c tg gt) (hs : swapsWithSole [tg] e pos.line c.X.env = pure false := by rfl) (hw : swappedStores [tg] e c.X.env = pure none := by rfl)
    (h3 : (assignEach [tg] c.X.env).map (·.2) = [assign tg c.X.env] := by rfl) : QS c (.Assign [tg] e pos) fun ρ S nx _ _ _ => te ρ S fun d S1 => gt d ρ S1 nx :=
  ⟨fun ρ S nx rt bk ct h => js_asg ((h1.run _ _ _ h).mono fun d S1 h => h2.run _ _ _ _ h) hs hw h3⟩
def rIp (op : Operator) (x y : D) (Q : D → Prop) : Prop := match op with
  | .Add => rI2 (fun i j => Q (.int (i + j))) x y
  | .Sub => rI2 (fun i j => Q (.int (i - j))) x y
  | _ => False
theorem rIp_ok {op : Operator} {x y : D} {Q : D → SS → Prop} (h : rIp op x y fun z => Q z S) : OD c (inplaceOp op) x y S Q := by
  cases op with
  | Add => obtain ⟨i, j, rfl, rfl, h⟩ := rI2_ok h; exact od_iadd h
  | Sub => obtain ⟨i, j, rfl, rfl, h⟩ := rI2_ok h; exact od_isub h
  | _ => exact h.elim
theorem qs_aug {i : Nat} {x : Str} {op : Operator} {pos' : Pos} (n : Nm c i x) (nd : c.X.N.Nodup) (h1 : QE c e te) : QS c (.AugAssign (.Name x pos') op e pos) fun ρ S nx _ _ _ => rv ρ i fun d => te ρ S fun y S1 => rIp op d y fun z => nx (ρ.set i (some z)) S1 :=
  ⟨fun ρ S nx rt bk ct h => let ⟨_, hd, h⟩ := rv_ok h; js_aug i hd ((h1.run _ _ _ h).mono fun y S1 h => rIp_ok h) nd n.at_ n.loc n.fn⟩
theorem qg_n {i : Nat} {x : Str} (n : Nm c i x) (nd : c.X.N.Nodup) : QG c (.Name x pos) fun d ρ S nx => nx (ρ.set i (some d)) S := ⟨fun d ρ S nx h => jg_nm n nd h⟩
theorem qgs_nil : QGs c [] fun ds ρ S nx => ds = [] ∧ nx ρ S := ⟨fun ds ρ S nx h => by obtain ⟨rfl, h⟩ := h; exact ⟨jgs_nil h, rfl⟩⟩
def rCons (ds : List D) (k : D → List D → Prop) : Prop := match ds with
  | d :: r => k d r
  | [] => False
theorem qgs_one (h1 : QG c tg gt) (hs : (assignEach [tg] c.X.env).map (·.2) = assign tg c.X.env :: (assignEach [] c.X.env).map (·.2) := by rfl) : QGs c [tg] fun ds ρ S nx => rCons ds fun d r => r = [] ∧ gt d ρ S nx :=
  ⟨fun ds ρ S nx h => by
    cases ds with
    | nil => exact h.elim
    | cons d r => obtain ⟨rfl, h⟩ := h; exact ⟨jgs_cons ((h1.run _ _ _ _ h).mono fun _ _ h => jgs_nil h) hs, rfl⟩⟩
/-- a target of names, one behind another (stores of names alone) -/
theorem qgs_n {i : Nat} {x : Str} {es : List Expr} {gs : List D → DEnv → SS → NK → Prop} (n : Nm c i x) (nd : c.X.N.Nodup) (h2 : QGs c es gs) (hs : (assignEach (.Name x pos :: es) c.X.env).map (·.2) = assign (.Name x pos) c.X.env :: (assignEach es c.X.env).map (·.2) := by rfl) :
    QGs c (.Name x pos :: es) fun ds ρ S nx => rCons ds fun d r => gs r (ρ.set i (some d)) S nx :=
  ⟨fun ds ρ S nx h => by
    cases ds with
    | nil => exact h.elim
    | cons d r => obtain ⟨h3, h4⟩ := h2.run _ _ _ _ h; exact ⟨jgs_cons (jg_nm n nd h3) hs, by simp only [List.length_cons, h4]⟩⟩
def rTup (x : D) (k : List D → Prop) : Prop := match x with
  | .tup xs => k xs
  | _ => False
theorem qg_tup {es : List Expr} {k : Nat} {gs : List D → DEnv → SS → NK → Prop} (h : QGs c es gs) (hc : c.X.calm = true := by rfl) (hn : (assignEach es c.X.env).length = es.length := by rfl) (hst : (assignEach es c.X.env).findIdx? (·.1) = none := by rfl) : QG c (.Tuple es k pos) fun d ρ S nx => rTup d fun ds => gs ds ρ S nx :=
  ⟨fun d ρ S nx q => by
    cases d with
    | tup ds => obtain ⟨h3, h4⟩ := h.run _ _ _ _ q; exact jg_tup h3 h4 hc hn hst
    | _ => exact q.elim⟩

/-! ### loops -/
theorem qs_for {it : RI} {z1 : RZ} {body : List Stmt} (hi : QI c tg iter it) (hg : QG c tg gt) (hb : QZ c body z1) (po : PassesOwn (model c.X.prog c.X.w) c.X.A c.X.env c.X.xe) (hc : c.X.calm = true := by rfl) (hs : ∀ x, foldedSetIterable iter c.X.env x = pure x := by intro _; rfl) :
    QS c (.For tg iter body [] pos) fun ρ S nx rt _ _ => it ρ S fun ds Cnd S1 => ∃ Iv : List D → DEnv → SS → Prop, Iv ds ρ S1 ∧ (∀ r ρ' S', Iv r ρ' S' → Cnd S') ∧
      (∀ d r ρ' S', Iv (d :: r) ρ' S' → gt d ρ' S' fun ρ2 S2 => z1 ρ2 S2 (Iv r) rt nx (Iv r)) ∧ (∀ ρ' S', Iv [] ρ' S' → nx ρ' S') :=
  ⟨fun ρ S nx rt bk ct h => js_for ((hi.run _ _ _ h).mono fun ds Cnd S1 ⟨Iv, i0, ic, is, ie⟩ => ForD.todo Iv i0 ic (fun d r ρ' S' q => (hg.run _ _ _ _ (is d r ρ' S' q)).mono fun ρ2 S2 h => hb.run _ _ _ _ _ _ h) ie) po hc hs⟩
theorem qs_while {z1 : RZ} {body : List Stmt} (he : QT c e fe) (hb : QZ c body z1) (po : PassesOwn (model c.X.prog c.X.w) c.X.A c.X.env c.X.xe) :
    QS c (.While e body [] pos) fun ρ S nx rt _ _ => ∃ Iv : Nat → DEnv → SS → Prop, (∃ n, Iv n ρ S) ∧
      ∀ n ρ' S', Iv n ρ' S' → fe ρ' S' fun k S1 => if k = true then z1 ρ' S1 (fun ρ2 S2 => ∃ m, m < n ∧ Iv m ρ2 S2) rt nx (fun ρ2 S2 => ∃ m, m < n ∧ Iv m ρ2 S2) else nx ρ' S1 :=
  ⟨fun ρ S nx rt bk ct ⟨Iv, ⟨n0, i0⟩, is⟩ => js_while Iv n0 i0 (fun n ρ' S' q => (he.run _ _ _ (is n ρ' S' q)).mono fun k S1 q => by
    cases k with
    | true => rw [if_pos rfl] at q ⊢; exact hb.run _ _ _ _ _ _ q
    | false => rw [if_neg Bool.false_ne_true] at q ⊢; exact q) po⟩
end
end DP

namespace DP
open PySem L2
/-! ### what is walked -/
section
variable {X : Cx} {tg : Expr} {pins : List (Addr × Obj)} {σ : L2.St} {H : Hp} {s : Shared} {a : Addr} {xs : List V} {R : It → Hp → Prop}
theorem walk_lst (I : L2.Inv X pins σ H s) (hq : SqL X.K H a xs) (q : R (Itl X.K a) H) : wpAny (model X.prog X.w) X.A (pyIter (.ref a)) (PIE X pins σ tg R) X.xe s := by
  obtain ⟨items, _, pl, _⟩ := I.list hq
  refine wpAny_pyIter_list pl.isList ⟨s.heap.objs.size, [s.heap.objs.size], _, Itl X.K a, H, rfl, ?_, turn_list a _, ?_, fun b hb => ?_, q⟩
  · exact I.kept (t' := s.toks) fun b o e => Heap.get?_push_of_some _ e
  · exact ⟨_, Heap.get?_push_size _ rfl, rfl, rfl⟩
  · rw [List.mem_singleton] at hb
    rw [hb]
    exact I.fpOk (Nat.le_refl _) (I.hok.fresh (Nat.le_refl _))
theorem walk_tup (I : L2.Inv X pins σ H s) (hq : SqT X.K H a xs) (q : R (Itt X.K a) H) : wpAny (model X.prog X.w) X.A (pyIter (.ref a)) (PIE X pins σ tg R) X.xe s := by
  obtain ⟨items, _, pl, _⟩ := I.tuple hq
  refine wpAny_pyIter_tuple (show s.heap.IsTuple a items.toArray from pl) ⟨s.heap.objs.size, [s.heap.objs.size], _, Itt X.K a, H, rfl, ?_, turn_tuple a _, ?_, fun b hb => ?_, q⟩
  · exact I.kept (t' := s.toks) fun b o e => Heap.get?_push_of_some _ e
  · exact ⟨_, Heap.get?_push_size _ rfl, rfl, rfl⟩
  · rw [List.mem_singleton] at hb
    rw [hb]
    exact I.fpOk (Nat.le_refl _) (I.hok.fresh (Nat.le_refl _))
theorem walk_str {x : Str} {t : Tok} (I : L2.Inv X pins σ H s) (q : R (Its x) H) : wpAny (model X.prog X.w) X.A (pyIter (.str x t)) (PIE X pins σ tg R) X.xe s := by
  cases ha : x.cps.all (· < 128) with
  | false => exact wpAny_pyIter_wide ha (pi_one (tk := s.toks) I _ (turn_str _ x t "str_iterator" (.inr rfl)) ⟨_, Heap.get?_push_size _ rfl, rfl, rfl⟩ q)
  | true => exact wpAny_pyIter_ascii ha (pi_one (tk := s.toks) I _ (turn_str _ x t "str_ascii_iterator" (.inl rfl)) ⟨_, Heap.get?_push_size _ rfl, rfl, rfl⟩ q)
end
/-- the signs of a text -/
def signs (x : Str) : List D := x.cps.toList.map fun c => .str ⟨#[c]⟩
section
variable {K : PySem.W.Frag} {H0 : Hp} {S0 : SS}
theorem it_fl {a : Addr} {xs : List D} {vs : List V} (h1 : SqL K (im H0 S0) a vs) (h2 : Reps K (im H0 S0) xs vs) : ItOk K (Itl K a) xs (fun _ => True) H0 S0 := fun H2 S2 m2 st _ i => by
  have hs : SqL K H2 a vs := sub_im.l (Sub.l st h1)
  refine ⟨fun d hd => ?_, fun _ hl => ⟨vs, hs, by rw [← h2.length]; omega⟩⟩
  obtain ⟨z, hz, rz⟩ := h2.get hd
  refine ⟨⟨vs, z, hs, hz⟩, fun x H' y => ?_⟩
  obtain ⟨e, y⟩ := y
  subst e
  have := y vs hs
  rw [hz] at this; cases this
  exact ⟨rz.mono st, m2, Stp.refl⟩
theorem it_tup {a : Addr} {xs : List D} {vs : List V} (h1 : SqT K (im H0 S0) a vs) (h2 : Reps K (im H0 S0) xs vs) : ItOk K (Itt K a) xs (fun _ => True) H0 S0 := fun H2 S2 m2 st _ i => by
  have hs : SqT K H2 a vs := sub_im.t (Sub.t st h1)
  refine ⟨fun d hd => ?_, fun _ hl => ⟨vs, hs, by rw [← h2.length]; omega⟩⟩
  obtain ⟨z, hz, rz⟩ := h2.get hd
  refine ⟨⟨vs, z, hs, hz⟩, fun x H' y => ?_⟩
  obtain ⟨e, y⟩ := y
  subst e
  have := y vs hs
  rw [hz] at this; cases this
  exact ⟨rz.mono st, m2, Stp.refl⟩
theorem it_lst {a : Addr} {xs : List D} : ItOk K (Itl K a) xs (fun S' => S' a = some (.lst xs)) H0 S0 := fun H2 S2 m2 st cn i => by
  obtain ⟨ws, h3, h4⟩ := m2 a _ cn
  refine ⟨fun d hd => ?_, fun _ hl => ⟨ws, SqL.of h3, by rw [← h4.length]; omega⟩⟩
  obtain ⟨z, hz, rz⟩ := h4.get hd
  refine ⟨⟨ws, z, SqL.of h3, hz⟩, fun x H' y => ?_⟩
  obtain ⟨e, y⟩ := y
  subst e
  have := y ws (SqL.of h3)
  rw [hz] at this; cases this
  exact ⟨rz, m2, Stp.refl⟩
theorem it_str {x : Str} : ItOk K (Its x) (signs x) (fun _ => True) H0 S0 := fun H2 S2 m2 st cn i => by
  have hl : (signs x).length = x.cps.size := by unfold signs; simp
  refine ⟨fun d hd => ?_, fun h1 _ => by show x.cps.size ≤ i; omega⟩
  have hi : i < x.cps.size := by
    obtain ⟨h, _⟩ := List.getElem?_eq_some_iff.mp hd
    omega
  refine ⟨hi, fun v H' y => ?_⟩
  obtain ⟨e, c, hc, ev⟩ := y
  subst e ev
  refine ⟨?_, m2, Stp.refl⟩
  unfold signs at hd
  rw [List.getElem?_map, Array.getElem?_toList, hc] at hd
  cases hd
  exact rep_str.mpr rfl
end
def rSeq (S : SS) (x : D) (R : IK) : Prop := match x with
  | .fl xs => R xs (fun _ => True) S
  | .tup xs => R xs (fun _ => True) S
  | .str x => R (signs x) (fun _ => True) S
  | .ref a => ∃ xs, S a = some (.lst xs) ∧ R xs (fun S' => S' a = some (.lst xs)) S
  | _ => False
section
variable {c : Ctx} {e o a b d tg iter elt : Expr} {es : List Expr} {ρ : DEnv} {S : SS} {nx bk ct : NK} {rt : RK} {pos p : Pos} {te ta tb td : RE} {la : RL} {fe : RB}
theorem qi_seq (h : QE c iter te) : QI c tg iter fun ρ S R => te ρ S fun x S1 => rSeq S1 x R :=
  ⟨fun ρ S R q σ H ds pins s I => by
    refine thn (h.run _ _ _ q σ H ds pins s I) fun v s1 ⟨w, H1, I1, rw1, x, S1, r, m, st, q1⟩ => ?_
    cases x with
    | fl xs =>
      obtain ⟨a, vs, rfl, h1, h2⟩ := rep_fl.mp r
      obtain rfl : v = Value.ref a := rw1
      exact walk_lst I1 (sub_im.l h1) ⟨xs, _, S1, m, st, it_fl h1 h2, q1⟩
    | tup xs =>
      obtain ⟨a, vs, rfl, h1, h2⟩ := rep_tup.mp r
      obtain rfl : v = Value.ref a := rw1
      exact walk_tup I1 (sub_im.t h1) ⟨xs, _, S1, m, st, it_tup h1 h2, q1⟩
    | str x =>
      rw [rep_str.mp r] at rw1
      obtain ⟨t, rfl⟩ := rw1
      exact walk_str I1 ⟨_, _, S1, m, st, it_str, q1⟩
    | ref a =>
      obtain ⟨xs, h0, q1⟩ := q1
      rw [rep_ref.mp r] at rw1
      obtain rfl : v = Value.ref a := rw1
      obtain ⟨vs, e1, e2⟩ := m a _ h0
      exact walk_lst I1 (SqL.of e1) ⟨xs, _, S1, m, st, it_lst, q1⟩
    | _ => exact q1.elim⟩
theorem qi_range1 (hm : c.X.mg "range" = none) (ha : QE c a ta) (hg : Gl c.X "range" := by rfl) (hs : starEach [a] c.X.env = [(false, eval a c.X.env)] := by rfl) : QI c tg (.Call (.Name "range" p) [a] [] pos) fun ρ S R => ta ρ S fun x S1 => rint x fun n => (-(2 ^ 62) ≤ n ∧ n < 2 ^ 62) ∧ R (irng 0 n.toNat) (fun _ => True) S1 :=
  ⟨fun ρ S R h => ji_range1 hm ((ha.run _ _ _ h).mono fun x S1 q => by obtain ⟨n, rfl, ⟨h1, h2⟩, h3⟩ := rint_ok q; exact ⟨n, rfl, h1, h2, h3⟩) hg hs⟩
theorem qi_range2 (hm : c.X.mg "range" = none) (ha : QE c a ta) (hb : QE c b tb) (hg : Gl c.X "range" := by rfl)
    (hs1 : starEach [a, b] c.X.env = (false, eval a c.X.env) :: starEach [b] c.X.env := by rfl) (hs2 : starEach [b] c.X.env = (false, eval b c.X.env) :: starEach [] c.X.env := by rfl) (hs2' : starEach [b] c.X.env = [(false, eval b c.X.env)] := by rfl) (hs : starEach [a, b] c.X.env = [(false, eval a c.X.env), (false, eval b c.X.env)] := by rfl) (hs3 : (backTo pos (starEach [b] c.X.env)).any (·.1) = false := by rfl) :
    QI c tg (.Call (.Name "range" p) [a, b] [] pos) fun ρ S R => ta ρ S fun x S1 => tb ρ S1 fun y S2 => rI2 (fun i j => (-(2 ^ 62) ≤ i ∧ i < 2 ^ 62 ∧ -(2 ^ 62) ≤ j ∧ j < 2 ^ 62) ∧ R (irng i (j - i).toNat) (fun _ => True) S2) x y :=
  ⟨fun ρ S R h => ji_range2 hm ((ha.run _ _ _ h).mono fun x S1 h => (hb.run _ _ _ h).mono fun y S2 q => by obtain ⟨i, j, rfl, rfl, h1, h2⟩ := rI2_ok q; exact ⟨i, j, rfl, rfl, h1, h2⟩) hg hs1 hs2 hs2' hs hs3⟩
def rfl' (x : D) (k : List D → Prop) : Prop := match x with
  | .fl xs => k xs
  | _ => False
theorem rfl'_ok {x : D} {k : List D → Prop} (h : rfl' x k) : ∃ xs, x = .fl xs ∧ k xs := by
  cases x with
  | fl xs => exact ⟨xs, rfl, h⟩
  | _ => exact h.elim
theorem rTup_ok {x : D} {k : List D → Prop} (h : rTup x k) : ∃ xs, x = .tup xs ∧ k xs := by
  cases x with
  | tup xs => exact ⟨xs, rfl, h⟩
  | _ => exact h.elim
theorem qi_enum {elts : List Expr} {kk : Nat} {tpos : Pos} (hm : c.X.mg "enumerate" = none) (ha : QE c a ta) (hg : Gl c.X "enumerate" := by rfl) (hs : starEach [a] c.X.env = [(false, eval a c.X.env)] := by rfl) : QI c (.Tuple elts kk tpos) (.Call (.Name "enumerate" p) [a] [] pos) fun ρ S R => ta ρ S fun x S1 => rfl' x fun xs => R (enums xs) (fun _ => True) S1 :=
  ⟨fun ρ S R h => ji_enum (elts := elts) (kk := kk) hm ((ha.run _ _ _ h).mono fun x S1 q => rfl'_ok q) hg hs⟩
theorem qi_enumT {elts : List Expr} {kk : Nat} {tpos : Pos} (hm : c.X.mg "enumerate" = none) (ha : QE c a ta) (hg : Gl c.X "enumerate" := by rfl) (hs : starEach [a] c.X.env = [(false, eval a c.X.env)] := by rfl) : QI c (.Tuple elts kk tpos) (.Call (.Name "enumerate" p) [a] [] pos) fun ρ S R => ta ρ S fun x S1 => rTup x fun xs => R (enums xs) (fun _ => True) S1 :=
  ⟨fun ρ S R h => ji_enumT (elts := elts) (kk := kk) hm ((ha.run _ _ _ h).mono fun x S1 q => rTup_ok q) hg hs⟩
theorem qi_zip {elts : List Expr} {kk : Nat} {tpos : Pos} (hm : c.X.mg "zip" = none) (ha : QE c a ta) (hb : QE c b tb) (hg : Gl c.X "zip" := by rfl)
    (hs1 : starEach [a, b] c.X.env = (false, eval a c.X.env) :: starEach [b] c.X.env := by rfl) (hs2 : starEach [b] c.X.env = (false, eval b c.X.env) :: starEach [] c.X.env := by rfl) (hpl : (backTo pos (starEach [b] c.X.env)).any (·.1) = false := by rfl) :
    QI c (.Tuple elts kk tpos) (.Call (.Name "zip" p) [a, b] [] pos) fun ρ S R => ta ρ S fun x S1 => tb ρ S1 fun y S2 => rfl' x fun xs => rfl' y fun ys => R (zips xs ys) (fun _ => True) S2 :=
  ⟨fun ρ S R h => ji_zip (elts := elts) (kk := kk) hm ((ha.run _ _ _ h).mono fun x S1 h => (hb.run _ _ _ h).mono fun y S2 q => by obtain ⟨xs, rfl, q2⟩ := rfl'_ok q; obtain ⟨ys, rfl, q3⟩ := rfl'_ok q2; exact ⟨xs, ys, rfl, rfl, q3⟩) hg hs1 hs2 hpl⟩

/-! ### list comprehensions -/
def rPat (pat : Pat) (d : D) (ρ : DEnv) (k : DEnv → Prop) : Prop := match pat, d with
  | .n i, d => k (ρ.set i (some d))
  | .t is, .tup ds => ds.length = is.length ∧ k (setN ρ is ds)
  | _, _ => False
theorem rPat_ok {pat : Pat} {d : D} {k : DEnv → Prop} (h : rPat pat d ρ k) : ∃ ρ2, bindP pat d ρ = some ρ2 ∧ k ρ2 := by
  cases pat with
  | n i => exact ⟨_, rfl, h⟩
  | t is =>
    cases d with
    | tup ds => exact ⟨_, by show (if _ then _ else _) = _; rw [if_pos h.1], h.2⟩
    | _ => exact h.elim
/-- the tests of a comprehension -/
structure QTs (c : Ctx) (scope : Scope) (ifs : List Expr) (t : RB) : Prop where
  run : ∀ (s : Shared) (H : Hp) (C : Addr) (cl : List (Str × Addr)) (fp : List Addr) ρ S Q, t ρ S Q → JTs (blkC c s H scope C cl fp) ifs ρ S Q
variable {scope : Scope} {ifs : List Expr}
theorem qts_nil : QTs c scope [] fun _ S Q => Q true S := ⟨fun _ _ _ _ _ _ _ _ h => h⟩
theorem qts_one {t : Expr} (h : ∀ (s : Shared) (H : Hp) (C : Addr) (cl : List (Str × Addr)) (fp : List Addr), QT (blkC c s H scope C cl fp) t fe) : QTs c scope [t] fe := ⟨fun s H C cl fp ρ S Q q => (h s H C cl fp).run ρ S Q q⟩
structure QEs (c : Ctx) (scope : Scope) (e : Expr) (t : RE) : Prop where
  run : ∀ (s : Shared) (H : Hp) (C : Addr) (cl : List (Str × Addr)) (fp : List Addr), QE (blkC c s H scope C cl fp) e t
theorem JTs.mono {Q Q' : Bool → SS → Prop} (h : JTs c ifs ρ S Q) (k : ∀ b S', Q b S' → Q' b S') : JTs c ifs ρ S Q' := by
  match ifs, h with
  | [], h => exact k _ _ h
  | [t], h => exact JT.mono h k
/-- the turns -/
def rLc (pat : Pat) (tt : RB) (te : RE) (vs : List Nat) (ρ : DEnv) (Qf : Addr → List D → SS → Prop) (ds : List D) (Cnd : SS → Prop) (S1 : SS) : Prop :=
  ∃ Iv : List D → List D → SS → Prop, Iv ds [] S1 ∧ ds.length < sizeLine ∧ (∀ r acc S' Dl, S' Dl = none → Iv r acc S' → Cnd (sup S' Dl (.lst acc)) ∧ acc.length + r.length ≤ ds.length) ∧
    (∀ (Dl : Addr) d r acc S', S' Dl = none → Iv (d :: r) acc S' → rPat pat d (wipeD ρ vs) fun ρ2 => tt ρ2 (sup S' Dl (.lst acc)) fun k S3 => if k = true then te ρ2 S3 fun y S4 => S4 Dl = some (.lst acc) ∧ Iv r (acc ++ [y]) (sdel S4 Dl) else S3 Dl = some (.lst acc) ∧ Iv r acc (sdel S3 Dl)) ∧
    ∀ acc S' Dl, S' Dl = none → Iv [] acc S' → Qf Dl acc S'
theorem rLc_ok {pat : Pat} {tt : RB} {vs : List Nat} {Qf : Addr → List D → SS → Prop} {ds : List D} {Cnd : SS → Prop} (ht : QTs c scope ifs tt) (he : QEs c scope elt te) (h : rLc pat tt te vs ρ Qf ds Cnd S) : CompD c pat elt ifs scope vs ρ Qf ds Cnd S := by
  obtain ⟨Iv, i0, hsz, hc, turn, fin⟩ := h
  refine ⟨fun i acc S' => Iv (ds.drop i) acc S', i0, hsz, fun i acc S' Dl hn q => ?_, fun Dl i d acc S' hn hd q => ?_, fun acc S' Dl hn q => fin acc S' Dl hn (by have q' : Iv (ds.drop ds.length) acc S' := q; rw [List.drop_length] at q'; exact q')⟩
  · obtain ⟨h1, h2⟩ := hc _ acc S' Dl hn q
    rw [List.length_drop] at h2
    refine ⟨h1, ?_⟩
    by_cases hi : i ≤ ds.length
    · omega
    · omega
  · obtain ⟨hi, e⟩ := List.getElem?_eq_some_iff.mp hd
    have e1 : ds.drop i = d :: ds.drop (i + 1) := by rw [← e]; exact List.drop_eq_getElem_cons hi
    have q' : Iv (ds.drop i) acc S' := q
    rw [e1] at q'
    obtain ⟨ρ2, hb, q2⟩ := rPat_ok (turn Dl d _ acc S' hn q')
    refine ⟨ρ2, hb, fun s H C cl fp => (ht.run s H C cl fp _ _ _ q2).mono fun k S3 q3 => ?_⟩
    cases k with
    | true =>
      rw [if_pos rfl] at q3 ⊢
      intro s H C cl fp
      exact (he.run s H C cl fp).run _ _ _ q3
    | false =>
      rw [if_neg Bool.false_ne_true] at q3 ⊢
      exact q3
/-- elements that leave the store as it is -/
theorem rLc.pure {pat : Pat} {tt : RB} {vs : List Nat} {Qf : Addr → List D → SS → Prop} {ds : List D} {Cnd : SS → Prop} (t : D → Bool) (f : D → D) (hsz : ds.length < sizeLine) (hcn : ∀ Dl acc, S Dl = none → Cnd (sup S Dl (.lst acc)))
    (turn : ∀ (d : D) (S' : SS), d ∈ ds → (∀ a o, S a = some o → S' a = some o) → rPat pat d (wipeD ρ vs) fun ρ2 => (∀ Q : Bool → SS → Prop, Q (t d) S' → tt ρ2 S' Q) ∧ (t d = true → ∀ Q : D → SS → Prop, Q (f d) S' → te ρ2 S' Q))
    (q : ∀ Dl, S Dl = none → Qf Dl ((ds.filter t).map f) S) : rLc pat tt te vs ρ Qf ds Cnd S := by
  refine ⟨fun r acc S' => S' = S ∧ ∃ pre, ds = pre ++ r ∧ acc = (pre.filter t).map f, ⟨rfl, [], rfl, rfl⟩, hsz, ?_, ?_, ?_⟩
  · rintro r acc S' Dl hn ⟨rfl, pre, rfl, rfl⟩
    refine ⟨hcn Dl _ hn, ?_⟩
    rw [List.length_map, List.length_append]
    have := List.length_filter_le t pre
    omega
  · rintro Dl d r acc S' hn ⟨rfl, pre, rfl, rfl⟩
    have h := turn d (sup S' Dl (.lst ((pre.filter t).map f))) (by simp) (fun a o h => by rw [sup_ne (fun e => by subst e; rw [hn] at h; cases h)]; exact h)
    have key : ∀ ρ2, (∀ Q : Bool → SS → Prop, Q (t d) (sup S' Dl (.lst ((pre.filter t).map f))) → tt ρ2 (sup S' Dl (.lst ((pre.filter t).map f))) Q) ∧ (t d = true → ∀ Q : D → SS → Prop, Q (f d) (sup S' Dl (.lst ((pre.filter t).map f))) → te ρ2 (sup S' Dl (.lst ((pre.filter t).map f))) Q) →
      (tt ρ2 (sup S' Dl (.lst ((pre.filter t).map f))) fun k S3 => if k = true then te ρ2 S3 fun y S4 => S4 Dl = some (.lst ((pre.filter t).map f)) ∧ (sdel S4 Dl = S' ∧ ∃ p2, pre ++ d :: r = p2 ++ r ∧ (pre.filter t).map f ++ [y] = (p2.filter t).map f) else S3 Dl = some (.lst ((pre.filter t).map f)) ∧ (sdel S3 Dl = S' ∧ ∃ p2, pre ++ d :: r = p2 ++ r ∧ (pre.filter t).map f = (p2.filter t).map f)) := fun ρ2 h => h.1 _ (by
        cases ht : t d with
        | true =>
          rw [if_pos rfl]
          refine h.2 ht _ ⟨sup_same, sdel_sup hn, pre ++ [d], by simp, ?_⟩
          rw [List.filter_append, List.map_append, List.filter_cons, if_pos ht]; rfl
        | false =>
          rw [if_neg Bool.false_ne_true]
          refine ⟨sup_same, sdel_sup hn, pre ++ [d], by simp, ?_⟩
          rw [List.filter_append, List.map_append, List.filter_cons, if_neg (by rw [ht]; exact Bool.false_ne_true)]; simp)
    cases pat with
    | n i => exact key _ h
    | t is =>
      cases d with
      | tup ds => exact ⟨h.1, key _ h.2⟩
      | _ => exact h.elim
  · rintro acc S' Dl hn ⟨rfl, pre, rfl, rfl⟩
    rw [List.append_nil] at q
    exact q Dl hn
variable {it : RI} {tt : RB}
theorem q_lc (pat : Pat) (own : List (Str × Nat)) (nd : c.X.N.Nodup) (hi : QI c tg iter it) (hg : LcT c scope tg pat) (ht : QTs c scope ifs tt) (he : QEs c scope elt te) (ok : L2.blkC c.X.N c.X.env.scope scope own = true := by rfl) (hw : pat.slots.all (fun i => (own.map (·.2)).contains i) = true := by rfl)
    (hc : c.X.calm = true := by rfl) (hs : ∀ x, foldedSetIterable iter c.X.env x = pure x := by intro _; rfl) : QE c (.ListComp elt [⟨tg, iter, ifs, 0⟩] scope pos) fun ρ S Q => it ρ S fun ds Cnd S1 => rLc pat tt te (own.map (·.2)) ρ (fun _ acc S' => Q (.fl acc) S') ds Cnd S1 :=
  ⟨fun ρ S Q h => je_lc pat own nd ((hi.run _ _ _ h).mono fun ds Cnd S1 q => rLc_ok ht he q) hg ok hw hc hs⟩
theorem q_lcM (pat : Pat) (own : List (Str × Nat)) (nd : c.X.N.Nodup) (hi : QI c tg iter it) (hg : LcT c scope tg pat) (ht : QTs c scope ifs tt) (he : QEs c scope elt te) (ok : L2.blkC c.X.N c.X.env.scope scope own = true := by rfl) (hw : pat.slots.all (fun i => (own.map (·.2)).contains i) = true := by rfl)
    (hc : c.X.calm = true := by rfl) (hs : ∀ x, foldedSetIterable iter c.X.env x = pure x := by intro _; rfl) : QE c (.ListComp elt [⟨tg, iter, ifs, 0⟩] scope pos) fun ρ S Q => it ρ S fun ds Cnd S1 => rLc pat tt te (own.map (·.2)) ρ (fun Dl acc S' => Q (.ref Dl) (sup S' Dl (.lst acc))) ds Cnd S1 :=
  ⟨fun ρ S Q h => je_lcM pat own nd ((hi.run _ _ _ h).mono fun ds Cnd S1 q => rLc_ok ht he q) hg ok hw hc hs⟩
theorem qs_setLc (pat : Pat) (own : List (Str × Nat)) {i : Nat} {y : Str} {py spos : Pos} (n : Nm c i y) (hyl : c.X.env.scope.names.lookup y = some .local) (nd : c.X.N.Nodup) (hi : QI c tg iter it) (hg : LcT c scope tg pat) (ht : QTs c scope ifs tt) (he : QEs c scope elt te)
    (hsw : swapsWith (.ListComp elt [⟨tg, iter, ifs, 0⟩] scope pos) (some (.Name y py)) spos.line c.X.env = pure true) (ok : L2.blkC c.X.N c.X.env.scope scope own = true := by rfl) (hw : pat.slots.all (fun i => (own.map (·.2)).contains i) = true := by rfl)
    (hc : c.X.calm = true := by rfl) (hs : ∀ x, foldedSetIterable iter c.X.env x = pure x := by intro _; rfl) : QS c (.Assign [.Name y py] (.ListComp elt [⟨tg, iter, ifs, 0⟩] scope pos) spos) fun ρ S nx _ _ _ => it ρ S fun ds Cnd S1 => rLc pat tt te (own.map (·.2)) ρ (fun _ acc S' => nx (ρ.set i (some (.fl acc))) S') ds Cnd S1 :=
  ⟨fun ρ S nx rt bk ct h => js_setLc pat own i nd n.at_ hyl ((hi.run _ _ _ h).mono fun ds Cnd S1 q => rLc_ok ht he q) hg ok hsw hw hc hs⟩
theorem qs_setLcM (pat : Pat) (own : List (Str × Nat)) {i : Nat} {y : Str} {py spos : Pos} (n : Nm c i y) (hyl : c.X.env.scope.names.lookup y = some .local) (nd : c.X.N.Nodup) (hi : QI c tg iter it) (hg : LcT c scope tg pat) (ht : QTs c scope ifs tt) (he : QEs c scope elt te)
    (hsw : swapsWith (.ListComp elt [⟨tg, iter, ifs, 0⟩] scope pos) (some (.Name y py)) spos.line c.X.env = pure true) (ok : L2.blkC c.X.N c.X.env.scope scope own = true := by rfl) (hw : pat.slots.all (fun i => (own.map (·.2)).contains i) = true := by rfl)
    (hc : c.X.calm = true := by rfl) (hs : ∀ x, foldedSetIterable iter c.X.env x = pure x := by intro _; rfl) : QS c (.Assign [.Name y py] (.ListComp elt [⟨tg, iter, ifs, 0⟩] scope pos) spos) fun ρ S nx _ _ _ => it ρ S fun ds Cnd S1 => rLc pat tt te (own.map (·.2)) ρ (fun Dl acc S' => nx (ρ.set i (some (.ref Dl))) (sup S' Dl (.lst acc))) ds Cnd S1 :=
  ⟨fun ρ S nx rt bk ct h => js_setLcM pat own i nd n.at_ hyl ((hi.run _ _ _ h).mono fun ds Cnd S1 q => rLc_ok ht he q) hg ok hsw hw hc hs⟩
end
/-! names in a comprehension -/
section
variable {c : Ctx} {s : Shared} {H : Hp} {scope : Scope} {C : Addr} {cl : List (Str × Addr)} {fp : List Addr} {pos : Pos}
theorem q_bn {i : Nat} {x : Str} (a : c.X.N[i]? = some x) (v : Vis (compEnvC scope cl C c.X.env).scope x) (h1 : (x == ("__debug__" : Str)) = false := by decide) (h2 : (x == ("__classdict__" : Str)) = false := by decide) : QE (blkC c s H scope C cl fp) (.Name x pos) fun ρ S Q => rv ρ i fun d => Q d S :=
  ⟨fun ρ S Q h => let ⟨_, h3, h4⟩ := rv_ok h; je_bn a v h3 h4 h1 h2⟩
end
end DP

namespace DP
open PySem PySem.Spec PyProof.Rows L2
/-! ### subscripts -/
def tIx (X : Cx) : R2 := fun x y H R => ∀ (value slice : Expr) (pins : List (Addr × Obj)) (s : Shared) (σ : L2.St) (v u : Value), L2.Inv X pins σ H s → RelV x v → RelV y u →
    subscripted slice false v u = operate [v, u] (getItem v u) → wpAny (model X.prog X.w) X.A (subscriptTail value slice v u) (EP X pins σ R) X.xe s
theorem IxRt {X : Cx} : IxR X (tIx X) := fun value slice pins s σ H x y v u Q I rx ry h hs => h value slice pins s σ v u I rx ry hs
theorem tIx_of {X : Cx} {r : R2} (h : IxR X r) {x y : V} {H : Hp} {R : VK} (q : r x y H R) : tIx X x y H R := fun value slice pins s σ v u I rx ry hs => h value slice pins s σ H x y v u R I rx ry q hs
theorem ix_dict {X : Cx} (hu : X.A.units + 1 < cLine) : IxR X fun x y H Q => ∃ a v, x = .ref a ∧ DGet H a y (some v) ∧ Q v H := by
  intro value slice pins s σ H x y v u Q I rx ry h hs
  obtain ⟨a, z, rfl, g, q⟩ := h
  obtain rfl : v = Value.ref a := rx
  exact tail_any (dict_typeIs I g) PySem.F.slot_dict_getitem.lookup (d_getItem hu I g ry fun w' s' I' r' => ⟨z, H, I', r', q⟩) hs
def rIx (S : SS) (x y : D) (Q : D → Prop) : Prop := match x with
  | .tup xs => rint y fun i => ∃ d, atI xs i = some d ∧ Q d
  | .fl xs => rint y fun i => ∃ d, atI xs i = some d ∧ Q d
  | .str z => rint y fun i => z.length ≤ sizeLine ∧ ∃ c, atI z.cps.toList i = some c ∧ Q (.str ⟨#[c]⟩)
  | .ref a => (∃ xs, S a = some (.lst xs) ∧ rint y fun i => ∃ d, atI xs i = some d ∧ Q d) ∨ ∃ kvs, S a = some (.dk kvs) ∧ rKey y fun k => ∃ d, getK kvs k = some d ∧ Q d
  | _ => False
section
variable {c : Ctx} {e o a b d tg iter elt f : Expr} {es : List Expr} {ρ : DEnv} {S : SS} {nx bk ct : NK} {rt : RK} {pos p : Pos} {te ta tb td tf : RE} {la : RL} {fe : RB}
theorem rIx_ok {x y : D} {Q : D → SS → Prop} (hu : Un c) (h : rIx S x y fun z => Q z S) {H : Hp} {v w : V} (m : Sim c.X.K H S) (r1 : Rep c.X.K (im H S) x v) (r2 : Rep c.X.K (im H S) y w) : tIx c.X v w H (pst c.X.K H S Q) := by
  unfold Un at hu
  have seq : ∀ {xs : List D} {vs : List V} {p : Addr}, (SqL c.X.K H p vs ∨ SqT c.X.K H p vs) → Reps c.X.K (im H S) xs vs → (rint y fun i => ∃ d, atI xs i = some d ∧ Q d S) → tIx c.X (.ref p) w H (pst c.X.K H S Q) := fun {xs vs p} hs r h => by
    obtain ⟨i, rfl, d, hd, q⟩ := rint_ok h
    obtain ⟨z, hz, rz⟩ := atI_rep r hd
    rcases hs with hs | hs
    · exact tIx_of ix_list ⟨p, vs, i, z, rfl, rep_int.mp r2, hs, hz, pst_same m rz q⟩
    · exact tIx_of ix_tup ⟨p, vs, i, z, rfl, rep_int.mp r2, hs, hz, pst_same m rz q⟩
  cases x with
  | tup xs => obtain ⟨p, vs, rfl, h1, h2⟩ := tup_sq r1; exact seq (.inr h1) h2 h
  | fl xs => obtain ⟨p, vs, rfl, h1, h2⟩ := IsL.sq .fl r1 m; exact seq (.inl h1) h2 h
  | str z =>
    obtain ⟨i, rfl, hl, k, hk, q⟩ := rint_ok h
    exact tIx_of ix_str ⟨z, i, k, rep_str.mp r1, rep_int.mp r2, hl, hk, pst_same m (rep_str.mpr rfl) q⟩
  | ref a =>
    rcases h with ⟨xs, h0, h⟩ | ⟨kvs, h0, h⟩
    · obtain ⟨p, vs, rfl, h1, h2⟩ := IsL.sq (.ref h0) r1 m
      exact seq (.inl h1) h2 h
    · obtain ⟨k, rfl, d, hd, q⟩ := rKey_ok h
      obtain ⟨vs, e1, e2⟩ := m a _ h0
      obtain ⟨z, hz, rz⟩ := (valV_rep e2).1 d hd
      rw [rep_ref.mp r1, kD_rep r2]
      exact tIx_of (ix_dict (by omega)) ⟨a, z, rfl, by rw [← hz]; exact DGet.k e1, pst_same m rz q⟩
  | _ => exact h.elim
theorem q_ix (hu : Un c) (ha : QE c a ta) (hb : QE c b tb) (hs : PlainIx b := by exact fun _ _ => rfl) : QE c (.Subscript a b pos) fun ρ S Q => ta ρ S fun x S1 => tb ρ S1 fun y S2 => rIx S2 x y fun z => Q z S2 :=
  ⟨fun ρ S Q h => JE.of (pe_ix IxRt PEt PEt hs) fun σ H ds => (ha.run _ _ _ h).then ds fun x S1 v H1 r1 d1 s1 h1 => (hb.run _ _ _ h1).then d1 fun y S2 w H2 r2 d2 s2 h2 value slice pins s σ' u u' I rx ry hs => by
    refine thn (rIx_ok hu h2 d2.sim (r1.mono s2) r2 value slice pins s σ' u u' I rx ry hs) fun z s' ⟨z', H', I', r', q'⟩ => ⟨z', H', I', r', pst_step (s1.trans s2) q'⟩⟩
/-! ### stores -/
def rSetIx (S : SS) (x k y : D) (Q : SS → Prop) : Prop := match x with
  | .ref a => (∃ xs, S a = some (.lst xs) ∧ rint k fun n => ∃ j, ixN xs.length n = some j ∧ Q (sup S a (.lst (xs.set j y)))) ∨ ∃ kvs, S a = some (.dk kvs) ∧ rKey k fun key => kvs.length < sizeLine ∧ Q (sup S a (.dk (putD kvs key y)))
  | _ => False
def tSetIx (X : Cx) : TSet := fun o i v H R => ∀ (pins : List (Addr × Obj)) (s : Shared) (σ : L2.St) (ov iv u : Value), L2.Inv X pins σ H s → RelV o ov → RelV i iv → RelV v u →
    wpAny (model X.prog X.w) X.A (setItem ov iv u) (fun _ s' => ∃ H', L2.Inv X pins σ H' s' ∧ R H') X.xe s
theorem PSett {X : Cx} : PSet X (tSetIx X) := fun pins s σ H o i v ov iv u Q I r1 r2 r3 h => h pins s σ ov iv u I r1 r2 r3
theorem rSetIx_ok {x k y : D} {Q : SS → Prop} (hu : Un c) (h : rSetIx S x k y Q) {H : Hp} {v w z : V} (m : Sim c.X.K H S) (r1 : Rep c.X.K (im H S) x v) (r2 : Rep c.X.K (im H S) k w) (r3 : Rep c.X.K (im H S) y z) : tSetIx c.X v w z H fun H' => ∃ S', Sim c.X.K H' S' ∧ Stp H S H' S' ∧ Q S' := by
  unfold Un at hu
  cases x with
  | ref a =>
    rw [rep_ref.mp r1]
    rcases h with ⟨xs, h0, h⟩ | ⟨kvs, h0, h⟩
    · obtain ⟨n, rfl, j, hj, q⟩ := rint_ok h
      obtain ⟨vs, hv, rv⟩ := m a _ h0
      obtain ⟨st, sm⟩ := m.write (o := .lst (vs.set j z)) (m := .lst (xs.set j y)) h0 fun H' S' sb e => ⟨_, e, (rv.mono sb).set j (r3.mono sb)⟩
      rw [rep_int.mp r2]
      intro pins s σ ov iv u I rx ry rz
      exact set_list pins s σ H _ _ _ ov iv u _ I rx ry rz ⟨a, vs, n, j, rfl, rfl, hv, (ixN_map rv.length n).symm.trans hj, _, sm, st, q⟩
    · obtain ⟨key, rfl, hl, q⟩ := rKey_ok h
      obtain ⟨vs, hv, rv⟩ := m a _ h0
      obtain ⟨st, sm⟩ := m.write (o := .dK (putK vs key z)) (m := .dk (putD kvs key y)) h0 fun H' S' sb e => ⟨_, e, (rv.mono sb).put (r3.mono sb)⟩
      rw [kD_rep r2]
      intro pins s σ ov iv u I rx ry rz
      obtain rfl : ov = Value.ref a := rx
      exact d_setItem (by omega) I (DPut.k hv (by rw [← repP_len rv]; exact hl)) ry rz fun s' I' => ⟨_, I', _, sm, st, q⟩
  | _ => exact h.elim
theorem qg_ix (hu : Un c) (ha : QE c a ta) (hb : QE c b tb)
    (hh : ∀ v, assign (.Subscript a b pos) c.X.env v = (do
      let ov ← holding [v] (eval a c.X.env)
      let iv ← holding [v, ov] (eval b c.X.env)
      standAt pos
      holding [v, ov, iv] (setItem ov iv v); release [v, ov, iv] []) := by intro _; rfl) : QG c (.Subscript a b pos) fun d ρ S nx => ta ρ S fun x S1 => tb ρ S1 fun k S2 => rSetIx S2 x k d fun S3 => nx ρ S3 :=
  ⟨fun y ρ S nx h => JG.of (pg_sub PEt PEt PSett hh) fun σ H v ds ry => (ha.run _ _ _ h).then ds fun x S1 v1 H1 r1 d1 s1 h1 => (hb.run _ _ _ h1).then d1 fun k S2 v2 H2 r2 d2 s2 h2 => by
    intro pins s σ' ov iv u I rx rk rz
    exact thn (rSetIx_ok hu h2 d2.sim (r1.mono s2) r2 ((ry.mono s1).mono s2) pins s σ' ov iv u I rx rk rz) fun _ s' ⟨H', I', S', m, st, q⟩ => ⟨H', I', ρ, S', (d2.sl.step st), m, (s1.trans s2).trans st, q⟩⟩
/-! ### slices -/
def rOpt (tl : Option RE) (ρ : DEnv) (S : SS) (k : Option Int → SS → Prop) : Prop := match tl with
  | none => k none S
  | some t => t ρ S fun x S1 => rint x fun i => k (some i) S1
structure QO (c : Ctx) (e : Option Expr) (t : Option RE) : Prop where
  run : ∀ ρ S k, rOpt t ρ S k → JO c e ρ S k
theorem qo_none : QO c none none := ⟨fun _ _ _ h => jo_none h⟩
theorem qo_some (h : QE c e te) : QO c (some e) (some te) := ⟨fun _ _ _ q => jo_some ((h.run _ _ _ q).mono fun _ _ q => rint_ok q)⟩
theorem JO.mono {lo : Option Expr} {k k' : Option Int → SS → Prop} (h : JO c lo ρ S k) (m : ∀ o S', k o S' → k' o S') : JO c lo ρ S k' := fun σ H ds R hk => h σ H ds R fun o S' H' d s q => hk o S' H' d s (m _ _ q)
def rSl (S : SS) (x : D) (l u : Option Int) (Q : D → Prop) : Prop := match x with
  | .tup xs => Q (.tup (cutD xs l u))
  | .fl xs => Q (.fl (cutD xs l u))
  | .str z => z.length ≤ sizeLine ∧ Q (.str (cutS z l u))
  | .ref a => ∃ xs, S a = some (.lst xs) ∧ Q (.fl (cutD xs l u))
  | _ => False
def tSlR (X : Cx) : V → Option Int → Option Int → Hp → VK → Prop := fun x lo hi H R => ∃ r : V → Option Int → Option Int → Hp → VK → Prop, SlR X r ∧ r x lo hi H R
theorem tSlRt {X : Cx} : SlR X (tSlR X) := fun pins s σ H x v vl vu lo hi sl Q I rx hs pl pu ⟨_, hr, q⟩ => hr pins s σ H x v vl vu lo hi sl Q I rx hs pl pu q
theorem q_slice {lo hi : Option Expr} {p2 : Pos} {tl tu : Option RE} (he : QE c e te) (hl : QO c lo tl) (hh : QO c hi tu) : QE c (.Subscript e (.Slice lo hi none p2) pos) fun ρ S Q => te ρ S fun x S1 => rOpt tl ρ S1 fun l S2 => rOpt tu ρ S2 fun u S3 => rSl S3 x l u fun z => Q z S3 :=
  ⟨fun ρ S Q h => JE.of (pe_slice tSlRt PEt POt POt) fun σ H ds => (he.run _ _ _ h).then ds fun x S1 v H1 r1 d1 s1 h1 => (hl.run _ _ _ h1) σ H1 d1 _ fun l S2 H2 d2 s2 h2 => (hh.run _ _ _ h2) σ H2 d2 _ fun u S3 H3 d3 s3 q => by
    have r3 := (r1.mono s2).mono s3
    have st := (s1.trans s2).trans s3
    have lst : ∀ {xs : List D}, IsL S3 x xs → Q (.fl (cutD xs l u)) S3 → tSlR c.X v l u H3 (pst c.X.K H S Q) := fun {xs} hx q => by
      obtain ⟨p, vs, rfl, h3, h4⟩ := hx.sq r3 d3.sim
      refine ⟨_, sl_list, p, vs, rfl, h3, fun a ha => ?_⟩
      obtain ⟨s4, sm, e⟩ := d3.sim.new (o := .lst (cutV vs l u)) ha
      exact ⟨_, S3, rep_fl.mpr ⟨a, _, rfl, SqL.of e, (cut_rep h4).mono s4⟩, sm, st.trans s4, q⟩
    cases x with
    | fl xs => exact lst .fl q
    | ref a => obtain ⟨xs, h0, q⟩ := q; exact lst (.ref h0) q
    | str z => exact ⟨_, sl_str, z, rep_str.mp r3, q.1, _, S3, rep_str.mpr rfl, d3.sim, st, q.2⟩
    | tup xs =>
      obtain ⟨p, vs, rfl, h3, h4⟩ := tup_sq r3
      have hl := h4.length
      refine ⟨_, sl_tupA, p, vs, rfl, h3, fun z => ?_, fun _ a ha => ?_⟩
      · rw [← hl] at z
        have q' : Q (.tup (cutD xs l u)) S3 := q
        rw [cutD_whole z] at q'
        exact ⟨_, S3, r3, d3.sim, st, q'⟩
      · obtain ⟨s4, sm, e⟩ := d3.sim.new (o := .tup (cutV vs l u)) ha
        exact ⟨_, S3, rep_tup.mpr ⟨a, _, rfl, SqT.of e, (cut_rep h4).mono s4⟩, sm, st.trans s4, q⟩
    | _ => exact q.elim⟩
def rRev (S : SS) (x : D) (Q : D → Prop) : Prop := match x with
  | .fl xs => Q (.fl xs.reverse)
  | .ref a => ∃ xs, S a = some (.lst xs) ∧ Q (.fl xs.reverse)
  | _ => False
theorem q_rev {k : Nat} {p1 p2 p3 : Pos} (he : QE c e te) : QE c (.Subscript e (.Slice none none (some (.UnaryOp .USub (.Constant (.int 1) k p1) p2)) p3) pos) fun ρ S Q => te ρ S fun x S1 => rRev S1 x fun z => Q z S1 :=
  ⟨fun ρ S Q h => je_rev ((he.run _ _ _ h).mono fun x S1 q => by
    cases x with
    | fl xs => exact ⟨xs, .fl, q⟩
    | ref a => obtain ⟨xs, h0, q⟩ := q; exact ⟨xs, .ref h0, q⟩
    | _ => exact q.elim)⟩
theorem q_revT {k : Nat} {p1 p2 p3 : Pos} (he : QE c e te) : QE c (.Subscript e (.Slice none none (some (.UnaryOp .USub (.Constant (.int 1) k p1) p2)) p3) pos) fun ρ S Q => te ρ S fun x S1 => rTup x fun xs => Q (.tup xs.reverse) S1 :=
  ⟨fun ρ S Q h => je_revT ((he.run _ _ _ h).mono fun x S1 q => rTup_ok q)⟩

/-! ### calls -/
theorem q_call {x : Str} {k : Nat} {sp : DSp} (F : Fn c.X.prog c.X.w c.X.K c.X.mg c.X.base k x sp) (hr : Room k c.X.A) (ha : QA c (e :: es) la) (hg : Gl c.X x := by rfl) (hdb : (x == ("__debug__" : Str)) = false := by decide)
    (he : starEach (e :: es) c.X.env = (false, eval e c.X.env) :: starEach es c.X.env := by rfl) (hpl : (backTo pos (starEach es c.X.env)).any (·.1) = false := by rfl) : QE c (.Call (.Name x p) (e :: es) [] pos) fun ρ S Q => la ρ S fun ds S1 => sp ds S1 Q fun cls d S' => c.DX cls d ρ S' :=
  ⟨fun ρ S Q h => je_call F hr ((ha.run _ _ _ h).mono fun _ _ h => h.2) hg hdb he hpl⟩
theorem q_call0 {x : Str} {k : Nat} {sp : DSp} (F : Fn c.X.prog c.X.w c.X.K c.X.mg c.X.base k x sp) (hr : Room k c.X.A) (hg : Gl c.X x := by rfl) (hdb : (x == ("__debug__" : Str)) = false := by decide) : QE c (.Call (.Name x p) [] [] pos) fun ρ S Q => sp [] S Q fun cls d S' => c.DX cls d ρ S' :=
  ⟨fun ρ S Q h => je_call0 F hr h hg hdb⟩
abbrev RC := List D → SS → (D → SS → Prop) → Prop
theorem q_bi {x : Str} {id : String} {rc : RC} (hm : c.X.mg x = none) (hv : bootBuiltins x = some (.builtin id)) (hc : ∀ ds S Q, rc ds S Q → CD c (.builtin id) ds S Q) (ha : QA c (e :: es) la) (hg : Gl c.X x := by rfl) (hn : x ≠ "__name__" := by decide) (hdb : (x == ("__debug__" : Str)) = false := by decide)
    (he : starEach (e :: es) c.X.env = (false, eval e c.X.env) :: starEach es c.X.env := by rfl) (hpl : (backTo pos (starEach es c.X.env)).any (·.1) = false := by rfl) : QE c (.Call (.Name x p) (e :: es) [] pos) fun ρ S Q => la ρ S fun ds S1 => rc ds S1 Q :=
  ⟨fun ρ S Q h => je_callB hm hv ((ha.run _ _ _ h).mono fun _ _ h => hc _ _ _ h.2) hg hn hdb he hpl⟩
theorem q_bt {x : Str} {T : String} {rc : RC} (hm : c.X.mg x = none) (hv : bootBuiltins x = some (.type T)) (hc : ∀ ds S Q, rc ds S Q → CD c (.type T) ds S Q) (ha : QA c (e :: es) la) (hg : Gl c.X x := by rfl) (hn : x ≠ "__name__" := by decide) (hdb : (x == ("__debug__" : Str)) = false := by decide)
    (he : starEach (e :: es) c.X.env = (false, eval e c.X.env) :: starEach es c.X.env := by rfl) (hpl : (backTo pos (starEach es c.X.env)).any (·.1) = false := by rfl) : QE c (.Call (.Name x p) (e :: es) [] pos) fun ρ S Q => la ρ S fun ds S1 => rc ds S1 Q :=
  ⟨fun ρ S Q h => je_callTy hm hv ((ha.run _ _ _ h).mono fun _ _ h => hc _ _ _ h.2) hg hn hdb he hpl⟩
def r1 (f : D → SS → (D → SS → Prop) → Prop) : RC := fun ds S Q => match ds with
  | [x] => f x S Q
  | _ => False
def r2 (f : D → D → SS → (D → SS → Prop) → Prop) : RC := fun ds S Q => match ds with
  | [x, y] => f x y S Q
  | _ => False
theorem r1_ok {f : D → SS → (D → SS → Prop) → Prop} {v : Value} (h : ∀ x S Q, f x S Q → CD c v [x] S Q) : ∀ ds S Q, r1 f ds S Q → CD c v ds S Q := fun ds S Q q => by
  match ds, q with
  | [x], q => exact h x S Q q
theorem r2_ok {f : D → D → SS → (D → SS → Prop) → Prop} {v : Value} (h : ∀ x y S Q, f x y S Q → CD c v [x, y] S Q) : ∀ ds S Q, r2 f ds S Q → CD c v ds S Q := fun ds S Q q => by
  match ds, q with
  | [x, y], q => exact h x y S Q q
def rLen (x : D) (S : SS) (Q : D → SS → Prop) : Prop := match x with
  | .tup xs => Q (.int xs.length) S
  | .fl xs => Q (.int xs.length) S
  | .str z => z.length ≤ sizeLine ∧ Q (.int z.length) S
  | .ref a => (∃ xs, S a = some (.lst xs) ∧ Q (.int xs.length) S) ∨ ∃ kvs, S a = some (.dk kvs) ∧ Q (.int kvs.length) S
  | _ => False
theorem rLen_ok : ∀ ds S Q, r1 rLen ds S Q → CD c (.builtin "len") ds S Q := r1_ok fun x S Q h => by
  cases x with
  | tup xs => exact cd_len (.inr rfl) h
  | fl xs => exact cd_len (.inl .fl) h
  | str z => exact cd_lenS h.1 h.2
  | ref a =>
    rcases h with ⟨xs, h0, h⟩ | ⟨xs, h0, h⟩
    · exact cd_len (.inl (.ref h0)) h
    · exact cd_lenD h0 h
  | _ => exact h.elim
def rAbs (x : D) (S : SS) (Q : D → SS → Prop) : Prop := rint x fun i => Q (.int (if i < 0 then -i else i)) S
theorem rAbs_ok : ∀ ds S Q, r1 rAbs ds S Q → CD c (.builtin "abs") ds S Q := r1_ok fun x S Q h => by obtain ⟨i, rfl, h⟩ := rint_ok h; exact cd_abs h
def rMin2 (x y : D) (S : SS) (Q : D → SS → Prop) : Prop := rI2 (fun i j => Q (.int (if j < i then j else i)) S) x y
theorem rMin2_ok (hc : c.X.calm = true := by rfl) : ∀ ds S Q, r2 rMin2 ds S Q → CD c (.builtin "min") ds S Q := r2_ok fun x y S Q h => by obtain ⟨i, j, rfl, rfl, h⟩ := rI2_ok h; exact cd_min2 hc h
def rMax2 (x y : D) (S : SS) (Q : D → SS → Prop) : Prop := rI2 (fun i j => Q (.int (if j > i then j else i)) S) x y
theorem rMax2_ok (hc : c.X.calm = true := by rfl) : ∀ ds S Q, r2 rMax2 ds S Q → CD c (.builtin "max") ds S Q := r2_ok fun x y S Q h => by obtain ⟨i, j, rfl, rfl, h⟩ := rI2_ok h; exact cd_max2 hc h
def rInt1 (x : D) (S : SS) (Q : D → SS → Prop) : Prop := rint x fun i => Q (.int i) S
theorem rInt1_ok : ∀ ds S Q, r1 rInt1 ds S Q → CD c (.type "int") ds S Q := r1_ok fun x S Q h => by obtain ⟨i, rfl, h⟩ := rint_ok h; exact cd_int h
/-- list(..): a list that never changes -/
def rList (x : D) (S : SS) (Q : D → SS → Prop) : Prop := match x with
  | .tup xs => Q (.fl xs) S
  | .fl xs => Q (.fl xs) S
  | .ref a => ∃ xs, S a = some (.lst xs) ∧ Q (.fl xs) S
  | _ => False
theorem rList_ok : ∀ ds S Q, r1 rList ds S Q → CD c (.type "list") ds S Q := r1_ok fun x S Q h => by
  cases x with
  | tup xs => exact cd_list (.inr rfl) h
  | fl xs => exact cd_list (.inl .fl) h
  | ref a => obtain ⟨xs, h0, h⟩ := h; exact cd_list (.inl (.ref h0)) h
  | _ => exact h.elim
def rListM (x : D) (S : SS) (Q : D → SS → Prop) : Prop := match x with
  | .tup xs => ∀ p, S p = none → Q (.ref p) (sup S p (.lst xs))
  | .fl xs => ∀ p, S p = none → Q (.ref p) (sup S p (.lst xs))
  | .ref a => ∃ xs, S a = some (.lst xs) ∧ ∀ p, S p = none → Q (.ref p) (sup S p (.lst xs))
  | _ => False
theorem rListM_ok : ∀ ds S Q, r1 rListM ds S Q → CD c (.type "list") ds S Q := r1_ok fun x S Q h => by
  cases x with
  | tup xs => exact cd_listM (.inr rfl) h
  | fl xs => exact cd_listM (.inl .fl) h
  | ref a => obtain ⟨xs, h0, h⟩ := h; exact cd_listM (.inl (.ref h0)) h
  | _ => exact h.elim
def rTuple (x : D) (S : SS) (Q : D → SS → Prop) : Prop := match x with
  | .tup xs => Q (.tup xs) S
  | .fl xs => Q (.tup xs) S
  | .ref a => ∃ xs, S a = some (.lst xs) ∧ Q (.tup xs) S
  | _ => False
theorem rTuple_ok : ∀ ds S Q, r1 rTuple ds S Q → CD c (.type "tuple") ds S Q := r1_ok fun x S Q h => by
  cases x with
  | tup xs => exact cd_tuple (.inr rfl) h
  | fl xs => exact cd_tuple (.inl .fl) h
  | ref a => obtain ⟨xs, h0, h⟩ := h; exact cd_tuple (.inl (.ref h0)) h
  | _ => exact h.elim
/-- what all, any, sum read: a list -/
def rBls (x : D) (S : SS) (k : List Bool → Prop) : Prop := rItm x S fun xs => ∃ bs : List Bool, xs = bs.map D.bl ∧ k bs
theorem rAll_ok (hc : c.X.calm = true := by rfl) : ∀ ds S Q, r1 (fun x S Q => rBls x S fun bs => Q (.bl (bs.all id)) S) ds S Q → CD c (.builtin "all") ds S Q := r1_ok fun x S Q h => by
  obtain ⟨xs, h0, bs, rfl, h⟩ := rItm_ok h; exact cd_all hc h0 h
theorem rAny_ok (hc : c.X.calm = true := by rfl) : ∀ ds S Q, r1 (fun x S Q => rBls x S fun bs => Q (.bl (bs.any id)) S) ds S Q → CD c (.builtin "any") ds S Q := r1_ok fun x S Q h => by
  obtain ⟨xs, h0, bs, rfl, h⟩ := rItm_ok h; exact cd_any hc h0 h
def rSum (x : D) (S : SS) (Q : D → SS → Prop) : Prop := rItm x S fun xs => ∃ ns : List Int, xs = ns.map D.int ∧ Q (.int ns.sum) S
theorem rSum_ok (hc : c.X.calm = true := by rfl) : ∀ ds S Q, r1 rSum ds S Q → CD c (.builtin "sum") ds S Q := r1_ok fun x S Q h => by
  obtain ⟨xs, h0, bs, rfl, h⟩ := rItm_ok h; exact cd_sum hc h0 h
/-- isinstance -/
def isTyD (S : SS) (x : D) : String → Bool
  | "int" => isI x
  | "bool" => isB x
  | "str" => isS x
  | "tuple" => isT x
  | "list" => isLs S x
  | "dict" => isDc S x
  | _ => false
def rIsi (x y : D) (S : SS) (Q : D → SS → Prop) : Prop := Kn S x ∧ match y with
  | .ty "int" => Q (.bl (isI x)) S
  | .ty "bool" => Q (.bl (isB x)) S
  | .ty "str" => Q (.bl (isS x)) S
  | .ty "tuple" => Q (.bl (isT x)) S
  | .ty "list" => Q (.bl (isLs S x)) S
  | .ty "dict" => Q (.bl (isDc S x)) S
  | .tup [.ty "list", .ty "tuple"] => Q (.bl (isLs S x || isT x)) S
  | _ => False
theorem rIsi_ok : ∀ ds S Q, r2 rIsi ds S Q → CD c (.builtin "isinstance") ds S Q := r2_ok fun x y S Q ⟨hk, h⟩ => by
  split at h
  · exact cd_isI hk h
  · exact cd_isB hk h
  · exact cd_isS hk h
  · exact cd_isT hk h
  · exact cd_isLs hk h
  · exact cd_isDc hk h
  · exact cd_isLT hk h
  · exact h.elim
end
end DP

namespace DP
open PySem PySem.Spec PyProof.Rows L2
/-! ### instances -/
def putD' (f : Str) (v : D) : List (Str × D) → List (Str × D)
  | [] => [(f, v)]
  | (g, x) :: r => if g = f then (g, v) :: r else (g, x) :: putD' f v r
theorem RepP.putF {K : PySem.W.Frag} {G : Hp} {f : Str} {d : D} {v : V} (r : Rep K G d v) : ∀ {fs : List (Str × D)} {vs : List (Str × V)}, RepP K G fs vs → RepP K G (putD' f d fs) (L2.putF f v vs)
  | [], vs, h => by cases h; exact ⟨v, [], rfl, r, rfl⟩
  | (g, x) :: fs, vs, h => by
    obtain ⟨w, t, rfl, h1, h2⟩ := h
    unfold putD' L2.putF
    by_cases e : g = f
    · rw [if_pos e, if_pos e]; exact ⟨v, t, rfl, r, h2⟩
    · rw [if_neg e, if_neg e]; exact ⟨w, _, rfl, h1, RepP.putF r h2⟩
theorem RepP.look {K : PySem.W.Frag} {G : Hp} {f : Str} : ∀ {fs : List (Str × D)} {vs : List (Str × V)}, RepP K G fs vs → (∀ d, fs.lookup f = some d → ∃ v, vs.lookup f = some v ∧ Rep K G d v) ∧ (fs.lookup f = none → vs.lookup f = none)
  | [], vs, h => by cases h; exact ⟨fun d h => (by cases h), fun _ => rfl⟩
  | (g, x) :: fs, vs, h => by
    obtain ⟨w, t, rfl, h1, h2⟩ := h
    have ih := RepP.look (f := f) h2
    rw [List.lookup_cons, List.lookup_cons]
    cases f == g with
    | true => exact ⟨fun d h => by cases h; exact ⟨w, rfl, h1⟩, fun h => by cases h⟩
    | false => exact ih
def rFld (C : Addr) (f : Str) (x : D) (S : SS) (k : D → Prop) : Prop := ∃ a fs v, x = .ref a ∧ S a = some (.ins C fs) ∧ fs.lookup f = some v ∧ k v
def rPut (C : Addr) (f : Str) (y x : D) (S : SS) (k : SS → Prop) : Prop := ∃ a fs, x = .ref a ∧ S a = some (.ins C fs) ∧ fs.length < 1000 ∧ k (sup S a (.ins C (putD' f y fs)))
section
variable {c : Ctx} {e o a b d value : Expr} {es : List Expr} {ρ : DEnv} {S : SS} {nx bk ct : NK} {rt : RK} {pos p pos' tpos apos : Pos} {te to ta tb tv : RE} {la : RL} {fe : RB} {C : Addr} {f x m : Str}
theorem q_fld (kc : Cls c.X.K C) (na : NoAttr c.X.K C f) (ho : QE c o to) (hb : attributeBase o f c.X.env (eval o c.X.env) = eval o c.X.env := by rfl) : QE c (.Attribute o f pos) fun ρ S Q => to ρ S fun x S1 => rFld C f x S1 fun v => Q v S1 :=
  ⟨fun ρ S Q h => JE.of (pe_fld PEt hb) fun σ H ds => (ho.run _ _ _ h).then ds fun x S1 v H1 r1 d1 s1 ⟨a, fs, w, e1, e2, e3, q⟩ => by
    subst e1
    obtain ⟨dx, vs, h1, h2⟩ := d1.sim a _ e2
    obtain ⟨u, h3, h4⟩ := h2.look.1 w e3
    exact ⟨a, C, dx, vs, u, rep_ref.mp r1, h1, kc, na, h3, pst_step s1 (pst_same d1.sim h4 q)⟩⟩
theorem qs_fld (kc : Cls c.X.K C) (na : NoAttr c.X.K C f) (ho : QE c o to) (hv : QE c value tv) (hs : swapsWith value (some (.Attribute o f pos')) pos.line c.X.env = pure false := by rfl) : QS c (.Assign [.Attribute o f pos'] value pos) fun ρ S nx _ _ _ => tv ρ S fun y S1 => to ρ S1 fun x S2 => rPut C f y x S2 fun S3 => nx ρ S3 :=
  ⟨fun ρ S nx rt bk ct h => JS.of (ps_fld PEt PEt hs) fun σ H ds => (hv.run _ _ _ h).then ds fun y S1 v H1 r1 d1 s1 h1 => (ho.run _ _ _ h1).then d1 fun x S2 w H2 r2 d2 s2 ⟨a, fs, e1, e2, e3, q⟩ => by
    subst e1
    obtain ⟨dx, vs, h1, h2⟩ := d2.sim a _ e2
    obtain ⟨st, sm⟩ := d2.sim.write (o := .ins C dx (L2.putF f v vs)) (m := .ins C (putD' f y fs)) e2 fun H' S' sb e => ⟨dx, _, e, (h2.mono sb).putF ((r1.mono s2).mono sb)⟩
    exact ⟨a, C, dx, vs, rep_ref.mp r2, h1, kc, na, by rw [← repP_len h2]; exact e3, ρ, _, d2.sl.step st, sm, (s1.trans s2).trans st, q⟩⟩
def tIn (X : Cx) (op : Operator) : V → V → Hp → VK → Prop := fun x y H R => ∀ (pins : List (Addr × Obj)) (s : Shared) (σ : L2.St) (v u : Value), L2.Inv X pins σ H s → RelV x v → RelV y u → wpAny (model X.prog X.w) X.A (inplaceOp op v u) (EP X pins σ R) X.xe s
theorem InOpt {X : Cx} {op : Operator} : InOp X op (tIn X op) := fun pins s σ H x y u v Q I r1 r2 h => h pins s σ u v I r1 r2
/-- o.f op= e -/
theorem qs_fldaug {op : Operator} (kc : Cls c.X.K C) (na : NoAttr c.X.K C f) (ho : QE c o to) (hv : QE c value tv) : QS c (.AugAssign (.Attribute o f tpos) op value pos) fun ρ S nx _ _ _ => to ρ S fun x S1 => ∃ a fs v, x = .ref a ∧ S1 a = some (.ins C fs) ∧ fs.lookup f = some v ∧ tv ρ S1 fun y S2 => rIp op v y fun z => ∃ fs2, S2 a = some (.ins C fs2) ∧ fs2.length < 1000 ∧ nx ρ (sup S2 a (.ins C (putD' f z fs2))) :=
  ⟨fun ρ S nx rt bk ct h => JS.of (ps_fldaug PEt PEt InOpt) fun σ H ds => (ho.run _ _ _ h).then ds fun x S1 v H1 r1 d1 s1 ⟨a, fs, w, e1, e2, e3, q⟩ => by
    subst e1
    obtain ⟨dx, vs, h1, h2⟩ := d1.sim a _ e2
    obtain ⟨u, h3, h4⟩ := h2.look.1 w e3
    refine ⟨a, C, dx, vs, u, rep_ref.mp r1, h1, kc, na, h3, (hv.run _ _ _ q).then d1 fun y S2 v2 H2 r2 d2 s2 h5 => ?_⟩
    have od : OD c (inplaceOp op) w y S2 fun z S3 => S3 = S2 ∧ ∃ fs2, S2 a = some (.ins C fs2) ∧ fs2.length < 1000 ∧ nx ρ (sup S2 a (.ins C (putD' f z fs2))) := rIp_ok (by
      cases op with
      | Add => obtain ⟨i, j, rfl, rfl, h⟩ := rI2_ok h5; exact ⟨rfl, h⟩
      | Sub => obtain ⟨i, j, rfl, rfl, h⟩ := rI2_ok h5; exact ⟨rfl, h⟩
      | _ => exact h5.elim)
    refine tO_mono (od H2 u v2 d2.sim (h4.mono s2) r2) fun z H3 ⟨zd, S3, r3, m3, s3, e5, fs2, e6, e7, q7⟩ => ?_
    subst e5
    obtain ⟨dx2, vs2, h6, h7⟩ := m3 a _ e6
    obtain ⟨st, sm⟩ := m3.write (o := .ins C dx2 (L2.putF f z vs2)) (m := .ins C (putD' f zd fs2)) e6 fun H' S' sb e => ⟨dx2, _, e, (h7.mono sb).putF (r3.mono sb)⟩
    exact ⟨dx2, vs2, h6, by rw [← repP_len h7]; exact e7, ρ, _, ((d2.sl.step s3).step st), sm, ((s1.trans s2).trans s3).trans st, q7⟩⟩

/-! ### methods, instances made -/
/-- the method m of the class at C keeps sp -/
structure Mn (P : Program) (w : World) (K : PySem.W.Frag) (mg : Str → Option Value) (base : Heap) (k : Nat) (C : Addr) (m : Str) (sp : DSp) : Prop where
  ex : ∃ f fd ps, Meth K C m f ∧ Binds K fd ps [] ∧ FnOk P w K mg base (L2.CX P w) k f fd ps (lift K sp)
theorem q_meth {k : Nat} {sp : DSp} {pl : Sem Bool} (F : Mn c.X.prog c.X.w c.X.K c.X.mg c.X.base k C m sp) (kc : Cls c.X.K C) (hr : Room k c.X.A) (ho : QE c o to) (ha : QA c (e :: es) la)
    (hst : starEach (e :: es) c.X.env = (false, eval e c.X.env) :: starEach es c.X.env := by rfl) (hpl : (backTo pos (starEach es c.X.env)).any (·.1) = false := by rfl)
    (ht : eval (.Call (.Attribute o m apos) (e :: es) [] pos) c.X.env = (do
      let ov ← eval o c.X.env
      standAt apos.atName
      let (f, first) ← holding [ov] (getMethod ov m pl)
      callWith pos f first (backTo pos (starEach (e :: es) c.X.env)) (backToKw pos (keywordEach [] c.X.env))) := by rfl) :
    QE c (.Call (.Attribute o m apos) (e :: es) [] pos) fun ρ S Q => to ρ S fun x S1 => ∃ a fs, x = .ref a ∧ S1 a = some (.ins C fs) ∧ fs.lookup m = none ∧ la ρ S1 fun ds S2 => sp (.ref a :: ds) S2 Q fun cls d S' => c.DX cls d ρ S' :=
  ⟨fun ρ S Q h σ H ds pins s I => by
    obtain ⟨f, fd, ps, hm, hb, F⟩ := F.ex
    refine PySem.W.methodCall_KW (pl := pl) (thn ((ho.run _ _ _ h) σ H ds pins s I) fun u s1 ⟨v, H1, I1, rx, x, S1, r1, m1, st1, a, fs, e1, e2, e3, q⟩ => ?_) ht
    subst e1
    rw [rep_ref.mp r1] at rx
    obtain rfl : u = Value.ref a := rx
    have d1 : Ds c σ H1 ρ S1 := ds.step m1 st1
    obtain ⟨dx, vs, h1, h2⟩ := m1 a _ e2
    refine getmeth_ok I1 h1 kc hm (h2.look.2 e3) ?_
    refine PySem.W.callWith_K (first := [.ref a]) (h₀ := c.X.base) I.ok.mod.kin hm.kp (thn ((ha.run _ _ _ q).mono (fun _ _ h => h.2) σ H1 d1 pos pins s1 I1) fun us s2 ⟨ws, H2, I2, r, dsa, S2, rr, m2, st2, q2⟩ => ⟨I2.kIn, ?_⟩) hst hpl
    exact run_fnS (us := .ref a :: us) (vs := .ref a :: ws) (E := WE c.W) F hr hb (passAt c.tk σ) I2 (.cons rfl r) (lift_use (K := c.X.K) (d1.step m2 st2) (st1.trans st2) (Reps.cons (rep_ref.mpr rfl) rr) q2)⟩
theorem q_meth0 {k : Nat} {sp : DSp} {pl : Sem Bool} (F : Mn c.X.prog c.X.w c.X.K c.X.mg c.X.base k C m sp) (kc : Cls c.X.K C) (hr : Room k c.X.A) (ho : QE c o to)
    (ht : eval (.Call (.Attribute o m apos) [] [] pos) c.X.env = (do
      let ov ← eval o c.X.env
      standAt apos.atName
      let (f, first) ← holding [ov] (getMethod ov m pl)
      callWith pos f first (backTo pos (starEach [] c.X.env)) (backToKw pos (keywordEach [] c.X.env))) := by rfl) :
    QE c (.Call (.Attribute o m apos) [] [] pos) fun ρ S Q => to ρ S fun x S1 => ∃ a fs, x = .ref a ∧ S1 a = some (.ins C fs) ∧ fs.lookup m = none ∧ sp [.ref a] S1 Q fun cls d S' => c.DX cls d ρ S' :=
  ⟨fun ρ S Q h σ H ds pins s I => by
    obtain ⟨f, fd, ps, hm, hb, F⟩ := F.ex
    refine PySem.W.methodCall_KW (pl := pl) (thn ((ho.run _ _ _ h) σ H ds pins s I) fun u s1 ⟨v, H1, I1, rx, x, S1, r1, m1, st1, a, fs, e1, e2, e3, q⟩ => ?_) ht
    subst e1
    rw [rep_ref.mp r1] at rx
    obtain rfl : u = Value.ref a := rx
    have d1 : Ds c σ H1 ρ S1 := ds.step m1 st1
    obtain ⟨dx, vs, h1, h2⟩ := m1 a _ e2
    refine getmeth_ok I1 h1 kc hm (h2.look.2 e3) ?_
    exact PySem.W.callWith_K0 (first := [.ref a]) I1.kIn hm.kp (run_fnS (us := [.ref a]) (vs := [.ref a]) (E := WE c.W) F hr hb (passAt c.tk σ) I1 (.cons rfl .nil) (lift_use (K := c.X.K) d1 st1 (Reps.cons (rep_ref.mpr rfl) Reps.nil) q))⟩
/-- the class at C is made by an __init__ that keeps sp -/
structure Mkn (P : Program) (w : World) (K : PySem.W.Frag) (mg : Str → Option Value) (base : Heap) (k : Nat) (x : Str) (C : Addr) (sp : DSp) : Prop where
  ex : ∃ f fd ps, mg x = some (.ref C) ∧ Mk K C f ∧ Binds K fd ps [] ∧ FnOk P w K mg base (L2.CX P w) k f fd ps (lift K sp)
theorem run_makeD {X : Cx} {W : WX} {pins : List (Addr × Obj)} {σ : L2.St} {H : Hp} {s : Shared} {Q : VK} {us : List Value} {vs : List V} {f : Addr} {fd : FuncData} {ps : List Str} {k : Nat} {sp : Sp} (M : Mk X.K C f) (F : FnOk X.prog X.w X.K X.mg X.base (L2.CX X.prog X.w) k f fd ps sp) (hr : Room (k + 1) X.A) (hb : Binds X.K fd ps [])
    (tk : Takes X W) (I : L2.Inv X pins σ H s) (r : Vals vs us)
    (h : ∀ x dx, H x = none → H dx = none → dx ≠ x → sp (.ref x :: vs) (upd (upd H dx (.own x)) x (.ins C dx [])) (fun v H2 => v = .non ∧ Q (.ref x) H2) (WE W σ)) :
    wpAny (model X.prog X.w) X.A (call (.ref C) us) (EP X pins σ Q) X.xe s := by
  have hq := h (s.heap.objs.size + 1) s.heap.objs.size (I.hok.fresh (Nat.le_succ _)) (I.hok.fresh (Nat.le_refl _)) (Nat.ne_of_lt (Nat.lt_succ_self _))
  have I2 := Inv.made (C := C) I
  have r2 : Vals (V.ref (s.heap.objs.size + 1) :: vs) (Value.ref (s.heap.objs.size + 1) :: us) := .cons rfl r
  have hl : (Value.ref (s.heap.objs.size + 1) :: us).length = ps.length := r2.length.symm.trans (F.len _ _ _ _ hq)
  have bt := hb _ (Value.ref (s.heap.objs.size + 1) :: us) I2.kIn (by rw [List.append_nil]; exact hl)
  rw [List.append_nil] at bt
  refine wpAny_call (make_map (f := f) I.kIn M.makes M.init (beq_iff_eq.mp M.fn) (codeAny_mono (F.run _ X.stack _ _ ⟨Value.ref (s.heap.objs.size + 1) :: us, []⟩ _ _ _ (WE W σ) (hr.make C us []) (I2.env0.make C us []) bt r2 hq) fun r s' hq' => ?_))
  match r, hq' with
  | .error e, hq' => exact passAt tk σ pins _ _ e s' I2 hq'
  | .ok (.ret u), hq' =>
    obtain ⟨v, H', I3, rv, ev, q3⟩ := I2.after hq'
    subst ev
    exact ⟨rv, ⟨V.ref (s.heap.objs.size + 1), H', I3, rfl, q3⟩⟩
theorem made_sim {K : PySem.W.Frag} {H : Hp} {x dx : Addr} (m : Sim K H S) (hx : H x = none) (hd : H dx = none) (hne : dx ≠ x) : Stp H S (upd (upd H dx (.own x)) x (.ins C dx [])) (sup S x (.ins C [])) ∧ Sim K (upd (upd H dx (.own x)) x (.ins C dx [])) (sup S x (.ins C [])) := by
  obtain ⟨st, sm, _⟩ := m.new (o := .own x) hd
  obtain ⟨st2, sm2⟩ := sm.newM (o := .ins C dx []) (m := .ins C []) (a := x) (by rw [upd_ne (fun e => hne e.symm)]; exact hx) fun H' S' sb e => ⟨dx, [], e, rfl⟩
  exact ⟨st.trans st2, sm2⟩
theorem q_make {k : Nat} {sp : DSp} (M : Mkn c.X.prog c.X.w c.X.K c.X.mg c.X.base k x C sp) (hr : Room (k + 1) c.X.A) (ha : QA c (e :: es) la) (hg : Gl c.X x := by rfl) (hdb : (x == ("__debug__" : Str)) = false := by decide)
    (he : starEach (e :: es) c.X.env = (false, eval e c.X.env) :: starEach es c.X.env := by rfl) (hpl : (backTo pos (starEach es c.X.env)).any (·.1) = false := by rfl) :
    QE c (.Call (.Name x p) (e :: es) [] pos) fun ρ S Q => la ρ S fun ds S1 => ∀ q, S1 q = none → sp (.ref q :: ds) (sup S1 q (.ins C [])) (fun v S2 => v = .non ∧ Q (.ref q) S2) fun cls d S' => c.DX cls d ρ S' :=
  ⟨fun ρ S Q h σ H ds pins s I => by
    obtain ⟨f, fd, ps, hm, M, hb, F⟩ := M.ex
    refine wpAny_Call_Name_kw (ld_glob I hg hm ?_ hdb)
    refine PySem.W.callWith_K (h₀ := c.X.base) I.ok.mod.kin M.kp (thn ((ha.run _ _ _ h).mono (fun _ _ h => h.2) σ H ds pos pins s I) fun us s1 ⟨vs, H1, I1, r, dsa, S1, rr, m1, st1, q⟩ => ⟨I1.kIn, ?_⟩) he hpl
    refine run_makeD M F hr hb c.tk I1 r fun x dx hx hd hne => ?_
    have d1 := ds.step m1 st1
    obtain ⟨st2, sm2⟩ := made_sim (C := C) m1 hx hd hne
    have d2 := d1.step sm2 st2
    exact ⟨.ref x :: dsa, _, _, _, Reps.cons (rep_ref.mpr rfl) (rr.mono st2), sm2, q x (m1.free hx), fun d S' v H' hq rv m st => ⟨by obtain ⟨rfl, _⟩ := hq; exact rep_non.mp rv, .ref x, S', rep_ref.mpr rfl, m, (st1.trans st2).trans st, hq.2⟩, fun cls dd S' H' hq m st => d2.ex cls dd σ H' ρ S' hq (d2.sl.step st) m st⟩⟩

/-! ### raise -/
/-- an error class of one's own, over ValueError, without an __init__ -/
structure Er (K : PySem.W.Frag) (mg : Str → Option Value) (x : Str) (C : Addr) : Prop where
  gl : mg x = some (.ref C)
  ex : PySem.W.excIn K C [.type "ValueError", .type "Exception", .type "BaseException", .type "object"] "ValueError.__new__" = true
  kp : PySem.W.keepIn K (.ref C) = true
  sb : PySem.W.subIn K (.ref C) (.type "BaseException") = some true
  ty : PySem.W.typeIn K (.ref C) = some (.type "type")
theorem pmk_own0 {X : Cx} (er : Er X.K X.mg x C) (hg : Gl X x) (hdb : (x == ("__debug__" : Str)) = false := by decide) : PMk X (.Call (.Name x p) [] [] pos) (fun _ H Q => Q (.ref C) none H) := by
  intro pins s σ H Q I h
  refine wpAny_Call_Name_kw (ld_glob I hg er.gl ?_ hdb)
  refine PySem.W.callWith_K0 I.kIn er.kp ?_
  obtain ⟨bm, N, nm, qn, bs, hdct, sn, sub, ab, col, dd, k0, k1, k2, k3, k5, mN, hC, hN, hni, T⟩ := exc_obj I.kIn er.ex
  refine wpAny_call_exc_subT PySem.F.excBase_ValueError T hC hN hni (fun h' e hm => ?_) (by show 0 ≤ sizeLine; exact Nat.zero_le _)
  exact mk_of I hm (raises_own er.sb er.ty) h (I.hok.gone hm.new)
theorem qs_raise0 (er : Er c.X.K c.X.mg x C) (hg : Gl c.X x := by rfl) (hc : c.X.calm = true := by rfl) (hdb : (x == ("__debug__" : Str)) = false := by decide) : QS c (.Raise (some (.Call (.Name x p) [] [] pos)) none pos') fun ρ S _ _ _ _ => c.DX (.ref C) none ρ S :=
  ⟨fun ρ S nx rt bk ct h => JS.of (ps_raise hc c.tk (pmk_own0 er hg hdb)) fun σ H ds => ds.ex _ _ σ H ρ S h ds.sl ds.sim Stp.refl⟩

/-! ### try .. except X: suite -/
def trC (c : Ctx) (W : WX) (pn : List (Addr × Obj)) (xe : Value → Shared → Prop) (tk : Takes (c.X.tr pn xe) W) (DX : Value → Option Addr → DEnv → SS → Prop) : Ctx := ⟨c.X.tr pn xe, W, tk, DX⟩
def suC (c : Ctx) (a : Addr) (pn : List (Addr × Obj)) : Ctx := ⟨c.X.suite a pn, fun _ _ _ _ => False, takes0, fun _ _ _ _ => False⟩
theorem su_run {ts : RZ} {b₀ : Stmt} {suite : List Stmt} {a : Addr} {nx bk ct : NK} {rt : RK} {σ' : L2.St} {H0 H' : Hp} {S0 S' : SS} {ρ' : DEnv} (hu : ∀ (a : Addr) (pn : List (Addr × Obj)), QZ (suC c a pn) (b₀ :: suite) ts) (h : ts ρ' S' nx rt bk ct) (sl : Sl c.X.K H' S' σ' ρ') (m : Sim c.X.K H' S') (st : Stp H0 S0 H' S') (pn : List (Addr × Obj)) : tSs (c.X.suite a pn) (b₀ :: suite) (pstE c.X.K H0 S0 nx rt bk ct) σ' H' :=
  tSs_mono (((hu a pn).run _ _ _ _ _ _ h) σ' H' ⟨sl, m, fun _ _ _ _ _ _ z => z.elim, fun _ _ _ _ _ z => z.elim⟩) (pstE_step st)
theorem su_runA {ts : RZ} {b₀ : Stmt} {suite : List Stmt} {a : Addr} {nx bk ct : NK} {rt : RK} {σ' : L2.St} {H0 H' : Hp} {S0 S' : SS} (hu : ∀ (a : Addr) (pn : List (Addr × Obj)), QZ (suC c a pn) (b₀ :: suite) ts) (h : ts (List.replicate c.X.N.length none) S' nx rt bk ct) (m : Sim c.X.K H' S') (st : Stp H0 S0 H' S') (pn : List (Addr × Obj)) : tSs (c.X.suite a pn) (b₀ :: suite) (pstE c.X.K H0 S0 nx rt bk ct) σ' H' := by
  by_cases hl : σ'.length = c.X.N.length
  · refine su_run hu h ⟨by rw [List.length_replicate, hl], fun i d e => ?_⟩ m st pn
    rw [List.getElem?_replicate] at e
    split at e <;> cases e
  · intro pins s I
    exact absurd I.len hl
theorem qs_try {body suite : List Stmt} {b₀ : Stmt} {np tp hp : Pos} {tb : (Value → Option Addr → DEnv → SS → Prop) → RZ} {ts : RZ} {c0 : Value} (hs : c.X.stack = c.X.env :: c.X.outer) (hf : c.X.env.frame = some c.X.env.locals) (hn : Names c.X x c0)
    (hb : ∀ (W : WX) (pn : List (Addr × Obj)) (xe : Value → Shared → Prop) (tk : Takes (c.X.tr pn xe) W) (DX : Value → Option Addr → DEnv → SS → Prop), PassesOwn (model c.X.prog c.X.w) c.X.A c.X.env xe → QZ (trC c W pn xe tk DX) body (tb DX))
    (hu : ∀ (a : Addr) (pn : List (Addr × Obj)), QZ (suC c a pn) (b₀ :: suite) ts) :
    QS c (.Try body [.ExceptHandler (some (.Name x np)) none (b₀ :: suite) hp] [] [] tp) fun ρ S nx rt bk ct =>
      tb (fun cls d ρ' S' => ∃ b, PySem.W.exmOne c.X.K cls c0 = some b ∧ if b = true then ts ρ' S' nx rt bk ct else c.DX cls d ρ' S') ρ S nx rt bk ct :=
  ⟨fun ρ S nx rt bk ct h => JS.of (ps_try_only (tb := fun W D σ H => ∀ pn xe (tk : Takes (c.X.tr pn xe) W), PassesOwn (model c.X.prog c.X.w) c.X.A c.X.env xe → tSs (c.X.tr pn xe) body D σ H) (ts := fun a cls d D σ H => ∀ pn, tSs (c.X.suite a pn) (b₀ :: suite) D σ H) hs hf hn c.tk
      (fun W pn xe tk po => ⟨fun pins s σ H D I h => h pn xe tk po pins s I⟩) (fun a oe cls d pn _ _ => ⟨fun pins s σ H D I h => h _ pins s I⟩)) fun σ H ds pn xe tk po => by
    have j := (hb _ pn xe tk _ po).run _ _ _ _ _ _ h
    refine j σ H ⟨ds.sl, ds.sim, fun cls d σ' H' ρ' S' ⟨b, hb1, hb2⟩ sl m st => ⟨b, hb1, fun e a na pn => ?_, fun e => ?_⟩, fun cls d σ' H' S' ⟨b, hb1, hb2⟩ m st => ⟨b, hb1, fun e a na pn => ?_, fun e => ?_⟩⟩
    · rw [e, if_pos rfl] at hb2
      exact su_run hu hb2 sl m st pn
    · rw [e, if_neg Bool.false_ne_true] at hb2
      exact ds.ex cls d σ' H' ρ' S' hb2 sl m st
    · rw [e, if_pos rfl] at hb2
      exact su_runA hu hb2 m st pn
    · rw [e, if_neg Bool.false_ne_true] at hb2
      exact ds.exA cls d σ' H' S' hb2 m st⟩
end
end DP

namespace DP
open PySem PySem.Spec PyProof.Rows L2
section
variable {c : Ctx} {e o a b d value k v : Expr} {es : List Expr} {ρ : DEnv} {S : SS} {nx bk ct : NK} {rt : RK} {pos p pos' tpos apos cpos : Pos} {te to ta tb tv tk : RE} {la : RL} {fe : RB} {C : Addr} {f x m : Str}
/-! ### dicts made -/
theorem q_dict0 : QE c (.Dict [] [] pos) fun _ S Q => ∀ p, S p = none → Q (.ref p) (sup S p (.dk [])) := ⟨fun _ _ _ h => je_dict0 h⟩
abbrev RD := DEnv → SS → (List (Key × D) → SS → Prop) → Prop
theorem tPairs_mono : ∀ {trs : List (TE × TE)} {σ : L2.St} {H : Hp} {R R' : List (V × V) → Hp → Prop}, (∀ p ∈ trs, ∃ X e e', p = (tE X e, tE X e')) → tPairs trs σ H R → (∀ ps H', R ps H' → R' ps H') → tPairs trs σ H R'
  | [], σ, H, R, R', _, h, k => k _ _ h
  | (t1, t2) :: r, σ, H, R, R', hp, h, k => by
    obtain ⟨X, e, e', hh⟩ := hp _ List.mem_cons_self
    cases hh
    exact tE_mono h fun v H' h => tE_mono h fun w H2 h => tPairs_mono (fun p hp' => hp p (List.mem_cons_of_mem _ hp')) h fun ps H3 h => k _ _ h
structure QPs (c : Ctx) (pos : Pos) (ks : List (Option Expr)) (vs : List Expr) (t : RD) : Prop where
  ex : ∃ trs, PPs c.X pos ks vs trs ∧ (∀ p ∈ trs, ∃ X e e', p = (tE X e, tE X e')) ∧ ∀ ρ S Q, t ρ S Q → ∀ σ H, Ds c σ H ρ S → tPairs trs σ H fun ps H' => ∃ (kvs : List (Key × D)) (S' : SS) (ws : List (Key × V)), RepP c.X.K (im H' S') kvs ws ∧ ps = ws.map (fun kv => (kV kv.1, kv.2)) ∧ kvs.length = ks.length ∧ Sim c.X.K H' S' ∧ Stp H S H' S' ∧ Q kvs S'
theorem qps_nil : QPs c pos [] [] fun _ S Q => Q [] S := ⟨[], pps_nil, (fun p h => absurd h (by simp)), fun ρ S Q h σ H ds => ⟨[], S, [], rfl, rfl, rfl, ds.sim, Stp.refl, h⟩⟩
theorem qps_cons {ks : List (Option Expr)} {vs : List Expr} {t : RD} (hk : QE c k tk) (hv : QE c v tv) (hr : QPs c pos ks vs t) : QPs c pos (some k :: ks) (v :: vs) fun ρ S Q => tk ρ S fun x S1 => tv ρ S1 fun y S2 => t ρ S2 fun kvs S3 => rKey x fun key => Q ((key, y) :: kvs) S3 := by
  obtain ⟨trs, pp, hf, run⟩ := hr.ex
  refine ⟨(tE c.X k, tE c.X v) :: trs, pps_cons PEt PEt pp, fun p hp => ?_, fun ρ S Q h σ H ds => ?_⟩
  · rcases List.mem_cons.mp hp with rfl | hp
    · exact ⟨_, _, _, rfl⟩
    · exact hf p hp
  · refine (hk.run _ _ _ h).then ds fun x S1 v1 H1 r1 d1 s1 h1 => (hv.run _ _ _ h1).then d1 fun y S2 v2 H2 r2 d2 s2 h2 => tPairs_mono hf (run _ _ _ h2 σ H2 d2) fun ps H3 ⟨kvs, S3, ws, rp, e, hl, m, st, q⟩ => ?_
    obtain ⟨key, rfl, q3⟩ := rKey_ok q
    refine ⟨(key, y) :: kvs, S3, (key, v2) :: ws, ⟨v2, ws, rfl, r2.mono st, rp⟩, ?_, by simp only [List.length_cons, hl], m, (s1.trans s2).trans st, q3⟩
    rw [List.map_cons, ← e, kD_rep r1]
theorem putK_new {kvs : List (Key × V)} {key : Key} {v : V} (h : key ∉ kvs.map (·.1)) : putK kvs key v = kvs ++ [(key, v)] := by
  unfold putK
  rw [if_neg]
  rw [List.any_eq_true]
  rintro ⟨p, hp, e⟩
  exact h (List.mem_map.mpr ⟨p, hp, of_decide_eq_true e⟩)
theorem merge_new : ∀ {more kvs : List (Key × V)}, ((kvs ++ more).map (·.1)).Nodup → mergeK kvs more = kvs ++ more
  | [], kvs, _ => by show kvs = _; rw [List.append_nil]
  | p :: r, kvs, h => by
    show mergeK (putK kvs p.1 p.2) r = _
    have hn : p.1 ∉ kvs.map (·.1) := by
      rw [List.map_append, List.map_cons] at h
      have := (List.nodup_append.mp h).2.2
      intro hm
      exact this _ hm _ List.mem_cons_self rfl
    rw [putK_new hn, merge_new (by rw [List.append_assoc]; exact h), List.append_assoc] <;> rfl
theorem repP_keys {κ : Type} {K : PySem.W.Frag} {G : Hp} : ∀ {xs : List (κ × D)} {vs : List (κ × V)}, RepP K G xs vs → xs.map (·.1) = vs.map (·.1)
  | [], vs, h => by cases h; rfl
  | (k, d) :: xs, vs, h => by
    obtain ⟨v, t, rfl, _, h3⟩ := h
    simp only [List.map_cons, repP_keys h3]
/-- {k: v, ..}, unlike keys -/
theorem q_dict {ks : List (Option Expr)} {vs : List Expr} {t : RD} (h : QPs c pos ks vs t) (h1 : ks.all (·.isSome) = true := by rfl) (h2 : ks.length = vs.length := by rfl) (h3 : ks ≠ [] := by simp) (h4 : ks.length ≤ 15 := by decide) :
    QE c (.Dict ks vs pos) fun ρ S Q => ∀ p, S p = none → t ρ (sup S p (.dk [])) fun kvs S1 => S1 p = some (.dk []) ∧ (kvs.map (·.1)).Nodup ∧ Q (.ref p) (sup S1 p (.dk kvs)) := by
  obtain ⟨trs, pp, hf, run⟩ := h.ex
  refine ⟨fun ρ S Q q => JE.of (pe_disp pp h1 h2 h3 h4) fun σ H ds p hp => ?_⟩
  obtain ⟨st, sm⟩ := ds.sim.newM (o := .dK []) (m := .dk []) hp fun H' S' sb e => ⟨[], e, rfl⟩
  refine tPairs_mono hf (run _ _ _ (q p (ds.sim.free hp)) σ _ (ds.step sm st)) fun ps H1 ⟨kvs, S1, ws, rp, e, hl, m, st1, e1, nd, q⟩ => ?_
  obtain ⟨us, e4, e5⟩ := m p _ e1
  cases e5
  refine ⟨e4, ws, e, by rw [← repP_len rp, hl]; exact h4, ?_⟩
  rw [repP_keys rp] at nd
  have em : mergeK [] ws = ws := merge_new (by rw [List.nil_append]; exact nd)
  rw [em]
  obtain ⟨st4, sm4⟩ := m.write (o := .dK ws) (m := .dk kvs) e1 fun H' S' sb e => ⟨_, e, rp.mono sb⟩
  exact ⟨.ref p, _, rep_ref.mpr rfl, sm4, (st.trans st1).trans st4, q⟩
/-! ### [..] * n -/
theorem reps_flat {K : PySem.W.Frag} {G : Hp} {xs : List D} {vs : List V} (h : Reps K G xs vs) : ∀ n, Reps K G (List.replicate n xs).flatten (List.replicate n vs).flatten
  | 0 => Reps.nil
  | n + 1 => by rw [List.replicate_succ, List.replicate_succ, List.flatten_cons, List.flatten_cons]; exact h.append (reps_flat h n)
theorem rep_run {v2 : V} {H : Hp} {p : Addr} {vs : List V} {xs : List D} {y : D} {R : Nat → Prop} {T : V → Hp → Prop} (hp : H p = some (.lst vs)) (rr : Reps c.X.K (im H S) xs vs) (r2 : Rep c.X.K (im H S) y v2)
    (h : rint y fun i => (-(2 ^ 63) ≤ i ∧ i < 2 ^ 63 ∧ xs.length * i.toNat ≤ sizeLine) ∧ R i.toNat) (k : ∀ n r, R n → H r = none → T (.ref r) (upd H r (.lst (List.replicate n vs).flatten))) : L2.rRep (.ref p) v2 H T := by
  obtain ⟨i, rfl, ⟨h1, h2, h3⟩, h4⟩ := rint_ok h
  exact ⟨p, i, vs, rfl, rep_int.mp r2, hp, h1, h2, by rw [← rr.length]; exact h3, fun r hr => k _ r h4 hr⟩
theorem q_repM {lp : Pos} (ha : QA c es la) (hb : QE c b tb) (hl : es.length ≤ 1000 := by decide) : QE c (.BinOp (.List es lp) .Mult b pos) fun ρ S Q => la ρ S fun xs S1 => tb ρ S1 fun y S2 => rint y fun i => (-(2 ^ 63) ≤ i ∧ i < 2 ^ 63 ∧ xs.length * i.toNat ≤ sizeLine) ∧ ∀ r, S2 r = none → Q (.ref r) (sup S2 r (.lst (List.replicate i.toNat xs).flatten)) :=
  ⟨fun ρ S Q h => JE.of (pe_op op_rep (pe_lst PAt) PEt) fun σ H ds => (ha.run _ _ _ h).then ds fun xs S1 vs H1 r1 d1 s1 ⟨hlx, h1⟩ => ⟨by rw [← r1.length, hlx, sizeLine_eq]; omega, fun p hp => by
    obtain ⟨st, sm, e⟩ := d1.sim.new (o := .lst vs) hp
    refine (hb.run _ _ _ h1).then (d1.step sm st) fun y S2 w H2 r2 d2 s2 h2 => ?_
    have e2 := (of_im (s2 p _ e)).2
    have rr : Reps c.X.K (im H2 S2) xs vs := (r1.mono st).mono s2
    refine rep_run (R := fun n => ∀ r, S2 r = none → Q (.ref r) (sup S2 r (.lst (List.replicate n xs).flatten))) e2 rr r2 h2 fun n r hR hr => ?_
    obtain ⟨s4, m4⟩ := d2.sim.newM (o := .lst (List.replicate n vs).flatten) (m := .lst (List.replicate n xs).flatten) hr fun H' S' sb e => ⟨_, e, reps_flat (rr.mono sb) n⟩
    exact ⟨.ref r, _, rep_ref.mpr rfl, m4, ((s1.trans st).trans s2).trans s4, hR r (d2.sim.free hr)⟩⟩⟩
theorem q_rep {lp : Pos} (ha : QA c es la) (hb : QE c b tb) (hl : es.length ≤ 1000 := by decide) : QE c (.BinOp (.List es lp) .Mult b pos) fun ρ S Q => la ρ S fun xs S1 => tb ρ S1 fun y S2 => rint y fun i => (-(2 ^ 63) ≤ i ∧ i < 2 ^ 63 ∧ xs.length * i.toNat ≤ sizeLine) ∧ Q (.fl (List.replicate i.toNat xs).flatten) S2 :=
  ⟨fun ρ S Q h => JE.of (pe_op op_rep (pe_lst PAt) PEt) fun σ H ds => (ha.run _ _ _ h).then ds fun xs S1 vs H1 r1 d1 s1 ⟨hlx, h1⟩ => ⟨by rw [← r1.length, hlx, sizeLine_eq]; omega, fun p hp => by
    obtain ⟨st, sm, e⟩ := d1.sim.new (o := .lst vs) hp
    refine (hb.run _ _ _ h1).then (d1.step sm st) fun y S2 w H2 r2 d2 s2 h2 => ?_
    have e2 := (of_im (s2 p _ e)).2
    have rr : Reps c.X.K (im H2 S2) xs vs := (r1.mono st).mono s2
    refine rep_run (R := fun n => Q (.fl (List.replicate n xs).flatten) S2) e2 rr r2 h2 fun n r hR hr => ?_
    obtain ⟨s4, m4, e4⟩ := d2.sim.new (o := .lst (List.replicate n vs).flatten) hr
    exact ⟨.fl _, S2, rep_fl.mpr ⟨r, _, rfl, SqL.of e4, reps_flat (rr.mono s4) n⟩, m4, ((s1.trans st).trans s2).trans s4, hR⟩⟩⟩

/-! ### methods of what is built in -/
def tMt (X : Cx) (id : String) : V → List V → Hp → VK → Prop := fun x xs H R => ∀ (pins : List (Addr × Obj)) (s : Shared) (σ : L2.St) (v : Value) (us : List Value), L2.Inv X pins σ H s → RelV x v → Vals xs us → wpAny (model X.prog X.w) X.A (call (.builtin id) (v :: us)) (EP X pins σ R) X.xe s
theorem MtRt {X : Cx} {id : String} : MtR X id (tMt X id) := fun pins s σ H x xs v us Q I r rs h => h pins s σ v us I r rs
theorem tMt_of {X : Cx} {id : String} {r : V → List V → Hp → VK → Prop} {x : V} {xs : List V} {H : Hp} {R : VK} (h : MtR X id r) (q : r x xs H R) : tMt X id x xs H R := fun pins s σ v us I rx rs => h pins s σ H x xs v us R I rx rs q
def MD (c : Ctx) (id : String) (x : D) (ds : List D) (S : SS) (Q : D → SS → Prop) : Prop := ∀ H v vs, Sim c.X.K H S → Rep c.X.K (im H S) x v → Reps c.X.K (im H S) ds vs → tMt c.X id v vs H (pst c.X.K H S Q)
/-- the receiver is of the built-in type T -/
def tyD (T : String) (S : SS) (x : D) : Prop := ∀ K H v, Sim K H S → Rep K (im H S) x v → tyV K T v H
def rcL (S : SS) (x : D) : Prop := match x with
  | .fl _ => True
  | .ref a => ∃ xs, S a = some (.lst xs)
  | _ => False
def rcD (S : SS) (x : D) : Prop := match x with
  | .ref a => ∃ xs, S a = some (.dk xs)
  | _ => False
def rcS (S : SS) (x : D) : Prop := match x with
  | .str _ => True
  | _ => False
theorem rcL_ok {x : D} (h : rcL S x) : tyD "list" S x := fun K H v m r => by
  cases x with
  | fl xs => obtain ⟨a, vs, rfl, h1, _⟩ := IsL.sq .fl r m; exact .inl ⟨rfl, vs, h1⟩
  | ref a => obtain ⟨xs, h0⟩ := h; obtain ⟨a, vs, rfl, h1, _⟩ := IsL.sq (.ref h0) r m; exact .inl ⟨rfl, vs, h1⟩
  | _ => exact h.elim
theorem rcD_ok {x : D} (h : rcD S x) : tyD "dict" S x := fun K H v m r => by
  cases x with
  | ref a => obtain ⟨xs, h0⟩ := h; obtain ⟨vs, e1, _⟩ := m a _ h0; rw [rep_ref.mp r]; exact .inr (.inr (.inl ⟨rfl, .inl ⟨vs, e1⟩⟩))
  | _ => exact h.elim
theorem rcS_ok {x : D} (h : rcS S x) : tyD "str" S x := fun K H v m r => by
  cases x with
  | str a => rw [rep_str.mp r]; exact rfl
  | _ => exact h.elim
theorem q_bm {T name id : String} {rc : SS → D → Prop} {rm : D → List D → SS → (D → SS → Prop) → Prop} (pa : PlainAttrs T) (slot : Slot T name id) (hty : typeOf (.builtin id) = pure (.type "method_descriptor")) (h1 : ∀ S x, rc S x → tyD T S x) (h2 : ∀ x ds S Q, rm x ds S Q → MD c id x ds S Q) (ho : QE c o to) (ha : QA c (e :: es) la)
    (hbase : attributeBase o name c.X.env (eval o c.X.env) = eval o c.X.env := by rfl)
    (hfew : ((backTo cpos (starEach (e :: es) c.X.env)).all (fun x => !x.1) && (backToKw cpos (keywordEach [] c.X.env)).all (fun x => x.1.isSome) && decide ((e :: es).length + ([] : List Keyword).length + (if ([] : List Keyword).isEmpty then 0 else 1) < 30)) = true := by rfl)
    (hline : (apos.endLine == cpos.line) = true := by rfl) (hs : starEach (e :: es) c.X.env = (false, eval e c.X.env) :: starEach es c.X.env := by rfl) (hplain : (backTo cpos (starEach es c.X.env)).any (·.1) = false := by rfl) :
    QE c (.Call (.Attribute o name apos) (e :: es) [] cpos) fun ρ S Q => to ρ S fun x S1 => rc S1 x ∧ la ρ S1 fun ds S2 => rm x ds S2 Q :=
  ⟨fun ρ S Q h => JE.of (pe_bm pa slot hty MtRt PEt PAt hbase hfew hline hs hplain) fun σ H ds => (ho.run _ _ _ h).then ds fun x S1 v H1 r1 d1 s1 ⟨h3, h4⟩ => ⟨h1 _ _ h3 _ _ _ d1.sim r1, (ha.run _ _ _ h4).then d1 fun dsa S2 vs H2 r2 d2 s2 h5 => by
    have t := h2 _ _ _ _ h5.2 H2 v vs d2.sim (r1.mono s2) r2
    intro pins s σ' u us I rx rs
    exact thn (t pins s σ' u us I rx rs) fun z s' ⟨w, H', I', r', q⟩ => ⟨w, H', I', r', pst_step (s1.trans s2) q⟩⟩⟩
theorem q_bm0 {T name id : String} {rc : SS → D → Prop} {rm : D → List D → SS → (D → SS → Prop) → Prop} (pa : PlainAttrs T) (slot : Slot T name id) (hty : typeOf (.builtin id) = pure (.type "method_descriptor")) (h1 : ∀ S x, rc S x → tyD T S x) (h2 : ∀ x ds S Q, rm x ds S Q → MD c id x ds S Q) (ho : QE c o to)
    (hbase : attributeBase o name c.X.env (eval o c.X.env) = eval o c.X.env := by rfl) (hline : (apos.endLine == cpos.line) = true := by rfl) :
    QE c (.Call (.Attribute o name apos) [] [] cpos) fun ρ S Q => to ρ S fun x S1 => rc S1 x ∧ rm x [] S1 Q :=
  ⟨fun ρ S Q h => JE.of (pe_bm0 pa slot hty MtRt PEt hbase hline) fun σ H ds => (ho.run _ _ _ h).then ds fun x S1 v H1 r1 d1 s1 ⟨h3, h4⟩ => ⟨h1 _ _ h3 _ _ _ d1.sim r1, by
    have t := h2 _ _ _ _ h4 H1 v [] d1.sim r1 Reps.nil
    intro pins s σ' u us I rx rs
    exact thn (t pins s σ' u us I rx rs) fun z s' ⟨w, H', I', r', q⟩ => ⟨w, H', I', r', pst_step s1 q⟩⟩⟩
def rm1 (f : D → D → SS → (D → SS → Prop) → Prop) : D → List D → SS → (D → SS → Prop) → Prop := fun x ds S Q => match ds with
  | [y] => f x y S Q
  | _ => False
def rm2 (f : D → D → D → SS → (D → SS → Prop) → Prop) : D → List D → SS → (D → SS → Prop) → Prop := fun x ds S Q => match ds with
  | [y, z] => f x y z S Q
  | _ => False
/-- a list of the store -/
def rLs (x : D) (S : SS) (k : Addr → List D → Prop) : Prop := match x with
  | .ref a => ∃ xs, S a = some (.lst xs) ∧ k a xs
  | _ => False
def rDk (x : D) (S : SS) (k : Addr → List (Key × D) → Prop) : Prop := match x with
  | .ref a => ∃ xs, S a = some (.dk xs) ∧ k a xs
  | _ => False
theorem rLs_ok {x : D} {k : Addr → List D → Prop} (h : rLs x S k) : ∃ a xs, x = .ref a ∧ S a = some (.lst xs) ∧ k a xs := by
  cases x with
  | ref a => obtain ⟨xs, h0, h1⟩ := h; exact ⟨a, xs, rfl, h0, h1⟩
  | _ => exact h.elim
theorem rDk_ok {x : D} {k : Addr → List (Key × D) → Prop} (h : rDk x S k) : ∃ a xs, x = .ref a ∧ S a = some (.dk xs) ∧ k a xs := by
  cases x with
  | ref a => obtain ⟨xs, h0, h1⟩ := h; exact ⟨a, xs, rfl, h0, h1⟩
  | _ => exact h.elim
theorem q_m_append1 (ho : QE c o to) (ha : QE c e te)
    (hbase : attributeBase o "append" c.X.env (eval o c.X.env) = eval o c.X.env := by rfl)
    (hfew : ((backTo cpos (starEach [e] c.X.env)).all (fun x => !x.1) && (backToKw cpos (keywordEach [] c.X.env)).all (fun x => x.1.isSome) && decide (([e] : List Expr).length + ([] : List Keyword).length + (if ([] : List Keyword).isEmpty then 0 else 1) < 30)) = true := by rfl)
    (hline : (apos.endLine == cpos.line) = true := by rfl) (hs : starEach [e] c.X.env = (false, eval e c.X.env) :: starEach [] c.X.env := by rfl) (hplain : (backTo cpos (starEach [] c.X.env)).any (·.1) = false := by rfl) :
    QE c (.Call (.Attribute o "append" apos) [e] [] cpos) fun ρ S Q => to ρ S fun x S1 => rcL S1 x ∧ te ρ S1 fun y S2 => rLs x S2 fun a xs => xs.length < sizeLine ∧ Q .non (sup S2 a (.lst (xs ++ [y]))) :=
  q_bm (rm := rm1 fun x y S Q => rLs x S fun a xs => xs.length < sizeLine ∧ Q .non (sup S a (.lst (xs ++ [y])))) PySem.F.plainAttrs_list PySem.F.slot_list_append PySem.F.type_list_append (fun _ _ => rcL_ok) (fun x ds S Q h H v vs m r rs => by
    match ds, h with
    | [y], h =>
      obtain ⟨a, xs, rfl, h0, hl, q⟩ := rLs_ok h
      obtain ⟨w, rfl, rw1⟩ := reps1 rs
      obtain ⟨us, hv, rv⟩ := m a _ h0
      obtain ⟨st, sm⟩ := m.write (o := .lst (us ++ [w])) (m := .lst (xs ++ [y])) h0 fun H' S' sb e => ⟨_, e, (rv.mono sb).append (Reps.cons (rw1.mono sb) Reps.nil)⟩
      exact tMt_of mt_append ⟨a, us, w, rep_ref.mp r, rfl, hv, by rw [← rv.length]; exact hl, .non, _, rep_non.mpr rfl, sm, st, q⟩) ho (qa_cons ha qa_nil hs) hbase hfew hline hs hplain
end
end DP

namespace DP
open PySem PySem.Spec PyProof.Rows L2
/-! ### a dict that is walked stands still -/
section
variable {K : PySem.W.Frag} {H H' : Hp} {S S' : SS} {a : Addr} {kvs : List (Key × D)} {vs : List (Key × V)} {od : Obj}
theorem lock_on (m : Sim K H S) (h0 : S a = some (.dk kvs)) (r : RepP K (im H S) kvs vs) : Stp H S (upd H a (.frz od (.dK vs))) (sup S a (.fdk od vs kvs)) ∧ Sim K (upd H a (.frz od (.dK vs))) (sup S a (.fdk od vs kvs)) :=
  m.write h0 fun H' S' sb e => ⟨e, r.mono sb⟩
theorem lock_off (m : Sim K H' S') (h0 : S' a = some (.fdk od vs kvs)) : H' a = some (.frz od (.dK vs)) ∧ Stp H' S' (upd H' a (.dK vs)) (sup S' a (.dk kvs)) ∧ Sim K (upd H' a (.dK vs)) (sup S' a (.dk kvs)) := by
  obtain ⟨e, r⟩ := m a _ h0
  exact ⟨e, m.write h0 fun H' S' sb e => ⟨vs, e, r.mono sb⟩⟩
end
section
variable {c : Ctx} {e o a b d value k v tg iter kx vx : Expr} {st : Stmt} {es : List Expr} {ρ : DEnv} {S : SS} {nx bk ct : NK} {rt : RK} {pos p pos' tpos apos cpos : Pos} {te to ta tb tv tk : RE} {la : RL} {fe : RB} {C : Addr} {f x m : Str} {z1 : RZ}
theorem q_lock (h : QE c e te) : QE c e fun ρ S Q => ∃ a kvs, S a = some (.dk kvs) ∧ ∀ od vs, te ρ (sup S a (.fdk od vs kvs)) fun d S' => S' a = some (.fdk od vs kvs) ∧ Q d (sup S' a (.dk kvs)) :=
  ⟨fun ρ S Q ⟨a, kvs, h0, q⟩ => JE.of (pe_lock PEt) fun σ H ds => by
    obtain ⟨vs, e1, e2⟩ := ds.sim a _ h0
    refine ⟨a, _, e1, trivial, fun od => ?_⟩
    obtain ⟨st, sm⟩ := lock_on (od := od) ds.sim h0 e2
    refine (h.run _ _ _ (q od vs)).then (ds.step sm st) fun x S1 v H1 r1 d1 s1 ⟨h3, h4⟩ => ?_
    obtain ⟨e3, st4, sm4⟩ := lock_off d1.sim h3
    exact ⟨e3, x, _, r1.mono st4, sm4, (st.trans s1).trans st4, h4⟩⟩
theorem qs_lock (h : QS c st z1) : QS c st fun ρ S nx rt bk ct => ∃ a kvs, S a = some (.dk kvs) ∧ ∀ od vs, z1 ρ (sup S a (.fdk od vs kvs)) (fun ρ' S' => S' a = some (.fdk od vs kvs) ∧ nx ρ' (sup S' a (.dk kvs))) (fun d S' => S' a = some (.fdk od vs kvs) ∧ rt d (sup S' a (.dk kvs))) (fun ρ' S' => S' a = some (.fdk od vs kvs) ∧ bk ρ' (sup S' a (.dk kvs))) (fun ρ' S' => S' a = some (.fdk od vs kvs) ∧ ct ρ' (sup S' a (.dk kvs))) :=
  ⟨fun ρ S nx rt bk ct ⟨a, kvs, h0, q⟩ => JS.of (ps_lock PSt) fun σ H ds => by
    obtain ⟨vs, e1, e2⟩ := ds.sim a _ h0
    refine ⟨a, _, e1, trivial, fun od => ?_⟩
    obtain ⟨st, sm⟩ := lock_on (od := od) ds.sim h0 e2
    have key : ∀ {T : NK} {σ' : L2.St} {H' : Hp}, pstN c.X.K (upd H a (.frz od (.dK vs))) (sup S a (.fdk od vs kvs)) (fun ρ' S' => S' a = some (.fdk od vs kvs) ∧ T ρ' (sup S' a (.dk kvs))) σ' H' → H' a = some (.frz od (.dK vs)) ∧ pstN c.X.K H S T σ' (upd H' a (.dK vs)) := fun {T σ' H'} ⟨ρ', S', sl, m, s1, h3, h4⟩ => by
      obtain ⟨e3, st4, sm4⟩ := lock_off m h3
      exact ⟨e3, ρ', _, sl.step st4, sm4, (st.trans s1).trans st4, h4⟩
    refine tS_mono ((h.run _ _ _ _ _ _ (q od vs)) σ _ (ds.step sm st)) ⟨fun σ' H' q => key q, fun v H' ⟨d, S', r, m, s1, h3, h4⟩ => ?_, fun σ' H' q => key q, fun σ' H' q => key q⟩
    obtain ⟨e3, st4, sm4⟩ := lock_off m h3
    exact ⟨e3, d, _, r.mono st4, sm4, (st.trans s1).trans st4, h4⟩⟩
/-- a dict that stands still -/
def rFdk (x : D) (S : SS) (k : Addr → Obj → List (Key × V) → List (Key × D) → Prop) : Prop := match x with
  | .ref a => ∃ od vs kvs, S a = some (.fdk od vs kvs) ∧ k a od vs kvs
  | _ => False
def itemsD (kvs : List (Key × D)) : List D := kvs.map fun p => .tup [kD p.1, p.2]
def keysD (kvs : List (Key × D)) : List D := kvs.map fun p => kD p.1
def valsD (kvs : List (Key × D)) : List D := kvs.map (·.2)
theorem kD_rep' {K : PySem.W.Frag} {G : Hp} {k : Key} : Rep K G (kD k) (kV k) := by
  cases k with
  | inl i => exact rep_int.mpr rfl
  | inr i => exact rep_str.mpr rfl
theorem repP_at {κ : Type} {K : PySem.W.Frag} {G : Hp} : ∀ {xs : List (κ × D)} {vs : List (κ × V)} {i : Nat} {p : κ × D}, RepP K G xs vs → xs[i]? = some p → ∃ v, vs[i]? = some (p.1, v) ∧ Rep K G p.2 v
  | [], vs, i, p, h, e => by simp at e
  | (k, d) :: xs, vs, i, p, h, e => by
    obtain ⟨v, t, rfl, h1, h2⟩ := h
    cases i with
    | zero => cases e; exact ⟨v, rfl, h1⟩
    | succ i => exact repP_at (i := i) h2 (by simpa using e)
theorem qi_items {elts : List Expr} {kk : Nat} (h : QE c o to) (hbase : attributeBase o "items" c.X.env (eval o c.X.env) = eval o c.X.env := by rfl) (hline : (apos.endLine == cpos.line) = true := by rfl) :
    QI c (.Tuple elts kk tpos) (.Call (.Attribute o "items" apos) [] [] cpos) fun ρ S R => to ρ S fun x S1 => rFdk x S1 fun a od vs kvs => R (itemsD kvs) (fun S' => S' a = some (.fdk od vs kvs)) S1 :=
  ⟨fun ρ S R q => JI.of (pi_items PEt hbase hline) fun σ H ds => (h.run _ _ _ q).then ds fun x S1 v H1 r1 d1 s1 h1 => by
    cases x with
    | ref a =>
      obtain ⟨od, vs, kvs, h0, h1⟩ := h1
      obtain ⟨e1, e2⟩ := d1.sim a _ h0
      refine ⟨a, od, vs, rep_ref.mp r1, e1, itemsD kvs, _, S1, d1.sim, s1, fun H2 S2 m2 st2 cn i => ?_, h1⟩
      obtain ⟨e3, e4⟩ := m2 a _ cn
      have hl := repP_len e4
      refine ⟨fun d hd => ?_, fun h5 _ => ⟨e3, by unfold itemsD at h5; rw [List.length_map] at h5; omega⟩⟩
      unfold itemsD at hd
      rw [List.getElem?_map] at hd
      cases e5 : kvs[i]? with
      | none => rw [e5] at hd; cases hd
      | some p =>
        rw [e5] at hd
        cases hd
        obtain ⟨w, e6, e7⟩ := repP_at e4 e5
        refine ⟨⟨e3, by obtain ⟨z, _⟩ := List.getElem?_eq_some_iff.mp e6; exact z⟩, fun y H' hy => ?_⟩
        obtain ⟨T, k, v', e8, e9, e10, e11⟩ := hy
        rw [e6] at e8
        cases e8
        rw [e9]
        exact pair_ok m2 e10 e11 kD_rep' e7
    | _ => exact h1.elim⟩
theorem q_dc {ifs : List Expr} {scope : Scope} {it : RI} {tt : RB} (pat : Pat) (own : List (Str × Nat)) (nd : c.X.N.Nodup) (hi : QI c tg iter it) (hg : LcT c scope tg pat) (ht : QTs c scope ifs tt) (hk : QEs c scope kx tk) (hv : QEs c scope vx tv) (ok : L2.blkC c.X.N c.X.env.scope scope own = true := by rfl) (hw : pat.slots.all (fun i => (own.map (·.2)).contains i) = true := by rfl)
    (hc : c.X.calm = true := by rfl) (hs : ∀ x, foldedSetIterable iter c.X.env x = pure x := by intro _; rfl) : QE c (.DictComp kx vx [⟨tg, iter, ifs, 0⟩] scope pos) fun ρ S Q => it ρ S fun ds Cnd S1 =>
      ∃ Iv : List D → List (Key × D) → SS → Prop, Iv ds [] S1 ∧ ds.length < sizeLine ∧ (∀ r acc S' Dl, S' Dl = none → Iv r acc S' → Cnd (sup S' Dl (.dk acc)) ∧ acc.length + r.length ≤ ds.length) ∧
    (∀ (Dl : Addr) d r acc S', S' Dl = none → Iv (d :: r) acc S' → rPat pat d (wipeD ρ (own.map (·.2))) fun ρ2 => tt ρ2 (sup S' Dl (.dk acc)) fun k S3 => if k = true then tk ρ2 S3 fun y S4 => tv ρ2 S4 fun z S5 => ∃ key, y = kD key ∧ S5 Dl = some (.dk acc) ∧ Iv r (putD acc key z) (sdel S5 Dl) else S3 Dl = some (.dk acc) ∧ Iv r acc (sdel S3 Dl)) ∧
    ∀ acc S' Dl, S' Dl = none → Iv [] acc S' → Q (.ref Dl) (sup S' Dl (.dk acc)) :=
  ⟨fun ρ S Q h => je_dc pat own nd ((hi.run _ _ _ h).mono fun ds Cnd S1 ⟨Iv, i0, hsz, hcn, turn, fin⟩ => by
    refine ⟨fun i acc S' => Iv (ds.drop i) acc S', i0, hsz, fun i acc S' Dl hn q => ?_, fun Dl i d acc S' hn hd q => ?_, fun acc S' Dl hn q => fin acc S' Dl hn (by have q' : Iv (ds.drop ds.length) acc S' := q; rw [List.drop_length] at q'; exact q')⟩
    · obtain ⟨h1, h2⟩ := hcn _ acc S' Dl hn q
      rw [List.length_drop] at h2
      exact ⟨h1, by omega⟩
    · obtain ⟨hi, e⟩ := List.getElem?_eq_some_iff.mp hd
      have e1 : ds.drop i = d :: ds.drop (i + 1) := by rw [← e]; exact List.drop_eq_getElem_cons hi
      have q' : Iv (ds.drop i) acc S' := q
      rw [e1] at q'
      obtain ⟨ρ2, hb, q2⟩ := rPat_ok (turn Dl d _ acc S' hn q')
      refine ⟨ρ2, hb, fun s H C cl fp => (ht.run s H C cl fp _ _ _ q2).mono fun k S3 q3 => ?_⟩
      cases k with
      | true =>
        rw [if_pos rfl] at q3 ⊢
        intro s H C cl fp
        refine ((hk.run s H C cl fp).run _ _ _ q3).mono fun y S4 q4 => ?_
        intro s H C cl fp
        exact (hv.run s H C cl fp).run _ _ _ q4
      | false =>
        rw [if_neg Bool.false_ne_true] at q3 ⊢
        exact q3) hg ok hw hc hs⟩
/-! ### a, b = x, y -/
def rCons2 (ds : List D) (k : D → D → Prop) : Prop := match ds with
  | [d, e] => k d e
  | _ => False
theorem qs_par2 {a b : Expr} {i j : Nat} {x y : Str} {px py pt pt2 : Pos} {kt k2 : Nat} (ni : Nm c i x) (nj : Nm c j y) (nd : c.X.N.Nodup) (ha : QA c [a, b] la) (hij : i ≠ j := by decide)
    (hx : c.X.env.scope.names.lookup x = some .local := by rfl) (hy : c.X.env.scope.names.lookup y = some .local := by rfl) (hw : swappedStores [.Tuple [.Name x px, .Name y py] kt pt] (.Tuple [a, b] k2 pt2) c.X.env = pure (some [x, y]) := by rfl)
    (hs : swapsWithSole [.Tuple [.Name x px, .Name y py] kt pt] (.Tuple [a, b] k2 pt2) pos.line c.X.env = pure false := by rfl) (hc : c.X.calm = true := by rfl) : QS c (.Assign [.Tuple [.Name x px, .Name y py] kt pt] (.Tuple [a, b] k2 pt2) pos) fun ρ S nx _ _ _ => la ρ S fun ds S1 => rCons2 ds fun d e => nx ((ρ.set i (some d)).set j (some e)) S1 :=
  ⟨fun ρ S nx rt bk ct h => js_par ni nj nd hij ((ha.run _ _ _ h).mono fun ds S1 h => by
    match ds, h.2 with
    | [d, e], h => exact ⟨d, e, rfl, h⟩) hx hy hw hs hc⟩
theorem qgs_c {gt : RG} {gs : List D → DEnv → SS → NK → Prop} (h1 : QG c tg gt) (h2 : QGs c es gs) (hs : (assignEach (tg :: es) c.X.env).map (·.2) = assign tg c.X.env :: (assignEach es c.X.env).map (·.2) := by rfl) :
    QGs c (tg :: es) fun ds ρ S nx => rCons ds fun d r => r.length = es.length ∧ gt d ρ S fun ρ1 S1 => gs r ρ1 S1 nx :=
  ⟨fun ds ρ S nx h => by
    cases ds with
    | nil => exact h.elim
    | cons d r => obtain ⟨h3, h4⟩ := h; exact ⟨jgs_cons ((h1.run _ _ _ _ h4).mono fun ρ1 S1 h5 => (h2.run _ _ _ _ h5).1) hs, by simp only [List.length_cons, h3]⟩⟩
/-! ### isinstance -/
theorem q_isi {rc : RC} (hm : c.X.mg "isinstance" = none) (hc : ∀ ds S Q, rc ds S Q → CD c (.builtin "isinstance") ds S Q) (ha : QA c (e :: es) la) (hg : Gl c.X "isinstance" := by rfl) (he : starEach (e :: es) c.X.env = (false, eval e c.X.env) :: starEach es c.X.env := by rfl) (hpl : (backTo pos (starEach es c.X.env)).any (·.1) = false := by rfl) :
    QE c (.Call (.Name "isinstance" p) (e :: es) [] pos) fun ρ S Q => la ρ S fun ds S1 => rc ds S1 Q := q_bi hm bt_isinstance hc ha hg (by decide) (by decide) he hpl
def rTyp (ds : List D) (t : D) (k : D → Prop) : Prop := match ds with
  | [x, y] => y = t ∧ k x
  | _ => False
theorem rTyp_ok {ds : List D} {t : D} {k : D → Prop} (h : rTyp ds t k) : ∃ x, ds = [x, t] ∧ k x := by
  match ds, h with
  | [x, y], h => exact ⟨x, by rw [h.1], h.2⟩
theorem rIsi_int : ∀ ds S Q, (rTyp ds (.ty "int") fun x => Kn S x ∧ Q (.bl (isI x)) S) → CD c (.builtin "isinstance") ds S Q := fun ds S Q h => by obtain ⟨x, rfl, h1, h2⟩ := rTyp_ok h; exact cd_isI h1 h2
theorem rIsi_bool : ∀ ds S Q, (rTyp ds (.ty "bool") fun x => Kn S x ∧ Q (.bl (isB x)) S) → CD c (.builtin "isinstance") ds S Q := fun ds S Q h => by obtain ⟨x, rfl, h1, h2⟩ := rTyp_ok h; exact cd_isB h1 h2
theorem rIsi_str : ∀ ds S Q, (rTyp ds (.ty "str") fun x => Kn S x ∧ Q (.bl (isS x)) S) → CD c (.builtin "isinstance") ds S Q := fun ds S Q h => by obtain ⟨x, rfl, h1, h2⟩ := rTyp_ok h; exact cd_isS h1 h2
theorem rIsi_tuple : ∀ ds S Q, (rTyp ds (.ty "tuple") fun x => Kn S x ∧ Q (.bl (isT x)) S) → CD c (.builtin "isinstance") ds S Q := fun ds S Q h => by obtain ⟨x, rfl, h1, h2⟩ := rTyp_ok h; exact cd_isT h1 h2
theorem rIsi_list : ∀ ds S Q, (rTyp ds (.ty "list") fun x => Kn S x ∧ Q (.bl (isLs S x)) S) → CD c (.builtin "isinstance") ds S Q := fun ds S Q h => by obtain ⟨x, rfl, h1, h2⟩ := rTyp_ok h; exact cd_isLs h1 h2
theorem rIsi_dict : ∀ ds S Q, (rTyp ds (.ty "dict") fun x => Kn S x ∧ Q (.bl (isDc S x)) S) → CD c (.builtin "isinstance") ds S Q := fun ds S Q h => by obtain ⟨x, rfl, h1, h2⟩ := rTyp_ok h; exact cd_isDc h1 h2
theorem rIsi_list_tuple : ∀ ds S Q, (rTyp ds (.tup [.ty "list", .ty "tuple"]) fun x => Kn S x ∧ Q (.bl (isLs S x || isT x)) S) → CD c (.builtin "isinstance") ds S Q := fun ds S Q h => by obtain ⟨x, rfl, h1, h2⟩ := rTyp_ok h; exact cd_isLT h1 h2

/-! ### sorted -/
def rSorted (x : D) (S : SS) (Q : D → SS → Prop) : Prop :=
  (∃ ns : List Int, isSeq S x (ns.map .int) ∧ ∀ ms : List Int, ms.Perm ns → ms.Pairwise (· ≤ ·) → Q (.fl (ms.map .int)) S) ∨
  (∃ a kvs, ∃ ns : List Int, x = .ref a ∧ S a = some (.dk kvs) ∧ kvs.map (·.1) = ns.map Sum.inl ∧ ns.length < 64 ∧ ∀ ms : List Int, ms.Perm ns → ms.Pairwise (· ≤ ·) → Q (.fl (ms.map .int)) S) ∨
  (∃ ns : List Str, IsL S x (ns.map .str) ∧ ns.length < 64 ∧ ∀ ms : List Str, ms.Perm ns → sortedS ms = true → Q (.fl (ms.map .str)) S) ∨
  (∃ a kvs, ∃ ns : List Str, x = .ref a ∧ S a = some (.dk kvs) ∧ kvs.map (·.1) = ns.map Sum.inr ∧ ns.length < 64 ∧ ∀ ms : List Str, ms.Perm ns → sortedS ms = true → Q (.fl (ms.map .str)) S)
theorem rSorted_ok (hc : c.X.calm = true := by rfl) : ∀ ds S Q, DP.r1 rSorted ds S Q → CD c (.builtin "sorted") ds S Q := r1_ok fun x S Q h => by
  rcases h with ⟨ns, h0, h⟩ | ⟨a, kvs, ns, rfl, h0, h1, h2, h⟩ | ⟨ns, h0, h1, h⟩ | ⟨a, kvs, ns, rfl, h0, h1, h2, h⟩
  · rcases h0 with h0 | rfl
    · exact cd_sortedI h0 h
    · exact cd_sortedTI h
  · exact CD.of (call_sortedDI hc) fun H vs m r => by
      obtain ⟨v, rfl, r1⟩ := reps1 r
      obtain ⟨ws, e1, e2⟩ := m a _ h0
      refine ⟨a, ws, ns, by rw [rep_ref.mp r1], .inl e1, by rw [← repP_keys e2]; exact h1, h2, fun ms p hp hs hn => ?_⟩
      obtain ⟨st, sm, e⟩ := m.new (o := .lst (ms.map V.int)) hn
      exact ⟨_, S, rep_fl.mpr ⟨p, _, rfl, SqL.of e, reps_ints'⟩, sm, st, h ms hp hs⟩
  · exact cd_sortedS h0 h1 h
  · exact CD.of (call_sortedD hc) fun H vs m r => by
      obtain ⟨v, rfl, r1⟩ := reps1 r
      obtain ⟨ws, e1, e2⟩ := m a _ h0
      refine ⟨a, ws, ns, by rw [rep_ref.mp r1], .inl e1, by rw [← repP_keys e2]; exact h1, h2, fun ms p hp hs hn => ?_⟩
      obtain ⟨st, sm, e⟩ := m.new (o := .lst (ms.map V.str)) hn
      exact ⟨_, S, rep_fl.mpr ⟨p, _, rfl, SqL.of e, reps_strs'⟩, sm, st, h ms hp hs⟩

/-! ### dict(..) -/
def rDict (x : D) (S : SS) (Q : D → SS → Prop) : Prop :=
  (∃ a kvs, x = .ref a ∧ S a = some (.dk kvs) ∧ ∀ p, S p = none → Q (.ref p) (sup S p (.dk kvs))) ∨
  (∃ kvs : List (Key × D), IsL S x (itemsD kvs) ∧ (kvs.map (·.1)).Nodup ∧ ∀ p, S p = none → Q (.ref p) (sup S p (.dk kvs)))
theorem pairs_rep {K : PySem.W.Frag} {H : Hp} {S : SS} : ∀ {kvs : List (Key × D)} {vs : List V}, Reps K (im H S) (itemsD kvs) vs → ∃ (ps : List Addr) (ws : List (Key × V)), vs = ps.map V.ref ∧ RepP K (im H S) kvs ws ∧ Paired (fun p kv => SqT K H p [kV kv.1, kv.2]) ps ws
  | [], vs, r => by unfold itemsD List.map Reps at r; subst r; exact ⟨[], [], rfl, rfl, .nil⟩
  | (k, d) :: kvs, vs, r => by
    unfold itemsD List.map Reps at r
    obtain ⟨v, t, rfl, h1, h2⟩ := r
    obtain ⟨ps, ws, rfl, h3, h4⟩ := pairs_rep (kvs := kvs) h2
    obtain ⟨a, us, rfl, h5, h6⟩ := tup_sq h1
    obtain ⟨w1, w2, rfl, h7, h8⟩ := reps2 h6
    rw [kD_rep h7] at h5
    exact ⟨a :: ps, (k, w2) :: ws, rfl, ⟨w2, ws, rfl, h8, h3⟩, .cons h5 h4⟩
theorem rDict_ok (hc : c.X.calm = true := by rfl) : ∀ ds S Q, DP.r1 rDict ds S Q → CD c (.type "dict") ds S Q := r1_ok fun x S Q h => by
  rcases h with ⟨a, kvs, rfl, h0, h⟩ | ⟨kvs, h0, nd, h⟩
  · intro H vs m r pins s σ us I rv
    obtain ⟨v, rfl, r1⟩ := reps1 r
    rw [rep_ref.mp r1] at rv
    obtain ⟨ws, e1, e2⟩ := m a _ h0
    rw [Vals.ref1 rv]
    refine d_copyOf I (.inl e1) fun p s' hp I' => ?_
    obtain ⟨st, sm⟩ := m.newM (o := .dK ws) (m := .dk kvs) hp fun H' S' sb e => ⟨ws, e, e2.mono sb⟩
    exact ⟨.ref p, _, I', rfl, .ref p, _, rep_ref.mpr rfl, sm, st, h p (m.free hp)⟩
  · exact CD.of (call_dictP hc) fun H vs m r => by
      obtain ⟨v, rfl, r1⟩ := reps1 r
      obtain ⟨a, us, rfl, h1, h2⟩ := h0.sq r1 m
      obtain ⟨ps, ws, rfl, h3, h4⟩ := pairs_rep h2
      refine ⟨a, ps, ws, rfl, h1, h4, fun p hp => ?_⟩
      rw [merge_new (by rw [List.nil_append, ← repP_keys h3]; exact nd), List.nil_append]
      obtain ⟨st, sm⟩ := m.newM (o := .dK ws) (m := .dk kvs) hp fun H' S' sb e => ⟨ws, e, h3.mono sb⟩
      exact ⟨.ref p, _, rep_ref.mpr rfl, sm, st, h p (m.free hp)⟩
end
end DP

namespace DP
open PySem PySem.Spec PyProof.Rows L2
section
variable {P : Program} {w : World} {K : PySem.W.Frag} {mg : Str → Option Value} {base : Heap} {nm qual x m : Str} {st : Stmt} {f C : Addr} {fd : FuncData} {N ps : List Str} {k : Nat} {sp : DSp}
abbrev BodyOk (P : Program) (w : World) (K : PySem.W.Frag) (mg : Str → Option Value) (base : Heap) (N : List Str) (qual : Str) (st : Stmt) (f : Addr) (k : Nat) (sp : DSp) : Prop :=
  ∀ (cdv : Value) (A : Around) (outer : List Env) (s : Shared) (H : Hp) (E : XK) (Ed : Value → Option Addr → SS → Prop) (ds : List D) (S : SS) (Q : D → SS → Prop), Room k (fnC P w K mg base N qual st f cdv A outer s H E Ed).X.A → sp ds S Q Ed →
      JSs (fnC P w K mg base N qual st f cdv A outer s H E Ed) (defBody st) (startD N ds) S (fun _ S' => Q .non S') Q (fun _ _ => False) (fun _ _ => False)
/-- a method -/
theorem mn_mk (F : Fun K nm qual st f fd) (hm : Meth K C m f) (hb : L2.Binds K fd ps []) (Sc : FnScope N ps (defScope st)) (hl : ∀ ds S Q E, sp ds S Q E → ds.length = ps.length) (body : BodyOk P w K mg base N qual st f k sp) : Mn P w K mg base (k + 1) C m sp :=
  ⟨f, fd, ps, hm, hb, fn_ok F Sc hl body⟩
/-- an __init__ -/
theorem mkn_mk (F : Fun K nm qual st f fd) (hg : mg x = some (.ref C)) (hm : Mk K C f) (hb : L2.Binds K fd ps []) (Sc : FnScope N ps (defScope st)) (hl : ∀ ds S Q E, sp ds S Q E → ds.length = ps.length) (body : BodyOk P w K mg base N qual st f k sp) : Mkn P w K mg base (k + 1) x C sp :=
  ⟨f, fd, ps, hg, hm, hb, fn_ok F Sc hl body⟩
theorem un_of {c : Ctx} {k : Nat} (r : Room k c.X.A) : Un c := by have := r.un; unfold Un; omega
end
section
variable {c : Ctx} {e o a b d e2 : Expr} {es : List Expr} {ρ : DEnv} {S : SS} {pos p pos' tpos apos cpos p2 : Pos} {te to ta tb tv tk te2 : RE} {la : RL}
/-- the side facts of a method's call with one argument -/
structure Mc1 (c : Ctx) (o : Expr) (m : Str) (apos : Pos) (e : Expr) (cpos : Pos) : Prop where
  base : attributeBase o m c.X.env (eval o c.X.env) = eval o c.X.env
  few : ((backTo cpos (starEach [e] c.X.env)).all (fun x => !x.1) && (backToKw cpos (keywordEach [] c.X.env)).all (fun x => x.1.isSome) && decide (([e] : List Expr).length + ([] : List Keyword).length + (if ([] : List Keyword).isEmpty then 0 else 1) < 30)) = true
  line : (apos.endLine == cpos.line) = true
  st : starEach [e] c.X.env = (false, eval e c.X.env) :: starEach [] c.X.env
  pl : (backTo cpos (starEach [] c.X.env)).any (·.1) = false
structure Mc2 (c : Ctx) (o : Expr) (m : Str) (apos : Pos) (e f : Expr) (cpos : Pos) : Prop where
  base : attributeBase o m c.X.env (eval o c.X.env) = eval o c.X.env
  few : ((backTo cpos (starEach [e, f] c.X.env)).all (fun x => !x.1) && (backToKw cpos (keywordEach [] c.X.env)).all (fun x => x.1.isSome) && decide (([e, f] : List Expr).length + ([] : List Keyword).length + (if ([] : List Keyword).isEmpty then 0 else 1) < 30)) = true
  line : (apos.endLine == cpos.line) = true
  st : starEach [e, f] c.X.env = (false, eval e c.X.env) :: starEach [f] c.X.env
  st2 : starEach [f] c.X.env = (false, eval f c.X.env) :: starEach [] c.X.env
  pl : (backTo cpos (starEach [f] c.X.env)).any (·.1) = false
theorem q_bmA {T name id : String} {rc : SS → D → Prop} {rm : D → D → SS → (D → SS → Prop) → Prop} (pa : PlainAttrs T) (slot : Slot T name id) (hty : typeOf (.builtin id) = pure (.type "method_descriptor")) (h1 : ∀ S x, rc S x → tyD T S x) (h2 : ∀ x y S Q, rm x y S Q → MD c id x [y] S Q) (ho : QE c o to) (ha : QE c e te) (mc : Mc1 c o name apos e cpos) :
    QE c (.Call (.Attribute o name apos) [e] [] cpos) fun ρ S Q => to ρ S fun x S1 => rc S1 x ∧ te ρ S1 fun y S2 => rm x y S2 Q :=
  q_bm (rm := rm1 rm) pa slot hty h1 (fun x ds S Q h => by
    match ds, h with
    | [y], h => exact h2 x y S Q h) ho (qa_cons ha qa_nil mc.st) mc.base mc.few mc.line mc.st mc.pl
theorem q_bmB {T name id : String} {rc : SS → D → Prop} {rm : D → D → D → SS → (D → SS → Prop) → Prop} (pa : PlainAttrs T) (slot : Slot T name id) (hty : typeOf (.builtin id) = pure (.type "method_descriptor")) (h1 : ∀ S x, rc S x → tyD T S x) (h2 : ∀ x y z S Q, rm x y z S Q → MD c id x [y, z] S Q) (ho : QE c o to) (ha : QE c e te) (hb : QE c e2 te2) (mc : Mc2 c o name apos e e2 cpos) :
    QE c (.Call (.Attribute o name apos) [e, e2] [] cpos) fun ρ S Q => to ρ S fun x S1 => rc S1 x ∧ te ρ S1 fun y S2 => te2 ρ S2 fun z S3 => rm x y z S3 Q :=
  q_bm (rm := rm2 rm) pa slot hty h1 (fun x ds S Q h => by
    match ds, h with
    | [y, z], h => exact h2 x y z S Q h) ho (qa_cons ha (qa_cons hb qa_nil mc.st2) mc.st) mc.base mc.few mc.line mc.st mc.pl
theorem mt_dget1 {X : Cx} (hu : X.A.units + 1 < cLine) : MtR X "dict.get" fun x vs H Q => ∃ a y o, x = .ref a ∧ vs = [y] ∧ DGet H a y o ∧ Q (o.getD .non) H := by
  intro pins s σ H x xs v us Q I rx rs h
  obtain ⟨a, y, o, rfl, rfl, g, q⟩ := h
  obtain rfl : v = Value.ref a := rx
  obtain ⟨u, rfl, ru⟩ := (Vals.one rs)
  exact d_get1 hu I g ru fun w' s' I' r' => ⟨_, H, I', r', q⟩
theorem mt_dget2 {X : Cx} (hu : X.A.units + 1 < cLine) : MtR X "dict.get" fun x vs H Q => ∃ a y z o, x = .ref a ∧ vs = [y, z] ∧ DGet H a y o ∧ Q (o.getD z) H := by
  intro pins s σ H x xs v us Q I rx rs h
  obtain ⟨a, y, z, o, rfl, rfl, g, q⟩ := h
  obtain rfl : v = Value.ref a := rx
  cases rs with
  | cons ru rs =>
    obtain ⟨u2, rfl, ru2⟩ := (Vals.one rs)
    exact d_get2 hu I g ru ru2 fun w' s' I' r' => ⟨_, H, I', r', q⟩
theorem mt_dpop1 {X : Cx} : MtR X "dict.pop" fun x vs H Q => ∃ a kvs k v, x = .ref a ∧ vs = [kV k] ∧ H a = some (.dK kvs) ∧ valV kvs k = some v ∧ Q v (upd H a (.dK (dropK kvs k))) := by
  intro pins s σ H x xs v us Q I rx rs h
  obtain ⟨a, kvs, k, z, rfl, rfl, h1, h2, q⟩ := h
  obtain rfl : v = Value.ref a := rx
  obtain ⟨u, rfl, ru⟩ := (Vals.one rs)
  exact d_pop I h1 ru h2 (.inl rfl) fun w' s' I' r' => ⟨_, _, I', r', q⟩
theorem mt_dpop2 {X : Cx} : MtR X "dict.pop" fun x vs H Q => ∃ a kvs k y, x = .ref a ∧ vs = [kV k, y] ∧ H a = some (.dK kvs) ∧ match valV kvs k with | some v => Q v (upd H a (.dK (dropK kvs k))) | none => Q y H := by
  intro pins s σ H x xs v us Q I rx rs h
  obtain ⟨a, kvs, k, z, rfl, rfl, h1, q⟩ := h
  obtain rfl : v = Value.ref a := rx
  cases rs with
  | cons ru rs =>
    obtain ⟨u2, rfl, ru2⟩ := (Vals.one rs)
    cases e : valV kvs k with
    | some y => rw [e] at q; exact d_pop I h1 ru e (.inr ⟨_, rfl⟩) fun w' s' I' r' => ⟨_, _, I', r', q⟩
    | none => rw [e] at q; exact d_popD I h1 ru e fun s' I' => ⟨_, _, I', ru2, q⟩
theorem RepP.drop {K : PySem.W.Frag} {G : Hp} {k : Key} : ∀ {xs : List (Key × D)} {vs : List (Key × V)}, RepP K G xs vs → RepP K G (delK xs k) (dropK vs k)
  | [], vs, h => by cases h; rfl
  | (k0, d) :: xs, vs, h => by
    obtain ⟨v, t, rfl, h1, h2⟩ := h
    unfold delK dropK
    rw [List.filter_cons, List.filter_cons]
    by_cases e : k0 = k
    · rw [if_neg (by simp [e]), if_neg (by simp [e])]; exact RepP.drop h2
    · rw [if_pos (by simp [e]), if_pos (by simp [e])]; exact ⟨v, _, rfl, h1, RepP.drop h2⟩
def rGet1 (x y : D) (S : SS) (Q : D → SS → Prop) : Prop := rDk x S fun a kvs => rKey y fun k => Q ((getK kvs k).getD .non) S
def rGet2 (x y z : D) (S : SS) (Q : D → SS → Prop) : Prop := rDk x S fun a kvs => rKey y fun k => Q ((getK kvs k).getD z) S
def rPop1 (x y : D) (S : SS) (Q : D → SS → Prop) : Prop := rDk x S fun a kvs => rKey y fun k => ∃ v, getK kvs k = some v ∧ Q v (sup S a (.dk (delK kvs k)))
def rPop2 (x y z : D) (S : SS) (Q : D → SS → Prop) : Prop := rDk x S fun a kvs => rKey y fun k => match getK kvs k with | some v => Q v (sup S a (.dk (delK kvs k))) | none => Q z S
theorem q_m_get1 (hu : Un c) (ho : QE c o to) (ha : QE c e te) (mc : Mc1 c o "get" apos e cpos := by exact ⟨rfl, rfl, rfl, rfl, rfl⟩) : QE c (.Call (.Attribute o "get" apos) [e] [] cpos) fun ρ S Q => to ρ S fun x S1 => rcD S1 x ∧ te ρ S1 fun y S2 => rGet1 x y S2 Q :=
  q_bmA PySem.F.plainAttrs_dict PySem.F.slot_dict_get PySem.F.type_dict_get (fun _ _ => rcD_ok) (fun x y S Q h H v vs m r rs => by
    unfold Un at hu
    obtain ⟨a, kvs, rfl, h0, h⟩ := rDk_ok h
    obtain ⟨k, rfl, h2⟩ := rKey_ok h
    obtain ⟨u, rfl, ru⟩ := reps1 rs
    obtain ⟨ws, e1, e2⟩ := m a _ h0
    refine tMt_of (mt_dget1 (by omega)) ⟨a, u, _, rep_ref.mp r, rfl, by rw [kD_rep ru]; exact DGet.k e1, ?_⟩
    obtain ⟨k1, k2⟩ := valV_rep (k := k) e2
    cases e3 : getK kvs k with
    | none => rw [k2 e3]; rw [e3] at h2; exact pst_same m (rep_non.mpr rfl) h2
    | some d => obtain ⟨z, e4, e5⟩ := k1 d e3; rw [e4]; rw [e3] at h2; exact pst_same m e5 h2) ho ha mc
theorem q_m_get2 (hu : Un c) (ho : QE c o to) (ha : QE c e te) (hb : QE c e2 te2) (mc : Mc2 c o "get" apos e e2 cpos := by exact ⟨rfl, rfl, rfl, rfl, rfl, rfl⟩) : QE c (.Call (.Attribute o "get" apos) [e, e2] [] cpos) fun ρ S Q => to ρ S fun x S1 => rcD S1 x ∧ te ρ S1 fun y S2 => te2 ρ S2 fun z S3 => rGet2 x y z S3 Q :=
  q_bmB PySem.F.plainAttrs_dict PySem.F.slot_dict_get PySem.F.type_dict_get (fun _ _ => rcD_ok) (fun x y z S Q h H v vs m r rs => by
    unfold Un at hu
    obtain ⟨a, kvs, rfl, h0, h⟩ := rDk_ok h
    obtain ⟨k, rfl, h2⟩ := rKey_ok h
    obtain ⟨u, u2, rfl, ru, ru2⟩ := reps2 rs
    obtain ⟨ws, e1, e2⟩ := m a _ h0
    refine tMt_of (mt_dget2 (by omega)) ⟨a, u, u2, _, rep_ref.mp r, rfl, by rw [kD_rep ru]; exact DGet.k e1, ?_⟩
    obtain ⟨k1, k2⟩ := valV_rep (k := k) e2
    cases e3 : getK kvs k with
    | none => rw [k2 e3]; rw [e3] at h2; exact pst_same m ru2 h2
    | some d => obtain ⟨z, e4, e5⟩ := k1 d e3; rw [e4]; rw [e3] at h2; exact pst_same m e5 h2) ho ha hb mc
theorem q_m_pop1 (ho : QE c o to) (ha : QE c e te) (mc : Mc1 c o "pop" apos e cpos := by exact ⟨rfl, rfl, rfl, rfl, rfl⟩) : QE c (.Call (.Attribute o "pop" apos) [e] [] cpos) fun ρ S Q => to ρ S fun x S1 => rcD S1 x ∧ te ρ S1 fun y S2 => rPop1 x y S2 Q :=
  q_bmA PySem.F.plainAttrs_dict PySem.F.slot_dict_pop PySem.F.type_dict_pop (fun _ _ => rcD_ok) (fun x y S Q h H v vs m r rs => by
    obtain ⟨a, kvs, rfl, h0, h⟩ := rDk_ok h
    obtain ⟨k, rfl, d, hd, h2⟩ := rKey_ok h
    obtain ⟨u, rfl, ru⟩ := reps1 rs
    obtain ⟨ws, e1, e2⟩ := m a _ h0
    obtain ⟨z, e4, e5⟩ := (valV_rep (k := k) e2).1 d hd
    obtain ⟨st, sm⟩ := m.write (o := .dK (dropK ws k)) (m := .dk (delK kvs k)) h0 fun H' S' sb e => ⟨_, e, (e2.mono sb).drop⟩
    exact tMt_of mt_dpop1 ⟨a, ws, k, z, rep_ref.mp r, by rw [kD_rep ru], e1, e4, d, _, e5.mono st, sm, st, h2⟩) ho ha mc
theorem q_m_pop2 (ho : QE c o to) (ha : QE c e te) (hb : QE c e2 te2) (mc : Mc2 c o "pop" apos e e2 cpos := by exact ⟨rfl, rfl, rfl, rfl, rfl, rfl⟩) : QE c (.Call (.Attribute o "pop" apos) [e, e2] [] cpos) fun ρ S Q => to ρ S fun x S1 => rcD S1 x ∧ te ρ S1 fun y S2 => te2 ρ S2 fun z S3 => rPop2 x y z S3 Q :=
  q_bmB PySem.F.plainAttrs_dict PySem.F.slot_dict_pop PySem.F.type_dict_pop (fun _ _ => rcD_ok) (fun x y z S Q h H v vs m r rs => by
    obtain ⟨a, kvs, rfl, h0, h⟩ := rDk_ok h
    obtain ⟨k, rfl, h2⟩ := rKey_ok h
    obtain ⟨u, u2, rfl, ru, ru2⟩ := reps2 rs
    obtain ⟨ws, e1, e2⟩ := m a _ h0
    obtain ⟨k1, k2⟩ := valV_rep (k := k) e2
    refine tMt_of mt_dpop2 ⟨a, ws, k, u2, rep_ref.mp r, by rw [kD_rep ru], e1, ?_⟩
    cases e3 : getK kvs k with
    | none => rw [k2 e3]; rw [e3] at h2; exact pst_same m ru2 h2
    | some d =>
      obtain ⟨z, e4, e5⟩ := k1 d e3
      rw [e3] at h2
      rw [e4]
      obtain ⟨st, sm⟩ := m.write (o := .dK (dropK ws k)) (m := .dk (delK kvs k)) h0 fun H' S' sb e => ⟨_, e, (e2.mono sb).drop⟩
      exact ⟨d, _, e5.mono st, sm, st, h2⟩) ho ha hb mc
theorem idx_first {k : Int} : ∀ {ns : List Int} {j : Nat}, j < ns.idxOf k → ns[j]? ≠ some k
  | [], j, h => by simp
  | n :: ns, j, h => by
    rw [List.idxOf_cons] at h
    by_cases e : n = k
    · subst e; simp at h
    · have e2 : (n == k) = false := by simpa using e
      rw [e2] at h
      cases j with
      | zero => simpa using e
      | succ j => exact idx_first (ns := ns) (j := j) (by simpa using h)
/-- l.remove(n): the first one goes -/
theorem q_m_remove1 (ho : QE c o to) (ha : QE c e te) (mc : Mc1 c o "remove" apos e cpos := by exact ⟨rfl, rfl, rfl, rfl, rfl⟩) : QE c (.Call (.Attribute o "remove" apos) [e] [] cpos) fun ρ S Q => to ρ S fun x S1 => rcL S1 x ∧ te ρ S1 fun y S2 => rLs x S2 fun a xs => ∃ (ns : List Int) (k : Int), xs = ns.map .int ∧ y = .int k ∧ k ∈ ns ∧ Q .non (sup S2 a (.lst ((ns.erase k).map .int))) :=
  q_bmA PySem.F.plainAttrs_list PySem.F.slot_list_remove PySem.F.type_list_remove (fun _ _ => rcL_ok) (fun x y S Q h H v vs m r rs => by
    obtain ⟨a, xs, rfl, h0, ns, k, rfl, rfl, hk, h⟩ := rLs_ok h
    obtain ⟨u, rfl, ru⟩ := reps1 rs
    obtain ⟨ws, e1, e2⟩ := m a _ h0
    have e3 := reps_ints e2
    subst e3
    obtain ⟨st, sm⟩ := m.write (o := .lst ((ns.erase k).map V.int)) (m := .lst ((ns.erase k).map .int)) h0 fun H' S' sb e => ⟨_, e, reps_ints'⟩
    have hi : ns.idxOf k < ns.length := List.idxOf_lt_length_iff.mpr hk
    refine tMt_of mt_remove ⟨a, ns, k, ns.idxOf k, rep_ref.mp r, by rw [rep_int.mp ru], e1, by rw [List.getElem?_eq_getElem hi, List.getElem_idxOf hi], fun j hj e => ?_, ?_⟩
    · exact idx_first hj e
    · rw [← List.erase_eq_eraseIdx_of_idxOf rfl]
      exact ⟨.non, _, rep_non.mpr rfl, sm, st, h⟩) ho ha mc
theorem q_m_extend1 (ho : QE c o to) (ha : QE c e te) (mc : Mc1 c o "extend" apos e cpos := by exact ⟨rfl, rfl, rfl, rfl, rfl⟩) : QE c (.Call (.Attribute o "extend" apos) [e] [] cpos) fun ρ S Q => to ρ S fun x S1 => rcL S1 x ∧ te ρ S1 fun y S2 => rLs x S2 fun a xs => rLs y S2 fun b ys => xs.length + ys.length ≤ sizeLine ∧ Q .non (sup S2 a (.lst (xs ++ ys))) :=
  q_bmA PySem.F.plainAttrs_list PySem.F.slot_list_extend PySem.F.type_list_extend (fun _ _ => rcL_ok) (fun x y S Q h H v vs m r rs => by
    obtain ⟨a, xs, rfl, h0, h⟩ := rLs_ok h
    obtain ⟨b, ys, rfl, h1, hl, h⟩ := rLs_ok h
    obtain ⟨u, rfl, ru⟩ := reps1 rs
    obtain ⟨us, e1, e2⟩ := m a _ h0
    obtain ⟨ws, e3, e4⟩ := m b _ h1
    obtain ⟨st, sm⟩ := m.write (o := .lst (us ++ ws)) (m := .lst (xs ++ ys)) h0 fun H' S' sb e => ⟨_, e, (e2.mono sb).append (e4.mono sb)⟩
    exact tMt_of mt_extend ⟨a, b, us, ws, rep_ref.mp r, by rw [rep_ref.mp ru], e1, e3, by rw [← e2.length, ← e4.length]; exact hl, .non, _, rep_non.mpr rfl, sm, st, h⟩) ho ha mc
end
end DP

/-! set(l) of a list of ints -/
namespace L2
open PySem PySem.Spec PyProof.Rows
section
variable {P : Program} {w : World} {A : Around} {E : Value → Shared → Prop} {s : Shared}
abbrev nuSet (w : World) : Obj := { cls := .type "set", dict := none, data := .set #[] 0 (.fresh 0 0 (!w.params.followText "set-order")) }
set_option maxHeartbeats 3200000 in
theorem call_set_lstI {l : Addr} {items : Array Value} (ns : List Int) {Q : Value → Shared → Prop} (hh : A.handled = none) (hl : s.heap.IsList l items) (hit : IntsAre items.toList ns) (hb : ns.length + 1 < scanBound)
    (h : ∀ (h' : Heap) (tk c : Nat), SetR w h' s.heap.objs.size (fun j => decide (j ∈ ns)) c → c ≤ ns.length → (∀ b o, s.heap.get? b = some o → h'.get? b = some o) → Q (.ref s.heap.objs.size) { s with heap := h', toks := tk }) :
    wpAny (model P w) A (call (.type "set") [.ref l]) Q E s := by
  have hisz : items.size = ns.length := by have q := IntsAre.length hit; rw [Array.length_toList] at q; exact q
  obtain ⟨c, tl, hmro⟩ := F.called_set.mro; have hmade := F.called_set.made; have hsub := F.called_set.sub
  refine wpAny_call (codeAny_of_tree ?_); show wpAny _ _ (callAny (.type "set") _) _ _ _
  refine wpAny_pure ⟨Code.quiet_builtin _ (by decide +kernel), codeAny_builtin F.entry_type_call ?_⟩; rw [Around.under_plain (weight_type_call_type "set" [.ref l] []) rfl]
  have h1 := F.called_set.notType; have h2 := F.called_set.canCreate; have hct := F.typeCall_set_1 (.ref l); repeat (any_goals (first | assumption | wp_step))
  refine codeAny_mono (code_set_led1 (.ref l) (E := E) (Q₁ := fun obj s1 => obj = .ref s.heap.objs.size ∧ s1 = { s with heap := s.heap.push (nuSet w) }) ⟨rfl, rfl⟩) fun r s1 hr => ?_
  match r, hr with
  | .error e, hr => exact hr
  | .ok (.ret obj), hr =>
    obtain ⟨rfl, rfl⟩ := hr
    have hS : (s.heap.push (nuSet w)).get? s.heap.objs.size = some (nuSet w) := Heap.get?_push_size _ rfl
    have hT : Shared.TypeIs { s with heap := s.heap.push (nuSet w) } (.ref s.heap.objs.size) "set" := ⟨_, hS, rfl⟩
    have hli := F.called_set.init.lookup; have hbi := F.called_set.init.bind (.ref s.heap.objs.size); repeat (any_goals (first | assumption | wp_step))
    refine codeAny_mono (codeAny_call_builtin (R := wants (fun r s2 => r = .none ∧ ∃ h' tk c, s2 = { s with heap := h', toks := tk } ∧ SetR w h' s.heap.objs.size (fun j => decide (j ∈ ns)) c ∧ c ≤ ns.length ∧ (∀ b o, s.heap.get? b = some o → h'.get? b = some o)) E)
      F.called_set.init.plain F.entry_set_init (check_set_init_1 hT ?_)) fun r2 s2 hr2 => ?_
    · obtain ⟨⟨ocls, odict, odata, oslots⟩, hol, hcl, nl, hdl⟩ := hl
      simp only at hcl hdl
      subst hcl hdl
      have hol' : (s.heap.push (nuSet w)).get? l = some { cls := .type "list", dict := odict, data := .seq items nl, slots := oslots } := Heap.get?_push_of_some _ hol
      have hsls := F.sub_list_set; have hslf := F.sub_list_frozenset; have hne : (Value.type "list" == Value.type "dict") = false := by decide
      have hl1 : (s.heap.push (nuSet w)).IsList l items := ⟨_, hol', rfl, nl, rfl⟩
      unfold Builtin.«set.__init__» noKeywords Builtin.Frozenset.updateFrom; generalize hPI : pyIter = PI; wp_walk; subst hPI
      refine wpAny_pyIter_list hl1 (wpAny_bind (wpAny_runValue ?_))
      have hlS : l < s.heap.objs.size := Heap.lt_size hol
      have hh3 : A.in1.in1.in1.handled = none := by simp [hh]
      have hsz : (s.heap.push (nuSet w)).objs.size = s.heap.objs.size + 1 := Heap.size_push ..
      have hneI : l ≠ (s.heap.push (nuSet w)).objs.size := by rw [hsz]; exact Nat.ne_of_lt (Nat.lt_succ_of_lt hlS)
      have hSf : s.heap.objs.size ∉ [(s.heap.push (nuSet w)).objs.size, l] := by rw [hsz]; simp only [List.mem_cons, List.not_mem_nil, or_false, not_or]; exact ⟨Nat.ne_of_lt (Nat.lt_succ_self _), Nat.ne_of_gt hlS⟩
      have hval : ∀ (i : Nat) (v : Value), items[i]? = some v → ∃ k t, ns[i]? = some k ∧ v = .int k t := fun i v hv => by
        have hi : i < ns.length := by rw [← hisz]; exact (Array.getElem?_eq_some_iff.mp hv).1
        obtain ⟨t, e⟩ := PyProof.Rows.IntsAre.int_at hit i v (by rw [Array.getElem?_toList]; exact hv)
        exact ⟨ns[i], t, List.getElem?_eq_getElem hi, by rw [e, List.getD_eq_getElem?_getD, List.getElem?_eq_getElem hi] <;> rfl⟩
      refine set_update_ints ((Walks.list hh3 _ l hneI items).toS) s.heap.objs.size hSf ns hisz hb hval (items.size - 0) 0 _ (by omega) (Nat.zero_le _) ⟨⟨_, Heap.get?_push_size _ rfl, rfl, rfl⟩, (hl1.push _)⟩ ?hS0 ?hR
      case hS0 => exact ⟨0, Nat.le_refl 0, setR_new_at (Heap.get?_push_of_some _ hS)⟩
      case hR =>
        rintro ⟨h', g2, d', tk', os'⟩ c' hm hc' hS'
        obtain rfl : g2 = s.gens := hm.gens
        obtain rfl : d' = s.drawn := hm.drawn
        obtain rfl : os' = s.os := hm.os
        rw [hisz] at hc'
        show wpAny _ _ _ _ _ _
        refine wpAny_pure ?_
        show wpAny _ _ (ret Value.none) _ _ _
        refine wpAny_pure ⟨rfl, h', tk', c', rfl, hS', hc', fun b o e => ?_⟩
        have hb0 : b < s.heap.objs.size := Heap.lt_size e
        exact hm.heap b o (by rw [hsz]; simp only [List.mem_cons, List.not_mem_nil, or_false, not_or]; exact ⟨Nat.ne_of_lt hb0, Nat.ne_of_lt (Nat.lt_succ_of_lt hb0)⟩) (Heap.get?_push_of_some _ (Heap.get?_push_of_some _ e))
    · match r2, hr2 with
      | .error e, hr2 => exact hr2
      | .ok (.ret r), hr2 =>
        obtain ⟨rfl, h', tk, c', rfl, hS', hc', hk'⟩ := hr2
        repeat (any_goals (first | assumption | wp_step))
        exact h _ _ _ hS' hc' hk'
end
end L2

namespace DP
open PySem PySem.Spec PyProof.Rows L2
section
variable {c : Ctx} {e : Expr} {pos p p2 p3 p4 : Pos} {te : RE} {S : SS}
theorem q_isiT {T : Str} {n : String} (g : SS → D → Bool) (hc : ∀ (x : D) (S : SS) (Q : D → SS → Prop), Kn S x → Q (.bl (g S x)) S → CD c (.builtin "isinstance") [x, .ty n] S Q) (hm : c.X.mg "isinstance" = none) (ht : c.X.mg T = none) (hv : bootBuiltins T = some (.type n)) (ho : QE c e te)
    (hg : Gl c.X "isinstance" := by rfl) (hg2 : Gl c.X T := by rfl) (hn : T ≠ "__name__" := by decide) (hx : (T == ("__debug__" : Str)) = false := by decide)
    (hs : starEach [e, .Name T p2] c.X.env = (false, eval e c.X.env) :: starEach [.Name T p2] c.X.env := by rfl) (hs2 : starEach [.Name T p2] c.X.env = (false, eval (.Name T p2) c.X.env) :: starEach [] c.X.env := by rfl) (hpl : (backTo pos (starEach [.Name T p2] c.X.env)).any (·.1) = false := by rfl) :
    QE c (.Call (.Name "isinstance" p) [e, .Name T p2] [] pos) fun ρ S Q => te ρ S fun x S1 => Kn S1 x ∧ Q (.bl (g S1 x)) S1 :=
  ⟨fun ρ S Q h => je_callB hm bt_isinstance (ja_cons ((ho.run _ _ _ h).mono fun x S1 h => ja_cons (je_ty hg2 ht hv (ja_nil (hc x S1 Q h.1 h.2)) hn hx) hs2) hs) hg (by decide) (by decide) hs hpl⟩
theorem q_isiLT {k : Nat} (hm : c.X.mg "isinstance" = none) (h1 : c.X.mg "list" = none) (h2 : c.X.mg "tuple" = none) (ho : QE c e te)
    (hg : Gl c.X "isinstance" := by rfl) (hg1 : Gl c.X "list" := by rfl) (hg2 : Gl c.X "tuple" := by rfl)
    (hs : starEach [e, .Tuple [.Name "list" p3, .Name "tuple" p4] k p2] c.X.env = (false, eval e c.X.env) :: starEach [.Tuple [.Name "list" p3, .Name "tuple" p4] k p2] c.X.env := by rfl) (hpl : (backTo pos (starEach [.Tuple [.Name "list" p3, .Name "tuple" p4] k p2] c.X.env)).any (·.1) = false := by rfl) :
    QE c (.Call (.Name "isinstance" p) [e, .Tuple [.Name "list" p3, .Name "tuple" p4] k p2] [] pos) fun ρ S Q => te ρ S fun x S1 => Kn S1 x ∧ Q (.bl (isLs S1 x || isT x)) S1 :=
  ⟨fun ρ S Q h => je_callB hm bt_isinstance (ja_cons ((ho.run _ _ _ h).mono fun x S1 h => ja_cons (je_tup (ja_cons (je_ty hg1 h1 bt_list (ja_cons (je_ty hg2 h2 bt_tuple (ja_nil ⟨by show 2 ≤ sizeLine; rw [sizeLine_eq]; omega, ja_nil (cd_isLT h.1 h.2)⟩))))))) hs) hg (by decide) (by decide) hs hpl⟩
theorem fnC_DX {P : Program} {w : World} {K : PySem.W.Frag} {mg : Str → Option Value} {base : Heap} {N : List Str} {qual : Str} {st : Stmt} {f : Addr} {cdv : Value} {A : Around} {outer : List Env} {s : Shared} {H : Hp} {E : XK} {Ed : Value → Option Addr → SS → Prop} {cls : Value} {d : Option Addr} {ρ : DEnv} {S : SS} : (fnC P w K mg base N qual st f cdv A outer s H E Ed).DX cls d ρ S = Ed cls d S := rfl
/-! what is known of a value -/
theorem kn_non : Kn S .non := rfl
theorem kn_bl {b : Bool} : Kn S (.bl b) := rfl
theorem kn_int {b : Int} : Kn S (.int b) := rfl
theorem kn_str {b : Str} : Kn S (.str b) := rfl
theorem kn_tup {b : List D} : Kn S (.tup b) := rfl
theorem kn_fl {b : List D} : Kn S (.fl b) := rfl
theorem kn_lst {a : Addr} {b : List D} (h : S a = some (.lst b)) : Kn S (.ref a) := by unfold Kn tyN; dsimp only; rw [h]; rfl
theorem kn_dk {a : Addr} {b : List (Key × D)} (h : S a = some (.dk b)) : Kn S (.ref a) := by unfold Kn tyN; dsimp only; rw [h]; rfl
theorem isI_non : isI .non = false := rfl
theorem isI_bl {b : Bool} : isI (.bl b) = true := rfl
theorem isI_int {b : Int} : isI (.int b) = true := rfl
theorem isI_str {b : Str} : isI (.str b) = false := rfl
theorem isI_tup {b : List D} : isI (.tup b) = false := rfl
theorem isI_fl {b : List D} : isI (.fl b) = false := rfl
theorem isI_ref {b : Addr} : isI (.ref b) = false := rfl
theorem isB_non : isB .non = false := rfl
theorem isB_bl {b : Bool} : isB (.bl b) = true := rfl
theorem isB_int {b : Int} : isB (.int b) = false := rfl
theorem isB_str {b : Str} : isB (.str b) = false := rfl
theorem isB_tup {b : List D} : isB (.tup b) = false := rfl
theorem isB_fl {b : List D} : isB (.fl b) = false := rfl
theorem isB_ref {b : Addr} : isB (.ref b) = false := rfl
theorem isS_non : isS .non = false := rfl
theorem isS_bl {b : Bool} : isS (.bl b) = false := rfl
theorem isS_int {b : Int} : isS (.int b) = false := rfl
theorem isS_str {b : Str} : isS (.str b) = true := rfl
theorem isS_tup {b : List D} : isS (.tup b) = false := rfl
theorem isS_fl {b : List D} : isS (.fl b) = false := rfl
theorem isS_ref {b : Addr} : isS (.ref b) = false := rfl
theorem isT_non : isT .non = false := rfl
theorem isT_bl {b : Bool} : isT (.bl b) = false := rfl
theorem isT_int {b : Int} : isT (.int b) = false := rfl
theorem isT_str {b : Str} : isT (.str b) = false := rfl
theorem isT_tup {b : List D} : isT (.tup b) = true := rfl
theorem isT_fl {b : List D} : isT (.fl b) = false := rfl
theorem isT_ref {b : Addr} : isT (.ref b) = false := rfl
theorem isInt_non : isInt .non = false := rfl
theorem isInt_bl {b : Bool} : isInt (.bl b) = false := rfl
theorem isInt_int {b : Int} : isInt (.int b) = true := rfl
theorem isInt_str {b : Str} : isInt (.str b) = false := rfl
theorem isInt_tup {b : List D} : isInt (.tup b) = false := rfl
theorem isInt_fl {b : List D} : isInt (.fl b) = false := rfl
theorem isInt_ref {b : Addr} : isInt (.ref b) = false := rfl
theorem isNon_non : DP.isNon .non = true := rfl
theorem isNon_bl {b : Bool} : DP.isNon (.bl b) = false := rfl
theorem isNon_int {b : Int} : DP.isNon (.int b) = false := rfl
theorem isNon_str {b : Str} : DP.isNon (.str b) = false := rfl
theorem isNon_tup {b : List D} : DP.isNon (.tup b) = false := rfl
theorem isNon_fl {b : List D} : DP.isNon (.fl b) = false := rfl
theorem isNon_ref {b : Addr} : DP.isNon (.ref b) = false := rfl
theorem isLs_non : isLs S .non = false := rfl
theorem isLs_bl {b : Bool} : isLs S (.bl b) = false := rfl
theorem isLs_int {b : Int} : isLs S (.int b) = false := rfl
theorem isLs_str {b : Str} : isLs S (.str b) = false := rfl
theorem isLs_tup {b : List D} : isLs S (.tup b) = false := rfl
theorem isLs_fl {b : List D} : isLs S (.fl b) = true := rfl
theorem isLs_lst {a : Addr} {b : List D} (h : S a = some (.lst b)) : isLs S (.ref a) = true := by unfold isLs tyN; dsimp only; rw [h]; rfl
theorem isLs_dk {a : Addr} {b : List (Key × D)} (h : S a = some (.dk b)) : isLs S (.ref a) = false := by unfold isLs tyN; dsimp only; rw [h]; rfl
theorem isDc_non : isDc S .non = false := rfl
theorem isDc_bl {b : Bool} : isDc S (.bl b) = false := rfl
theorem isDc_int {b : Int} : isDc S (.int b) = false := rfl
theorem isDc_str {b : Str} : isDc S (.str b) = false := rfl
theorem isDc_tup {b : List D} : isDc S (.tup b) = false := rfl
theorem isDc_fl {b : List D} : isDc S (.fl b) = false := rfl
theorem isDc_lst {a : Addr} {b : List D} (h : S a = some (.lst b)) : isDc S (.ref a) = false := by unfold isDc tyN; dsimp only; rw [h]; rfl
theorem isDc_dk {a : Addr} {b : List (Key × D)} (h : S a = some (.dk b)) : isDc S (.ref a) = true := by unfold isDc tyN; dsimp only; rw [h]; rfl
theorem k_rv0 {d : D} {r : DEnv} {k : D → Prop} : rv (some d :: r) 0 k = k d := rfl
theorem k_rv1 {d : D} {r : DEnv} {i : Nat} {k : D → Prop} : rv (some d :: r) (i + 1) k = rv r i k := rfl
theorem k_rv2 {r : DEnv} {i : Nat} {k : D → Prop} : rv (none :: r) (i + 1) k = rv r i k := rfl
theorem k_rbl {b : Bool} {k : Bool → Prop} : rbl (.bl b) k = k b := rfl
theorem k_rint {b : Int} {k : Int → Prop} : rint (.int b) k = k b := rfl
theorem k_rI2 {i j : Int} {g : Int → Int → Prop} : rI2 g (.int i) (.int j) = g i j := rfl
theorem k_badd {x y : D} {Q : D → Prop} : rBin .Add x y S Q = DP.rAdd x y S Q := rfl
theorem k_bSub {i j : Int} {Q : D → Prop} : rBin .Sub (.int i) (.int j) S Q = (Q (.int (i - j))) := rfl
theorem k_bMult {i j : Int} {Q : D → Prop} : rBin .Mult (.int i) (.int j) S Q = (IntMulOk i j ∧ Q (.int (i * j))) := rfl
theorem k_bFloorDiv {i j : Int} {Q : D → Prop} : rBin .FloorDiv (.int i) (.int j) S Q = (CDivW i j ∧ Q (.int (i / j))) := rfl
theorem k_bMod {i j : Int} {Q : D → Prop} : rBin .Mod (.int i) (.int j) S Q = (0 < j ∧ Q (.int (i % j))) := rfl
theorem k_bPow {i j : Int} {Q : D → Prop} : rBin .Pow (.int i) (.int j) S Q = (CPow i j ∧ Q (.int (i ^ j.toNat))) := rfl
theorem k_addi {i j : Int} {Q : D → Prop} : DP.rAdd (.int i) (.int j) S Q = Q (.int (i + j)) := rfl
theorem k_addt {xs ys : List D} {Q : D → Prop} : DP.rAdd (.tup xs) (.tup ys) S Q = (xs.length + ys.length ≤ sizeLine ∧ Q (.tup (xs ++ ys))) := rfl
theorem k_addf {xs ys : List D} {Q : D → Prop} : DP.rAdd (.fl xs) (.fl ys) S Q = (xs.length + ys.length ≤ sizeLine ∧ Q (.fl (xs ++ ys))) := rfl
theorem k_itm {xs : List D} {k : List D → Prop} : rItm (.fl xs) S k = k xs := rfl
theorem k_ceq {x y : D} {Q : Bool → Prop} : rCmp .Eq S x y Q = rEqv S x y Q := rfl
theorem k_cne {x y : D} {Q : Bool → Prop} : rCmp .NotEq S x y Q = rEqv S x y fun b => Q (!b) := rfl
theorem k_cis {x y : D} {Q : Bool → Prop} : rCmp .Is S x y Q = rIs x y Q := rfl
theorem k_cisn {x y : D} {Q : Bool → Prop} : rCmp .IsNot S x y Q = rIs x y fun b => Q (!b) := rfl
theorem k_cin {x y : D} {Q : Bool → Prop} : rCmp .In S x y Q = DP.rIn S x y Q := rfl
theorem k_cnin {x y : D} {Q : Bool → Prop} : rCmp .NotIn S x y Q = DP.rIn S x y fun b => Q (!b) := rfl
theorem k_ciLt {i j : Int} {Q : Bool → Prop} : rCmp .Lt S (.int i) (.int j) Q = Q (decide (i < j)) := rfl
theorem k_csLt {i j : Str} {Q : Bool → Prop} : rCmp .Lt S (.str i) (.str j) Q = Q (strLt i j) := rfl
theorem k_ciLtE {i j : Int} {Q : Bool → Prop} : rCmp .LtE S (.int i) (.int j) Q = Q (decide (i ≤ j)) := rfl
theorem k_csLtE {i j : Str} {Q : Bool → Prop} : rCmp .LtE S (.str i) (.str j) Q = Q (!strLt j i) := rfl
theorem k_ciGt {i j : Int} {Q : Bool → Prop} : rCmp .Gt S (.int i) (.int j) Q = Q (decide (j < i)) := rfl
theorem k_csGt {i j : Str} {Q : Bool → Prop} : rCmp .Gt S (.str i) (.str j) Q = Q (strLt j i) := rfl
theorem k_ciGtE {i j : Int} {Q : Bool → Prop} : rCmp .GtE S (.int i) (.int j) Q = Q (decide (j ≤ i)) := rfl
theorem k_csGtE {i j : Str} {Q : Bool → Prop} : rCmp .GtE S (.str i) (.str j) Q = Q (!strLt i j) := rfl
theorem k_eqi {i j : Int} {Q : Bool → Prop} : rEqv S (.int i) (.int j) Q = Q (decide (i = j)) := rfl
theorem k_eqs {i j : Str} {Q : Bool → Prop} : rEqv S (.str i) (.str j) Q = Q (decide (i = j)) := rfl
theorem k_eqb {i j : Bool} {Q : Bool → Prop} : rEqv S (.bl i) (.bl j) Q = Q (decide (i = j)) := rfl
theorem k_isn {x : D} {Q : Bool → Prop} : rIs x .non Q = Q (DP.isNon x) := rfl
theorem k_isb {i j : Bool} {Q : Bool → Prop} : rIs (.bl i) (.bl j) Q = Q (decide (i = j)) := rfl
theorem k_keyi {i : Int} {k : Key → Prop} : rKey (.int i) k = k (.inl i) := rfl
theorem k_keys {i : Str} {k : Key → Prop} : rKey (.str i) k = k (.inr i) := rfl
theorem k_ins {s z : Str} {Q : Bool → Prop} : DP.rIn S (.str s) (.str z) Q = Q (inS s z) := rfl
theorem k_int {x : D} {xs : List D} {Q : Bool → Prop} : DP.rIn S x (.tup xs) Q = (flD x = true ∧ xs.all flD = true ∧ Q (inF x xs)) := rfl
theorem k_inf {x : D} {xs : List D} {Q : Bool → Prop} : DP.rIn S x (.fl xs) Q = (flD x = true ∧ xs.all flD = true ∧ Q (inF x xs)) := rfl
theorem k_tru0 {Q : Bool → Prop} : rTru S .non Q = Q false := rfl
theorem k_tru1 {b : Bool} {Q : Bool → Prop} : rTru S (.bl b) Q = Q b := rfl
theorem k_tru2 {b : Int} {Q : Bool → Prop} : rTru S (.int b) Q = Q (b != 0) := rfl
theorem k_tru3 {b : List D} {Q : Bool → Prop} : rTru S (.tup b) Q = Q (!b.isEmpty) := rfl
theorem k_tru4 {b : List D} {Q : Bool → Prop} : rTru S (.fl b) Q = Q (!b.isEmpty) := rfl
theorem k_tru5 {b : Str} {Q : Bool → Prop} : rTru S (.str b) Q = (b.length ≤ sizeLine ∧ Q ((b.length : Int) != 0)) := rfl
theorem k_ipa {i j : Int} {Q : D → Prop} : rIp .Add (.int i) (.int j) Q = Q (.int (i + j)) := rfl
theorem k_ips {i j : Int} {Q : D → Prop} : rIp .Sub (.int i) (.int j) Q = Q (.int (i - j)) := rfl
theorem k_cons {d : D} {r : List D} {k : D → List D → Prop} : rCons (d :: r) k = k d r := rfl
theorem k_cons2 {d r : D} {k : D → D → Prop} : rCons2 [d, r] k = k d r := rfl
theorem k_tup {xs : List D} {k : List D → Prop} : rTup (.tup xs) k = k xs := rfl
theorem k_seqf {xs : List D} {R : IK} : rSeq S (.fl xs) R = R xs (fun _ => True) S := rfl
theorem k_seqt {xs : List D} {R : IK} : rSeq S (.tup xs) R = R xs (fun _ => True) S := rfl
theorem k_seqs {xs : Str} {R : IK} : rSeq S (.str xs) R = R (signs xs) (fun _ => True) S := rfl
theorem k_rfl {xs : List D} {k : List D → Prop} : rfl' (.fl xs) k = k xs := rfl
theorem k_patn {i : Nat} {d : D} {ρ : DEnv} {k : DEnv → Prop} : rPat (.n i) d ρ k = k (ρ.set i (some d)) := rfl
theorem k_patt {is : List Nat} {ds : List D} {ρ : DEnv} {k : DEnv → Prop} : rPat (.t is) (.tup ds) ρ k = (ds.length = is.length ∧ k (setN ρ is ds)) := rfl
theorem k_setN0 {ρ : DEnv} : setN ρ [] [] = ρ := rfl
theorem k_setN1 {ρ : DEnv} {i : Nat} {is : List Nat} {d : D} {ds : List D} : setN ρ (i :: is) (d :: ds) = setN (ρ.set i (some d)) is ds := rfl
theorem k_ixt {xs : List D} {i : Int} {Q : D → Prop} : DP.rIx S (.tup xs) (.int i) Q = ∃ d, atI xs i = some d ∧ Q d := rfl
theorem k_ixf {xs : List D} {i : Int} {Q : D → Prop} : DP.rIx S (.fl xs) (.int i) Q = ∃ d, atI xs i = some d ∧ Q d := rfl
theorem k_ixs {z : Str} {i : Int} {Q : D → Prop} : DP.rIx S (.str z) (.int i) Q = (z.length ≤ sizeLine ∧ ∃ c, atI z.cps.toList i = some c ∧ Q (.str ⟨#[c]⟩)) := rfl
theorem k_opt0 {ρ : DEnv} {k : Option Int → SS → Prop} : rOpt none ρ S k = k none S := rfl
theorem k_opt1 {t : RE} {ρ : DEnv} {k : Option Int → SS → Prop} : rOpt (some t) ρ S k = t ρ S fun x S1 => rint x fun i => k (some i) S1 := rfl
theorem k_slt {xs : List D} {l u : Option Int} {Q : D → Prop} : rSl S (.tup xs) l u Q = Q (.tup (cutD xs l u)) := rfl
theorem k_slf {xs : List D} {l u : Option Int} {Q : D → Prop} : rSl S (.fl xs) l u Q = Q (.fl (cutD xs l u)) := rfl
theorem k_sls {xs : Str} {l u : Option Int} {Q : D → Prop} : rSl S (.str xs) l u Q = (xs.length ≤ sizeLine ∧ Q (.str (cutS xs l u))) := rfl
theorem k_rev {xs : List D} {Q : D → Prop} : rRev S (.fl xs) Q = Q (.fl xs.reverse) := rfl
theorem k_r1 {f : D → SS → (D → SS → Prop) → Prop} {x : D} {Q : D → SS → Prop} : DP.r1 f [x] S Q = f x S Q := rfl
theorem k_r2 {f : D → D → SS → (D → SS → Prop) → Prop} {x y : D} {Q : D → SS → Prop} : DP.r2 f [x, y] S Q = f x y S Q := rfl
theorem k_lent {xs : List D} {Q : D → SS → Prop} : DP.rLen (.tup xs) S Q = Q (.int xs.length) S := rfl
theorem k_lenf {xs : List D} {Q : D → SS → Prop} : DP.rLen (.fl xs) S Q = Q (.int xs.length) S := rfl
theorem k_lens {xs : Str} {Q : D → SS → Prop} : DP.rLen (.str xs) S Q = (xs.length ≤ sizeLine ∧ Q (.int xs.length) S) := rfl
theorem k_abs {i : Int} {Q : D → SS → Prop} : rAbs (.int i) S Q = Q (.int (if i < 0 then -i else i)) S := rfl
theorem k_min {i j : Int} {Q : D → SS → Prop} : rMin2 (.int i) (.int j) S Q = Q (.int (if j < i then j else i)) S := rfl
theorem k_max {i j : Int} {Q : D → SS → Prop} : rMax2 (.int i) (.int j) S Q = Q (.int (if j > i then j else i)) S := rfl
theorem k_int1 {i : Int} {Q : D → SS → Prop} : rInt1 (.int i) S Q = Q (.int i) S := rfl
theorem k_lstt {xs : List D} {Q : D → SS → Prop} : rList (.tup xs) S Q = Q (.fl xs) S := rfl
theorem k_lstf {xs : List D} {Q : D → SS → Prop} : rList (.fl xs) S Q = Q (.fl xs) S := rfl
theorem k_lstMt {xs : List D} {Q : D → SS → Prop} : rListM (.tup xs) S Q = ∀ p, S p = none → Q (.ref p) (sup S p (.lst xs)) := rfl
theorem k_lstMf {xs : List D} {Q : D → SS → Prop} : rListM (.fl xs) S Q = ∀ p, S p = none → Q (.ref p) (sup S p (.lst xs)) := rfl
theorem k_tupt {xs : List D} {Q : D → SS → Prop} : rTuple (.tup xs) S Q = Q (.tup xs) S := rfl
theorem k_tupf {xs : List D} {Q : D → SS → Prop} : rTuple (.fl xs) S Q = Q (.tup xs) S := rfl
theorem k_bls {x : D} {k : List Bool → Prop} : rBls x S k = rItm x S fun xs => ∃ bs : List Bool, xs = bs.map D.bl ∧ k bs := rfl
theorem k_sum {x : D} {Q : D → SS → Prop} : DP.rSum x S Q = rItm x S fun xs => ∃ ns : List Int, xs = ns.map D.int ∧ Q (.int ns.sum) S := rfl
theorem k_rcL {xs : List D} : rcL S (.fl xs) = True := rfl
theorem k_rcS {xs : Str} : rcS S (.str xs) = True := rfl
theorem m_ixl {a : Addr} {xs : List D} {i : Int} {d : D} {Q : D → Prop} (h : S a = some (.lst xs)) (e : atI xs i = some d) (q : Q d) : DP.rIx S (.ref a) (.int i) Q := .inl ⟨xs, h, d, e, q⟩
theorem m_ixl' {a : Addr} {xs : List D} {i : Int} {d : D} {Q : D → Prop} (h : S a = some (.lst xs)) (e : atI xs i = some d) (q : Q d) : DP.rIx S (.ref a) (.int i) Q := .inl ⟨xs, h, d, e, q⟩
theorem m_ixki {a : Addr} {kvs : List (Key × D)} {i : Int} {d : D} {Q : D → Prop} (h : S a = some (.dk kvs)) (e : getK kvs (.inl i) = some d) (q : Q d) : DP.rIx S (.ref a) (.int i) Q := .inr ⟨kvs, h, d, e, q⟩
theorem m_ixks {a : Addr} {kvs : List (Key × D)} {i : Str} {d : D} {Q : D → Prop} (h : S a = some (.dk kvs)) (e : getK kvs (.inr i) = some d) (q : Q d) : DP.rIx S (.ref a) (.str i) Q := .inr ⟨kvs, h, d, e, q⟩
theorem m_stl {a : Addr} {xs : List D} {i : Int} {j : Nat} {y : D} {Q : SS → Prop} (h : S a = some (.lst xs)) (e : ixN xs.length i = some j) (q : Q (sup S a (.lst (xs.set j y)))) : rSetIx S (.ref a) (.int i) y Q := .inl ⟨xs, h, j, e, q⟩
theorem m_stki {a : Addr} {kvs : List (Key × D)} {i : Int} {y : D} {Q : SS → Prop} (h : S a = some (.dk kvs)) (e : kvs.length < sizeLine) (q : Q (sup S a (.dk (putD kvs (.inl i) y)))) : rSetIx S (.ref a) (.int i) y Q := .inr ⟨kvs, h, e, q⟩
theorem m_stks {a : Addr} {kvs : List (Key × D)} {i : Str} {y : D} {Q : SS → Prop} (h : S a = some (.dk kvs)) (e : kvs.length < sizeLine) (q : Q (sup S a (.dk (putD kvs (.inr i) y)))) : rSetIx S (.ref a) (.str i) y Q := .inr ⟨kvs, h, e, q⟩
theorem m_itm {a : Addr} {xs : List D} {k : List D → Prop} (h : S a = some (.lst xs)) (q : k xs) : rItm (.ref a) S k := ⟨xs, h, q⟩
theorem m_seq {a : Addr} {xs : List D} {R : IK} (h : S a = some (.lst xs)) (q : R xs (fun S' => S' a = some (.lst xs)) S) : rSeq S (.ref a) R := ⟨xs, h, q⟩
theorem m_lenl {a : Addr} {xs : List D} {Q : D → SS → Prop} (h : S a = some (.lst xs)) (q : Q (.int xs.length) S) : DP.rLen (.ref a) S Q := .inl ⟨xs, h, q⟩
theorem m_lenk {a : Addr} {kvs : List (Key × D)} {Q : D → SS → Prop} (h : S a = some (.dk kvs)) (q : Q (.int kvs.length) S) : DP.rLen (.ref a) S Q := .inr ⟨kvs, h, q⟩
theorem m_ls {a : Addr} {xs : List D} {k : Addr → List D → Prop} (h : S a = some (.lst xs)) (q : k a xs) : rLs (.ref a) S k := ⟨xs, h, q⟩
theorem m_dk {a : Addr} {kvs : List (Key × D)} {k : Addr → List (Key × D) → Prop} (h : S a = some (.dk kvs)) (q : k a kvs) : rDk (.ref a) S k := ⟨kvs, h, q⟩
theorem m_rcL {a : Addr} {xs : List D} {P : Prop} (h : S a = some (.lst xs)) (q : P) : rcL S (.ref a) ∧ P := ⟨⟨xs, h⟩, q⟩
theorem m_rcD {a : Addr} {kvs : List (Key × D)} {P : Prop} (h : S a = some (.dk kvs)) (q : P) : rcD S (.ref a) ∧ P := ⟨⟨kvs, h⟩, q⟩
theorem m_trul {a : Addr} {xs : List D} {Q : Bool → Prop} (h : S a = some (.lst xs)) (q : Q (!xs.isEmpty)) : rTru S (.ref a) Q := .inl ⟨xs, h, q⟩
theorem m_truk {a : Addr} {kvs : List (Key × D)} {Q : Bool → Prop} (h : S a = some (.dk kvs)) (q : Q (!kvs.isEmpty)) : rTru S (.ref a) Q := .inr ⟨kvs, h, q⟩
theorem m_inki {a : Addr} {kvs : List (Key × D)} {i : Int} {Q : Bool → Prop} (h : S a = some (.dk kvs)) (q : Q (hasK kvs (.inl i))) : DP.rIn S (.int i) (.ref a) Q := .inr ⟨kvs, h, q⟩
theorem m_inks {a : Addr} {kvs : List (Key × D)} {i : Str} {Q : Bool → Prop} (h : S a = some (.dk kvs)) (q : Q (hasK kvs (.inr i))) : DP.rIn S (.str i) (.ref a) Q := .inr ⟨kvs, h, q⟩
theorem m_fld {a C : Addr} {fs : List (Str × D)} {f : Str} {v : D} {k : D → Prop} (h : S a = some (.ins C fs)) (e : fs.lookup f = some v) (q : k v) : rFld C f (.ref a) S k := ⟨a, fs, v, rfl, h, e, q⟩
theorem m_put {a C : Addr} {fs : List (Str × D)} {f : Str} {y : D} {k : SS → Prop} (h : S a = some (.ins C fs)) (e : fs.length < 1000) (q : k (sup S a (.ins C (putD' f y fs)))) : rPut C f y (.ref a) S k := ⟨a, fs, rfl, h, e, q⟩
theorem m_get1 {a : Addr} {kvs : List (Key × D)} {y : D} {Q : D → SS → Prop} (h : S a = some (.dk kvs)) (q : rKey y fun k => Q ((getK kvs k).getD .non) S) : rGet1 (.ref a) y S Q := ⟨kvs, h, q⟩
theorem m_get2 {a : Addr} {kvs : List (Key × D)} {y z : D} {Q : D → SS → Prop} (h : S a = some (.dk kvs)) (q : rKey y fun k => Q ((getK kvs k).getD z) S) : rGet2 (.ref a) y z S Q := ⟨kvs, h, q⟩
theorem m_pop1 {a : Addr} {kvs : List (Key × D)} {y : D} {Q : D → SS → Prop} (h : S a = some (.dk kvs)) (q : rKey y fun k => ∃ v, getK kvs k = some v ∧ Q v (sup S a (.dk (delK kvs k)))) : rPop1 (.ref a) y S Q := ⟨kvs, h, q⟩
theorem m_pop2 {a : Addr} {kvs : List (Key × D)} {y z : D} {Q : D → SS → Prop} (h : S a = some (.dk kvs)) (q : rKey y fun k => match getK kvs k with | some v => Q v (sup S a (.dk (delK kvs k))) | none => Q z S) : rPop2 (.ref a) y z S Q := ⟨kvs, h, q⟩
/-- a def's call in a comprehension -/
theorem q_callB {s : Shared} {H : Hp} {scope : Scope} {C : Addr} {cl : List (Str × Addr)} {fp : List Addr} {x : Str} {k : Nat} {sp : DSp} {es : List Expr} {la : RL} (F : Fn c.X.prog c.X.w c.X.K c.X.mg c.X.base k x sp) (hr : Room k c.X.A) (ha : QA (DP.blkC c s H scope C cl fp) (e :: es) la) (hg : Gl (DP.blkC c s H scope C cl fp).X x := by rfl) (hdb : (x == ("__debug__" : Str)) = false := by decide)
    (he : starEach (e :: es) (DP.blkC c s H scope C cl fp).X.env = (false, eval e (DP.blkC c s H scope C cl fp).X.env) :: starEach es (DP.blkC c s H scope C cl fp).X.env := by rfl) (hpl : (backTo pos (starEach es (DP.blkC c s H scope C cl fp).X.env)).any (·.1) = false := by rfl) : QE (DP.blkC c s H scope C cl fp) (.Call (.Name x p) (e :: es) [] pos) fun ρ S Q => la ρ S fun ds S1 => sp ds S1 Q fun _ _ _ => False :=
  q_call (c := DP.blkC c s H scope C cl fp) F hr ha hg hdb he hpl
end
/-- a def's reading, apart from the goal (which must not be unfolded) -/
theorem qz_go {c : Ctx} {sts : List Stmt} {ρ : DEnv} {S : SS} {nx : NK} {rt : RK} {bk ct : NK} (h : ∃ z, QZ c sts z ∧ z ρ S nx rt bk ct) : JSs c sts ρ S nx rt bk ct := let ⟨_, k, q⟩ := h; k.run _ _ _ _ _ _ q
end DP

/-! list(range(n)), sorted(set(l)) -/
namespace L2
open PySem PySem.Spec PyProof.Rows
section
variable {X : Cx}
def rSetLi (K : PySem.W.Frag) (w : World) : List V → Hp → VK → Prop := fun vs H Q => ∃ (l : Addr) (ns : List Int), vs = [V.ref l] ∧ SqL K H l (ns.map V.int) ∧ ns.length + 1 < scanBound ∧ ∀ p c, c ≤ ns.length → H p = none → Q (.ref p) (upd H p (SetO w p (fun j => decide (j ∈ ns)) c))
theorem cr_setL (hc : X.calm = true) : CallR X (.type "set") (rSetLi X.K X.w) := by
  intro pins s σ H vs us Q I r h
  obtain ⟨l, ns, rfl, hq, hb, q⟩ := h
  rw [Vals.ref1 r]
  obtain ⟨its, r2, pl, hz⟩ := I.list hq
  refine call_set_lstI ns (I.ok.hd hc) pl.isList (by simpa using intsAre_of r2) hb fun h' tk c R hc' hk => ?_
  exact ⟨.ref _, upd H s.heap.objs.size (SetO X.w _ _ c), I.laid (t' := tk) hk (Nat.le_refl _) (setO_new R), rfl, q _ c hc' (I.hok.fresh (Nat.le_refl _))⟩
end
end L2
namespace DP
open PySem PySem.Spec PyProof.Rows L2
section
variable {c : Ctx} {e : Expr} {pos p p2 pos2 : Pos} {te : RE} {S : SS}
theorem bt_set' : bootBuiltins "set" = some (.type "set") := by decide +kernel
theorem q_listRg (hm : c.X.mg "list" = none) (hm2 : c.X.mg "range" = none) (he : QE c e te) (hg : Gl c.X "list" := by rfl) (hg2 : Gl c.X "range" := by rfl) (hc : c.X.calm = true := by rfl)
    (hs2 : starEach [e] c.X.env = (false, eval e c.X.env) :: starEach [] c.X.env := by rfl) (hs : starEach [.Call (.Name "range" p2) [e] [] pos2] c.X.env = (false, eval (.Call (.Name "range" p2) [e] [] pos2) c.X.env) :: starEach [] c.X.env := by rfl) :
    QE c (.Call (.Name "list" p) [.Call (.Name "range" p2) [e] [] pos2] [] pos) fun ρ S Q => te ρ S fun x S1 => rint x fun i => (0 ≤ i ∧ i ≤ 1000000) ∧ Q (.fl (irng 0 i.toNat)) S1 :=
  ⟨fun ρ S Q h => JE.of (pe_listRg hc hg hm (prg_1 hg2 hm2 PEt hs2) hs) fun σ H ds => by
    refine (he.run _ _ _ h).then ds fun x S1 v H1 r1 d1 s1 h1 => ?_
    obtain ⟨i, rfl, ⟨h1, h2⟩, q⟩ := rint_ok h1
    refine ⟨i, rep_int.mp r1, RgOk.of_le (by omega) (by omega) (by omega) (by omega), fun a ha => ?_⟩
    obtain ⟨st, sm, e⟩ := d1.sim.new (o := .lst (rgV 0 i)) ha
    refine ⟨_, S1, rep_fl.mpr ⟨a, _, rfl, SqL.of e, ?_⟩, sm, s1.trans st, q⟩
    have e1 : rgV 0 i = (List.range i.toNat).map fun i => V.int (0 + (i : Nat)) := by unfold rgV; rw [Int.sub_zero]
    rw [show Reps c.X.K (im (upd H1 a (.lst (rgV 0 i))) S1) (irng 0 i.toNat) (rgV 0 i) ↔ Reps c.X.K (im (upd H1 a (.lst (rgV 0 i))) S1) ((List.range i.toNat).map fun (k : Nat) => D.int (0 + (k : Int))) ((List.range i.toNat).map fun i => V.int (0 + (i : Nat))) from by rw [← e1]; exact Iff.rfl]
    have key : ∀ l : List Nat, Reps c.X.K (im (upd H1 a (.lst (rgV 0 i))) S1) (l.map fun (k : Nat) => D.int (0 + (k : Int))) (l.map fun i => V.int (0 + (i : Nat))) := fun l => by
      induction l with
      | nil => exact Reps.nil
      | cons n l ih => exact Reps.cons (rep_int.mpr rfl) ih
    exact key _⟩
theorem q_sset (hm : c.X.mg "sorted" = none) (hm2 : c.X.mg "set" = none) (he : QE c e te) (hg : Gl c.X "sorted" := by rfl) (hg2 : Gl c.X "set" := by rfl) (hc : c.X.calm = true := by rfl)
    (hs2 : starEach [e] c.X.env = (false, eval e c.X.env) :: starEach [] c.X.env := by rfl) (hpl2 : (backTo pos2 (starEach [] c.X.env)).any (·.1) = false := by rfl) (hs : starEach [.Call (.Name "set" p2) [e] [] pos2] c.X.env = (false, eval (.Call (.Name "set" p2) [e] [] pos2) c.X.env) :: starEach [] c.X.env := by rfl) (hpl : (backTo pos (starEach [] c.X.env)).any (·.1) = false := by rfl) (hs3 : starEach [e] c.X.env = [(false, eval e c.X.env)] := by rfl) (hs4 : starEach [.Call (.Name "set" p2) [e] [] pos2] c.X.env = [(false, eval (.Call (.Name "set" p2) [e] [] pos2) c.X.env)] := by rfl) :
    QE c (.Call (.Name "sorted" p) [.Call (.Name "set" p2) [e] [] pos2] [] pos) fun ρ S Q => te ρ S fun x S1 => ∃ ns : List Int, x = .fl (ns.map D.int) ∧ ns.length < 60 ∧ ∀ ms : List Int, ms.Pairwise (· < ·) → (∀ k, k ∈ ms ↔ k ∈ ns) → Q (.fl (ms.map D.int)) S1 :=
  ⟨fun ρ S Q h => JE.of (pe_callB (cr_sortedSet hc) hg hm bt_sorted (pa_cons (pe_callTy (cr_setL hc) hg2 hm2 bt_set' (pa_cons PEt pa_nil hs3) (by decide) (by decide) hs2 hpl2) pa_nil hs4) (by decide) (by decide) hs hpl) fun σ H ds => by
    refine (he.run _ _ _ h).then ds fun x S1 v H1 r1 d1 s1 h1 => ?_
    obtain ⟨ns, rfl, hl, q⟩ := h1
    obtain ⟨a, vs, rfl, h2, h3⟩ := rep_fl.mp r1
    rw [reps_ints h3] at h2
    refine ⟨a, ns, rfl, sub_im.l h2, by unfold scanBound; omega, fun b n hn hb => ?_⟩
    obtain ⟨st, sm, e⟩ := d1.sim.new (o := SetO c.X.w b (fun j => decide (j ∈ ns)) n) hb
    show rSortedSet c.X.w [V.ref b] _ _
    refine ⟨b, _, n, rfl, (of_im e).2, by omega, fun ms d k1 k2 k3 hd => ?_⟩
    obtain ⟨st2, sm2, e2⟩ := sm.new (o := .lst (ms.map V.int)) hd
    exact ⟨_, S1, rep_fl.mpr ⟨d, _, rfl, SqL.of e2, reps_ints'⟩, sm2, (s1.trans st).trans st2, q ms k1 fun k => (k2 k).trans decide_eq_true_iff⟩⟩
end
end DP

/-! what a call leaves as it was; the laws' hands, from which they draw -/
namespace DP
open PySem L2
/-- all that stood, but for what stands at fp, stands as it was -/
def Fr (fp : List Addr) (S S' : SS) : Prop := ∀ z o, S z = some o → z ∉ fp → S' z = some o
section
variable {S S' S2 : SS} {fp gp : List Addr} {a b : Addr} {o u : MO}
theorem Fr.refl : Fr fp S S := fun _ _ h _ => h
theorem Fr.trans (h : Fr fp S S') (g : Fr fp S' S2) : Fr fp S S2 := fun z o e n => g z o (h z o e n) n
theorem Fr.mono (h : Fr fp S S') (g : ∀ z ∈ fp, z ∈ gp) : Fr gp S S' := fun z o e n => h z o e fun m => n (g z m)
theorem Fr.at_ (h : Fr fp S S') (e : S a = some o) (n : a ∉ fp) : S' a = some o := h a o e n
theorem Fr.nil (h : Fr [] S S') (e : S a = some o) : S' a = some o := h a o e (by simp)
theorem Fr.one (h : Fr [b] S S') (e : S a = some o) (n : a ≠ b) : S' a = some o := h a o e (by simpa using n)
/-- something new -/
theorem Fr.new (h : S a = none) : Fr fp S (sup S a o) := fun z u e _ => by rw [sup_ne (fun q => by rw [q, h] at e; cases e)]; exact e
theorem Fr.put (h : a ∈ fp) : Fr fp S (sup S a o) := fun z u e n => by rw [sup_ne (fun q => n (by rw [q]; exact h))]; exact e
theorem Fr.newer (g : Fr fp S S') (h : S a = none) : Fr fp S (sup S' a o) := fun z u e n => by rw [sup_ne (fun q => by rw [q, h] at e; cases e)]; exact g z u e n
theorem Fr.putr (g : Fr fp S S') (h : a ∈ fp) : Fr fp S (sup S' a o) := fun z u e n => by rw [sup_ne (fun q => n (by rw [q]; exact h))]; exact g z u e n
/-- what was new and changed since -/
theorem Fr.drop (g : Fr (a :: fp) S S') (h : S a = none) : Fr fp S S' := fun z u e n => g z u e (by
  rw [List.mem_cons]; rintro (q | q)
  · rw [q, h] at e; cases e
  · exact n q)
theorem ne_some (h1 : S a = some o) (h2 : S b = none) : a ≠ b := fun q => by rw [q, h2] at h1; cases h1
theorem ne_some' (h1 : S a = some o) (h2 : S b = none) : b ≠ a := fun q => by rw [← q, h2] at h1; cases h1
theorem sup_at (h : b ≠ a) (e : S b = some u) : sup S a o b = some u := by rw [sup_ne h]; exact e
end
/-- the hand at h: cells, how many are taken, what is left of a great one, the seed, how many draws -/
def HandAt (S : SS) (h : Addr) : Prop := ∃ (cs : List Int) (i big seed cnt : Int), S h = some (.lst [.fl (cs.map .int), .int i, .int big, .int seed, .int cnt]) ∧ 0 ≤ i ∧ 0 ≤ big ∧ 0 ≤ seed ∧ seed < 2147483647 ∧ 0 ≤ cnt ∧ ∀ c ∈ cs, 0 ≤ c
theorem HandAt.fr {S S' : SS} {h : Addr} {fp : List Addr} (H : HandAt S h) (f : Fr fp S S') (n : h ∉ fp) : HandAt S' h := by
  obtain ⟨cs, i, big, seed, cnt, e, r⟩ := H
  exact ⟨cs, i, big, seed, cnt, f h _ e n, r⟩
theorem HandAt.some {S : SS} {h : Addr} (H : HandAt S h) : ∃ o, S h = some o := by
  obtain ⟨cs, i, big, seed, cnt, e, r⟩ := H
  exact ⟨_, e⟩
/-- an integer within -/
def inR (x : D) (a b : Int) : Bool := match x with
  | .int i => decide (a ≤ i) && decide (i ≤ b)
  | _ => false
theorem mul_small {i j : Int} (h1 : -18446744073709551616 < i) (h2 : i < 18446744073709551616) : IntMulOk i j := mulok_l (by omega) (by omega)
theorem div_small {i j : Int} (h1 : 0 < j) (h2 : j < 18446744073709551616) : CDivW i j := cdivw (by omega) (by omega)
theorem ite2' {A B : Prop} {b : Bool} (h1 : b = true → A) (h2 : b = false → B) : if b = true then A else B := by
  cases b
  · rw [if_neg Bool.false_ne_true]; exact h2 rfl
  · rw [if_pos rfl]; exact h1 rfl
theorem iteD {A B : Prop} {p : Prop} [Decidable p] (h1 : p → A) (h2 : ¬ p → B) : if decide p = true then A else B := by
  by_cases h : p
  · rw [if_pos (decide_eq_true h)]; exact h1 h
  · rw [if_neg (by rw [decide_eq_false h]; exact Bool.false_ne_true)]; exact h2 h
theorem atI_mem {α : Type} {xs : List α} {i : Int} (h : 0 ≤ i) (h2 : i < xs.length) : ∃ d, atI xs i = some d ∧ d ∈ xs := by
  have hn : i.toNat < xs.length := by omega
  exact ⟨xs[i.toNat], atI_of (n := i.toNat) (by omega) (List.getElem?_eq_getElem hn), List.getElem_mem hn⟩
theorem atI_len {α β : Type} {xs : List α} {ys : List β} {i : Int} {d : α} (h : atI xs i = some d) (hl : ys.length = xs.length) : ∃ e, atI ys i = some e := by
  unfold atI at *
  rw [hl]
  cases e : ixN xs.length i with
  | none => rw [e] at h; cases h
  | some j =>
    rw [e] at h
    have hj : j < xs.length := by obtain ⟨q, _⟩ := List.getElem?_eq_some_iff.mp h; exact q
    exact ⟨ys[j]'(by omega), List.getElem?_eq_getElem (by omega)⟩
def absD (d : D) : D := match d with
  | .int i => .int (if i < 0 then -i else i)
  | d => d
theorem cut63 {xs : List D} (h : xs.length ≤ 63) : cutD xs none (some 63) = xs := cutD_whole ⟨rfl, by
  show min (63 : Nat) xs.length = xs.length
  omega⟩
theorem k_p6 : (10 : Int) ^ (Int.toNat 6) = 1000000 := rfl
theorem k_p16 : (10 : Int) ^ (Int.toNat 16) = 10000000000000000 := rfl
theorem k_p17 : (10 : Int) ^ (Int.toNat 17) = 100000000000000000 := rfl
theorem k_p18 : (10 : Int) ^ (Int.toNat 18) = 1000000000000000000 := rfl
theorem k_p30 : (10 : Int) ^ (Int.toNat 30) = 1000000000000000000000000000000 := rfl
theorem k_nt : (!true) = false := rfl
theorem k_nf : (!false) = true := rfl
theorem k_at {b : Bool} : (b && true) = b := by cases b <;> rfl
theorem k_ta {b : Bool} : (true && b) = b := rfl
theorem k_fa {b : Bool} : (false && b) = false := rfl
theorem k_to {b : Bool} : (true || b) = true := rfl
theorem k_fo {b : Bool} : (false || b) = b := rfl
theorem filt_true {α : Type} (xs : List α) : xs.filter (fun _ => true) = xs := List.filter_eq_self.mpr fun _ _ => rfl
theorem at_int {cs : List Int} {i : Int} (h : 0 ≤ i) (h2 : i < (cs.map D.int).length) : ∃ c, c ∈ cs ∧ atI (cs.map D.int) i = some (.int c) := by
  rw [List.length_map] at h2
  have hn : i.toNat < cs.length := by omega
  exact ⟨cs[i.toNat], List.getElem_mem hn, atI_of (n := i.toNat) (by omega) (by rw [List.getElem?_map, List.getElem?_eq_getElem hn]; rfl)⟩
theorem exm_ref {K : PySem.W.Frag} {y C : Addr} {b : Bool} (hb : PySem.W.subIn K (.ref C) (.type "BaseException") = some true) (hd : PySem.W.hasDictIn K C = true) (ht : PySem.W.typeIn K (.ref C) = some (.type "type")) (xs : PySem.W.subIn K (.ref y) (.ref C) = some b) : PySem.W.exmOne K (.ref y) (.ref C) = some b := by
  have h : (PySem.W.clsIn K C).isSome = true := by
    unfold PySem.W.hasDictIn at hd
    cases e : PySem.W.clsIn K C with
    | none => rw [e] at hd; cases hd
    | some c => rfl
  unfold PySem.W.exmOne
  rw [hb, if_pos (by decide)]
  unfold PySem.W.kitCls
  simp only [h, ht]
  rw [if_pos (by decide)]
  exact xs
end DP

/-! disks, and the laws' books of them -/
namespace DP
open PySem L2
theorem inS_sign {c : Nat} {z : Str} : inS ⟨#[c]⟩ z = decide (c ∈ z.cps.toList) := PySem.StrLaws.found_one z c
abbrev abc : Str := "abcdefghijklmnopqrstuvwxyz"
def lowB (s : Str) : Bool := s.cps.toList.all fun c => inS ⟨#[c]⟩ abc
def lotB (m : Int) : Int → List Int → Bool
  | _, [] => true
  | a, n :: r => (decide (a + 1 ≤ n) && decide (n ≤ m - 1)) && lotB m n r
def itemB : D → Bool
  | .str s => decide ((s.length : Int) ≤ 12) && lowB s
  | .int i => decide (-1000000000000000000000000000000 ≤ i) && decide (i ≤ 1000000000000000000000000000000)
  | _ => false
def itemsB (x : D) (m : Int) : Bool := match x with
  | .tup xs => decide ((xs.length : Int) ≤ m) && xs.all itemB
  | _ => false
/-- a value whose kind is known, a text not too long -/
def OkI (S : SS) (y : D) : Prop := Kn S y ∧ ∀ s, y = .str s → s.length ≤ sizeLine
theorem Kn.ext {S S' : SS} {x : D} (h : Kn S x) (e : ∀ a o, S a = some o → S' a = some o) : Kn S' x := by
  cases x with
  | ref a =>
    unfold Kn tyN at *
    dsimp only at *
    cases h1 : S a with
    | none => rw [h1] at h; cases h
    | some o => rw [h1] at h; rw [e a o h1]; exact h
  | _ => exact h
theorem OkI.ext {S S' : SS} {x : D} (h : OkI S x) (e : ∀ a o, S a = some o → S' a = some o) : OkI S' x := ⟨h.1.ext e, h.2⟩
structure DM where
  ly : List D
  wa : List (Key × D)
  po : D
  re : Int
def fsD (l w : Addr) (po : D) (re : Int) : List (Str × D) := [("kept_lying", .ref l), ("kept_waiting", .ref w), ("kept_power", po), ("kept_reached", .int re)]
def bkD (l w : Addr) (po : D) (re : Int) : List (Key × D) := [(.inr "lying", .ref l), (.inr "waits", .ref w), (.inr "power", po), (.inr "reached", .int re)]
section
variable {l w l' w' : Addr} {po po' : D} {re re' : Int}
theorem lk_l : (fsD l w po re).lookup ("kept_lying" : Str) = some (.ref l) := rfl
theorem lk_w : (fsD l w po re).lookup ("kept_waiting" : Str) = some (.ref w) := by kernel_rfl
theorem lk_p : (fsD l w po re).lookup ("kept_power" : Str) = some po := by kernel_rfl
theorem lk_r : (fsD l w po re).lookup ("kept_reached" : Str) = some (.int re) := by kernel_rfl
theorem pt_w : putD' ("kept_waiting" : Str) (.ref w') (fsD l w po re) = fsD l w' po re := by kernel_rfl
theorem pt_p : putD' ("kept_power" : Str) po' (fsD l w po re) = fsD l w po' re := by kernel_rfl
theorem pt_r : putD' ("kept_reached" : Str) (.int re') (fsD l w po re) = fsD l w po re' := by kernel_rfl
theorem pt_n : putD' ("kept_reached" : Str) (.int re) (putD' ("kept_power" : Str) po (putD' ("kept_waiting" : Str) (.ref w) (putD' ("kept_lying" : Str) (.ref l) []))) = fsD l w po re := by kernel_rfl
theorem gk_l : getK (bkD l w po re) (.inr ("lying" : Str)) = some (.ref l) := by kernel_rfl
theorem gk_w : getK (bkD l w po re) (.inr ("waits" : Str)) = some (.ref w) := by kernel_rfl
theorem gk_p : getK (bkD l w po re) (.inr ("power" : Str)) = some po := by kernel_rfl
theorem gk_r : getK (bkD l w po re) (.inr ("reached" : Str)) = some (.int re) := by kernel_rfl
theorem pk_w : putD (bkD l w po re) (.inr ("waits" : Str)) (.ref w') = bkD l w' po re := by kernel_rfl
theorem pk_p : putD (bkD l w po re) (.inr ("power" : Str)) po' = bkD l w po' re := by kernel_rfl
theorem pk_r : putD (bkD l w po re) (.inr ("reached" : Str)) (.int re') = bkD l w po re' := by kernel_rfl
end
def DiskAt (C : Addr) (S : SS) (p l w : Addr) (d : DM) : Prop := S p = some (.ins C (fsD l w d.po d.re)) ∧ S l = some (.lst d.ly) ∧ S w = some (.dk d.wa)
def BookAt (S : SS) (p l w : Addr) (d : DM) : Prop := S p = some (.dk (bkD l w d.po d.re)) ∧ S l = some (.lst d.ly) ∧ S w = some (.dk d.wa) ∧ p ≠ w
/-- what waits, of a key -/
def rowOf (d : DM) (b : Int) : List D := match getK d.wa (.inl b) with
  | some (.fl xs) => xs
  | _ => []
def lenV : D → Nat
  | .fl xs => xs.length
  | _ => 0
def pendL (wa : List (Key × D)) : Nat := (wa.map fun p => lenV p.2).sum
structure WOk (d : DM) : Prop where
  nd : (d.wa.map (·.1)).Nodup
  va : ∀ p ∈ d.wa, ∃ b x xs, p = (.inl b, .fl (x :: xs)) ∧ 0 ≤ b ∧ b < d.ly.length
  pw : d.po = .non ∨ ∃ k, d.po = .int k ∧ 0 ≤ k
  sm : pendL d.wa ≤ 100000
  ln : d.ly.length ≤ 1000
def lessP : D → D
  | .int k => .int (k - 1)
  | x => x
def stuckB (d : DM) : Bool := match d.po with
  | .int k => decide (k = 0)
  | _ => false
def DM.step (d : DM) (b : Int) : DM := match rowOf d b with
  | x :: xs => ⟨d.ly.set b.toNat x, if xs = [] then delK d.wa (.inl b) else putD (delK d.wa (.inl b)) (.inl b) (.fl xs), lessP d.po, d.re + 1⟩
  | [] => d
def DM.write (d : DM) (b : Int) (x : D) : DM := { d with wa := putD d.wa (.inl b) (.fl (rowOf d b ++ [x])) }
/-! pairs by keys -/
section
variable {kvs : List (Key × D)} {k k' : Key} {v : D}
theorem getK_mem (h : getK kvs k = some v) : (k, v) ∈ kvs := by
  unfold getK at h
  cases e : kvs.find? fun p => decide (p.1 = k) with
  | none => rw [e] at h; cases h
  | some p =>
    rw [e] at h; cases h
    have h1 := List.find?_some e
    have h2 := List.mem_of_find?_eq_some e
    rw [← of_decide_eq_true h1]; exact h2
theorem getK_of_mem (nd : (kvs.map (·.1)).Nodup) (h : (k, v) ∈ kvs) : getK kvs k = some v := by
  induction kvs with
  | nil => cases h
  | cons p r ih =>
    obtain ⟨h1, h2⟩ := List.nodup_cons.mp nd
    unfold getK at *
    rw [List.find?_cons]
    rcases List.mem_cons.mp h with rfl | h
    · simp
    · have : p.1 ≠ k := fun e => h1 (by dsimp only; rw [e]; exact List.mem_map.mpr ⟨_, h, rfl⟩)
      rw [decide_eq_false this]; exact ih h2 h
theorem delK_keys : (delK kvs k).map (·.1) = (kvs.map (·.1)).filter fun x => decide (x ≠ k) := by
  unfold delK; rw [List.filter_map]; rfl
theorem delK_mem {p : Key × D} : p ∈ delK kvs k ↔ p ∈ kvs ∧ p.1 ≠ k := by unfold delK; rw [List.mem_filter, decide_eq_true_iff]
theorem delK_nd (nd : (kvs.map (·.1)).Nodup) : ((delK kvs k).map (·.1)).Nodup := by rw [delK_keys]; exact nd.filter _
theorem hasK_iff : hasK kvs k = true ↔ k ∈ kvs.map (·.1) := by
  unfold hasK
  rw [List.any_eq_true, List.mem_map]
  exact exists_congr fun p => and_congr Iff.rfl decide_eq_true_iff
theorem delK_out : k ∉ (delK kvs k).map (·.1) := by rw [delK_keys, List.mem_filter]; simp
theorem putD_new (h : k ∉ kvs.map (·.1)) : putD kvs k v = kvs ++ [(k, v)] := by
  unfold putD
  rw [if_neg]
  rw [List.any_eq_true]
  rintro ⟨p, hp, e⟩
  exact h (List.mem_map.mpr ⟨p, hp, of_decide_eq_true e⟩)
theorem pend_del {xs : List D} (nd : (kvs.map (·.1)).Nodup) (h : (k, .fl xs) ∈ kvs) : pendL (delK kvs k) + xs.length = pendL kvs := by
  induction kvs with
  | nil => cases h
  | cons p r ih =>
    obtain ⟨h1, h2⟩ := List.nodup_cons.mp nd
    have e0 : pendL (p :: r) = lenV p.2 + pendL r := rfl
    rcases List.mem_cons.mp h with rfl | h
    · have e1 : delK ((k, D.fl xs) :: r) k = r := by
        unfold delK
        rw [List.filter_cons, if_neg (by simp)]
        exact List.filter_eq_self.mpr fun q hq => decide_eq_true fun e => h1 (by rw [← e]; exact List.mem_map.mpr ⟨q, hq, rfl⟩)
      rw [e1, e0]; show pendL r + xs.length = xs.length + pendL r; omega
    · have : p.1 ≠ k := fun e => h1 (by dsimp only; rw [e]; exact List.mem_map.mpr ⟨_, h, rfl⟩)
      have e1 : delK (p :: r) k = p :: delK r k := by unfold delK; rw [List.filter_cons, if_pos (decide_eq_true this)]
      have e2 : pendL (p :: delK r k) = lenV p.2 + pendL (delK r k) := rfl
      have := ih h2 h
      rw [e1, e0, e2]; omega
theorem pend_app {a b : List (Key × D)} : pendL (a ++ b) = pendL a + pendL b := by unfold pendL; rw [List.map_append, List.sum_append]
end
/-- a key with its row -/
theorem WOk.row {d : DM} {b : Int} (k : WOk d) (h : hasK d.wa (.inl b) = true) : ∃ x xs, getK d.wa (.inl b) = some (.fl (x :: xs)) ∧ rowOf d b = x :: xs ∧ (.inl b, .fl (x :: xs)) ∈ d.wa ∧ 0 ≤ b ∧ b < d.ly.length := by
  obtain ⟨p, hp, e⟩ := List.mem_map.mp (hasK_iff.mp h)
  obtain ⟨b', x, xs, rfl, h1, h2⟩ := k.va p hp
  cases e
  have e := getK_of_mem k.nd hp
  exact ⟨x, xs, e, by unfold rowOf; rw [e], hp, h1, h2⟩
theorem rowOf_none {d : DM} {b : Int} (h : ¬ hasK d.wa (.inl b) = true) : rowOf d b = [] := by
  have e : getK d.wa (.inl b) = none := by
    rw [← Option.not_isSome_iff_eq_none, getK_has]; exact h
  unfold rowOf; rw [e]
theorem WOk.step {d : DM} {b : Int} (k : WOk d) (h : hasK d.wa (.inl b) = true) (hs : stuckB d = false) : WOk (d.step b) ∧ pendL (d.step b).wa + 1 = pendL d.wa ∧ (d.step b).ly.length = d.ly.length := by
  obtain ⟨x, xs, e1, e2, e3, e4, e5⟩ := k.row h
  have pd := pend_del k.nd e3
  have hl : (d.step b).ly.length = d.ly.length := by unfold DM.step; rw [e2]; exact List.length_set
  have hw : (d.step b).wa = if xs = [] then delK d.wa (.inl b) else putD (delK d.wa (.inl b)) (.inl b) (.fl xs) := by unfold DM.step; rw [e2]
  have hp : (d.step b).po = lessP d.po := by unfold DM.step; rw [e2]
  have pe : pendL (d.step b).wa + 1 = pendL d.wa := by
    rw [hw]
    cases xs with
    | nil => rw [if_pos rfl]; simpa using pd
    | cons y ys =>
      rw [if_neg (by simp), putD_new delK_out, pend_app]
      have : pendL [((Sum.inl b : Key), D.fl (y :: ys))] = (y :: ys).length := rfl
      rw [this]; simp only [List.length_cons] at pd ⊢; omega
  refine ⟨⟨?_, fun p hp' => ?_, ?_, by have := k.sm; omega, by rw [hl]; exact k.ln⟩, pe, hl⟩
  · rw [hw]
    split
    · exact delK_nd k.nd
    · rw [putD_new delK_out, List.map_append]
      exact List.nodup_append.mpr ⟨delK_nd k.nd, List.nodup_cons.mpr ⟨by simp, List.nodup_nil⟩, fun a ha c hc => by
        rw [List.map_cons, List.map_nil, List.mem_singleton] at hc
        subst hc
        intro e; subst e; exact delK_out ha⟩
  · rw [hl]
    rw [hw] at hp'
    split at hp'
    · exact k.va p (delK_mem.mp hp').1
    · rename_i hx
      rw [putD_new delK_out] at hp'
      rcases List.mem_append.mp hp' with hp' | hp'
      · exact k.va p (delK_mem.mp hp').1
      · rw [List.mem_singleton] at hp'
        obtain ⟨y, ys, rfl⟩ : ∃ y ys, xs = y :: ys := List.exists_cons_of_ne_nil hx
        exact ⟨b, y, ys, hp', e4, e5⟩
  · rw [hp]
    rcases k.pw with e | ⟨j, e, hj⟩
    · rw [e]; exact .inl rfl
    · rw [e]
      unfold stuckB at hs
      rw [e] at hs
      have := of_decide_eq_false hs
      exact .inr ⟨j - 1, rfl, by omega⟩
/-- all that waits for a block: as far as there is power -/
def runB : Nat → DM → Int → Bool × DM
  | 0, d, _ => (true, d)
  | n + 1, d, b => if hasK d.wa (.inl b) = true then (if stuckB d = true then (false, d) else runB n (d.step b) b) else (true, d)
def forceM : DM → List Int → Bool × DM
  | d, [] => (true, d)
  | d, b :: r => if (runB (pendL d.wa) d b).1 = true then forceM (runB (pendL d.wa) d b).2 r else (false, (runB (pendL d.wa) d b).2)
theorem has_pend {d : DM} {b : Int} (k : WOk d) (h : hasK d.wa (.inl b) = true) : 0 < pendL d.wa := by
  obtain ⟨x, xs, _, _, e3, _, _⟩ := k.row h
  have := pend_del k.nd e3
  simp only [List.length_cons] at this
  omega
/-- one turn of the loop -/
theorem runB_more {d : DM} {b : Int} (k : WOk d) (h : hasK d.wa (.inl b) = true) (hs : stuckB d = false) : runB (pendL d.wa) d b = runB (pendL (d.step b).wa) (d.step b) b := by
  have e := (k.step h hs).2.1
  rw [← e]
  show (if hasK d.wa (.inl b) = true then (if stuckB d = true then (false, d) else runB (pendL (d.step b).wa) (d.step b) b) else (true, d)) = _
  rw [if_pos h, if_neg (by rw [hs]; exact Bool.false_ne_true)]
theorem runB_stuck {d : DM} {b : Int} (k : WOk d) (h : hasK d.wa (.inl b) = true) (hs : stuckB d = true) : runB (pendL d.wa) d b = (false, d) := by
  have := has_pend k h
  obtain ⟨n, e⟩ : ∃ n, pendL d.wa = n + 1 := ⟨pendL d.wa - 1, by omega⟩
  rw [e]
  show (if hasK d.wa (.inl b) = true then (if stuckB d = true then (false, d) else _) else _) = _
  rw [if_pos h, if_pos hs]
theorem runB_end {d : DM} {b : Int} (h : ¬ hasK d.wa (.inl b) = true) : runB (pendL d.wa) d b = (true, d) := by
  cases pendL d.wa with
  | zero => rfl
  | succ n => show (if hasK d.wa (.inl b) = true then _ else _) = _; rw [if_neg h]
theorem runB_ok {b : Int} : ∀ {n : Nat} {d : DM}, WOk d → WOk (runB n d b).2 ∧ (runB n d b).2.ly.length = d.ly.length
  | 0, d, k => ⟨k, rfl⟩
  | n + 1, d, k => by
    have e : runB (n + 1) d b = if hasK d.wa (.inl b) = true then (if stuckB d = true then (false, d) else runB n (d.step b) b) else (true, d) := rfl
    rw [e]
    by_cases h : hasK d.wa (.inl b) = true
    · rw [if_pos h]
      by_cases hs : stuckB d = true
      · rw [if_pos hs]; exact ⟨k, rfl⟩
      · rw [if_neg hs]
        obtain ⟨k1, _, k3⟩ := k.step h (by simpa using hs)
        obtain ⟨k4, k5⟩ := runB_ok (n := n) k1
        exact ⟨k4, k5.trans k3⟩
    · rw [if_neg h]; exact ⟨k, rfl⟩
theorem forceM_ok : ∀ {bs : List Int} {d : DM}, WOk d → WOk (forceM d bs).2 ∧ (forceM d bs).2.ly.length = d.ly.length
  | [], d, k => ⟨k, rfl⟩
  | b :: r, d, k => by
    obtain ⟨k1, k2⟩ := runB_ok (n := pendL d.wa) (b := b) k
    have e : forceM d (b :: r) = if (runB (pendL d.wa) d b).1 = true then forceM (runB (pendL d.wa) d b).2 r else (false, (runB (pendL d.wa) d b).2) := rfl
    rw [e]
    by_cases h : (runB (pendL d.wa) d b).1 = true
    · rw [if_pos h]
      obtain ⟨k3, k4⟩ := forceM_ok (bs := r) k1
      exact ⟨k3, k4.trans k2⟩
    · rw [if_neg h]; exact ⟨k1, k2⟩
theorem keys_len {d : DM} (k : WOk d) : d.wa.length ≤ pendL d.wa := by
  have key : ∀ l : List (Key × D), (∀ p ∈ l, 1 ≤ lenV p.2) → l.length ≤ pendL l := fun l => by
    induction l with
    | nil => intro _; exact Nat.le_refl _
    | cons p r ih =>
      intro h
      have h1 := h p List.mem_cons_self
      have h2 := ih fun q hq => h q (List.mem_cons_of_mem _ hq)
      have e : pendL (p :: r) = lenV p.2 + pendL r := rfl
      rw [e, List.length_cons]; omega
  refine key _ fun p hp => ?_
  obtain ⟨b, x, xs, rfl, _, _⟩ := k.va p hp
  show 1 ≤ (x :: xs).length
  simp
theorem row_len {d : DM} {b : Int} (k : WOk d) : (rowOf d b).length ≤ pendL d.wa := by
  by_cases h : hasK d.wa (.inl b) = true
  · obtain ⟨x, xs, _, e2, e3, _, _⟩ := k.row h
    have := pend_del k.nd e3
    rw [e2]; omega
  · rw [rowOf_none h]; simp
theorem getK_row {d : DM} {b : Int} (k : WOk d) : (getK d.wa (.inl b)).getD (.fl []) = .fl (rowOf d b) := by
  by_cases h : hasK d.wa (.inl b) = true
  · obtain ⟨x, xs, e1, e2, _, _, _⟩ := k.row h
    rw [e1, e2]; rfl
  · have e : getK d.wa (.inl b) = none := by rw [← Option.not_isSome_iff_eq_none, getK_has]; exact h
    rw [rowOf_none h, e]; rfl
theorem pend_put {kvs : List (Key × D)} {k : Key} {xs ys : List D} (nd : (kvs.map (·.1)).Nodup) (h : (k, D.fl xs) ∈ kvs) : pendL (putD kvs k (.fl ys)) + xs.length = pendL kvs + ys.length := by
  have e : putD kvs k (.fl ys) = kvs.map fun kv => if kv.1 = k then (kv.1, .fl ys) else kv := by
    unfold putD
    rw [if_pos]
    rw [List.any_eq_true]
    exact ⟨_, h, decide_eq_true rfl⟩
  rw [e]
  clear e
  induction kvs with
  | nil => cases h
  | cons p r ih =>
    obtain ⟨h1, h2⟩ := List.nodup_cons.mp nd
    have e0 : ∀ (p : Key × D) r, pendL (p :: r) = lenV p.2 + pendL r := fun _ _ => rfl
    rw [List.map_cons, e0, e0]
    rcases List.mem_cons.mp h with rfl | h
    · have e1 : (r.map fun kv => if kv.1 = k then (kv.1, D.fl ys) else kv) = r := by
        conv => rhs; rw [← List.map_id r]
        refine List.map_congr_left fun q hq => ?_
        rw [if_neg]; rfl
        intro e; exact h1 (by dsimp only; rw [← e]; exact List.mem_map.mpr ⟨q, hq, rfl⟩)
      rw [e1, if_pos rfl]
      show ys.length + pendL r + xs.length = xs.length + pendL r + ys.length
      omega
    · have : p.1 ≠ k := fun e => h1 (by dsimp only; rw [e]; exact List.mem_map.mpr ⟨_, h, rfl⟩)
      rw [if_neg this]
      have := ih h2 h
      omega
theorem write_ok {d : DM} {b : Int} {x : D} (k : WOk d) (h1 : 0 ≤ b) (h2 : b < d.ly.length) (h3 : pendL d.wa < 100000) : WOk (d.write b x) ∧ pendL (d.write b x).wa = pendL d.wa + 1 ∧ (d.write b x).ly.length = d.ly.length ∧ (d.write b x).po = d.po ∧ (d.write b x).re = d.re := by
  have pe : pendL (d.write b x).wa = pendL d.wa + 1 := by
    by_cases h : hasK d.wa (.inl b) = true
    · obtain ⟨y, ys, e1, e2, e3, _, _⟩ := k.row h
      have := pend_put (ys := rowOf d b ++ [x]) k.nd e3
      rw [e2] at this
      show pendL (putD d.wa (.inl b) (.fl (rowOf d b ++ [x]))) = _
      rw [e2]
      simp only [List.length_append, List.length_cons, List.length_nil] at this
      omega
    · show pendL (putD d.wa (.inl b) (.fl (rowOf d b ++ [x]))) = _
      rw [putD_new (fun hm => h (hasK_iff.mpr hm)), pend_app, rowOf_none h]
      rfl
  refine ⟨⟨?_, fun p hp => ?_, k.pw, by omega, k.ln⟩, pe, rfl, rfl, rfl⟩
  · by_cases h : hasK d.wa (.inl b) = true
    · show ((putD d.wa (.inl b) _).map (·.1)).Nodup
      rw [putD_in (hasK_iff.mp h)]; exact k.nd
    · show ((putD d.wa (.inl b) _).map (·.1)).Nodup
      rw [putD_out (fun hm => h (hasK_iff.mpr hm))]
      refine List.nodup_append.mpr ⟨k.nd, List.nodup_cons.mpr ⟨by simp, List.nodup_nil⟩, fun a ha c hc => ?_⟩
      rw [List.mem_singleton] at hc
      subst hc
      intro e; subst e; exact h (hasK_iff.mpr ha)
  · have hp' : p ∈ putD d.wa (.inl b) (.fl (rowOf d b ++ [x])) := hp
    have hne : ∃ y ys, rowOf d b ++ [x] = y :: ys := by cases rowOf d b with
      | nil => exact ⟨x, [], rfl⟩
      | cons y ys => exact ⟨y, ys ++ [x], rfl⟩
    obtain ⟨y, ys, e⟩ := hne
    unfold putD at hp'
    split at hp'
    · obtain ⟨q, hq, rfl⟩ := List.mem_map.mp hp'
      by_cases hk : q.1 = .inl b
      · rw [if_pos hk, hk, e]; exact ⟨b, y, ys, rfl, h1, h2⟩
      · rw [if_neg hk]; exact k.va q hq
    · rcases List.mem_append.mp hp' with hp' | hp'
      · exact k.va p hp'
      · rw [List.mem_singleton] at hp'
        rw [hp', e]; exact ⟨b, y, ys, rfl, h1, h2⟩
/-- what is read -/
def DM.read (d : DM) (b : Int) : D := if hasK d.wa (.inl b) = true then (rowOf d b).getLastD .non else (d.ly[b.toNat]?).getD .non
theorem atI_last {xs : List D} (h : xs ≠ []) : atI xs (-1) = some (xs.getLastD .non) := by
  have hl : 0 < xs.length := List.length_pos_iff.mpr h
  unfold atI ixN
  rw [if_neg (by omega), if_pos (by omega)]
  have e : ((-1 : Int) + (xs.length : Int)).toNat = xs.length - 1 := by omega
  show xs[((-1 : Int) + (xs.length : Int)).toNat]? = _
  rw [e, ← List.getLast?_eq_getElem?]
  cases xs with
  | nil => exact absurd rfl h
  | cons x r => rfl
theorem atI_ly {xs : List D} {b : Int} (h1 : 0 ≤ b) (h2 : b < xs.length) : atI xs b = some ((xs[b.toNat]?).getD .non) := by
  have hn : b.toNat < xs.length := by omega
  exact atI_of (n := b.toNat) (by omega) (by rw [List.getElem?_eq_getElem hn]; rfl)
theorem ixN_in {n : Nat} {b : Int} (h1 : 0 ≤ b) (h2 : b < n) : ixN n b = some b.toNat := by unfold ixN; rw [if_pos h1, if_pos h2]
theorem cut1 {x : D} {xs : List D} : cutD (x :: xs) (some 1) none = xs := by
  unfold cutD
  have e1 : HT.sIx (x :: xs).length 0 (some 1) = 1 := by
    show min (1 : Nat) (xs.length + 1) = 1
    omega
  have e2 : HT.sIx (x :: xs).length (x :: xs).length none = (x :: xs).length := rfl
  rw [e1, e2, List.drop_one, List.tail_cons, List.length_cons, Nat.add_sub_cancel, List.take_length]
theorem DiskAt.w {C : Addr} {S : SS} {p l w : Addr} {d : DM} {wa : List (Key × D)} (h : DiskAt C S p l w d) : DiskAt C (sup S w (.dk wa)) p l w ⟨d.ly, wa, d.po, d.re⟩ := by
  obtain ⟨h1, h2, h3⟩ := h
  exact ⟨by rw [sup_ne (fun e => by rw [e, h3] at h1; cases h1)]; exact h1, by rw [sup_ne (fun e => by rw [e, h3] at h2; cases h2)]; exact h2, sup_same⟩
theorem DiskAt.l {C : Addr} {S : SS} {p l w : Addr} {d : DM} {ly : List D} (h : DiskAt C S p l w d) : DiskAt C (sup S l (.lst ly)) p l w ⟨ly, d.wa, d.po, d.re⟩ := by
  obtain ⟨h1, h2, h3⟩ := h
  exact ⟨by rw [sup_ne (fun e => by rw [e, h2] at h1; cases h1)]; exact h1, sup_same, by rw [sup_ne (fun e => by rw [e, h2] at h3; cases h3)]; exact h3⟩
theorem DiskAt.p {C : Addr} {S : SS} {p l w : Addr} {d : DM} {po : D} {re : Int} (h : DiskAt C S p l w d) : DiskAt C (sup S p (.ins C (fsD l w po re))) p l w ⟨d.ly, d.wa, po, re⟩ := by
  obtain ⟨h1, h2, h3⟩ := h
  exact ⟨sup_same, by rw [sup_ne (fun e => by rw [e, h1] at h2; cases h2)]; exact h2, by rw [sup_ne (fun e => by rw [e, h1] at h3; cases h3)]; exact h3⟩
theorem DiskAt.ne {C : Addr} {S : SS} {p l w : Addr} {d : DM} (h : DiskAt C S p l w d) : (p ≠ l ∧ p ≠ w ∧ l ≠ w) ∧ (l ≠ p ∧ w ≠ p ∧ w ≠ l) := by
  obtain ⟨h1, h2, h3⟩ := h
  have a1 : p ≠ l := fun e => by rw [e, h2] at h1; cases h1
  have a2 : p ≠ w := fun e => by rw [e, h3] at h1; cases h1
  have a3 : l ≠ w := fun e => by rw [e, h3] at h2; cases h2
  exact ⟨⟨a1, a2, a3⟩, a1.symm, a2.symm, a3.symm⟩
theorem pn1 {x : D} : putD' ("kept_lying" : Str) x [] = [(("kept_lying" : Str), x)] := rfl
theorem pn2 {x y : D} : putD' ("kept_waiting" : Str) y [(("kept_lying" : Str), x)] = [(("kept_lying" : Str), x), (("kept_waiting" : Str), y)] := by kernel_rfl
theorem pn3 {x y z : D} : putD' ("kept_power" : Str) z [(("kept_lying" : Str), x), (("kept_waiting" : Str), y)] = [(("kept_lying" : Str), x), (("kept_waiting" : Str), y), (("kept_power" : Str), z)] := by kernel_rfl
theorem pn4 {l w : Addr} {z : D} {i : Int} : putD' ("kept_reached" : Str) (.int i) [(("kept_lying" : Str), .ref l), (("kept_waiting" : Str), .ref w), (("kept_power" : Str), z)] = fsD l w z i := by kernel_rfl
theorem DiskAt.mk {C : Addr} {S : SS} {p l w : Addr} {d : DM} {ly : List D} {wa : List (Key × D)} {po : D} {re : Int} (h1 : S p = some (.ins C (fsD l w po re))) (h2 : S l = some (.lst ly)) (h3 : S w = some (.dk wa)) (e : d = ⟨ly, wa, po, re⟩) : DiskAt C S p l w d := by subst e; exact ⟨h1, h2, h3⟩
theorem atI_zero {α : Type} {x : α} {xs : List α} : atI (x :: xs) 0 = some x := atI_of (n := 0) rfl rfl
/-! the blocks that wait, sorted -/
def keyI (p : Key × D) : Int := match p.1 with
  | .inl i => i
  | .inr _ => 0
def DM.keys (d : DM) : List Int := (d.wa.map keyI).mergeSort fun a b => decide (a ≤ b)
theorem WOk.keysI {d : DM} (k : WOk d) : d.wa.map (·.1) = (d.wa.map keyI).map Sum.inl := by
  rw [List.map_map]
  refine List.map_congr_left fun p hp => ?_
  obtain ⟨b, x, xs, rfl, _, _⟩ := k.va p hp
  rfl
theorem WOk.keysNd {d : DM} (k : WOk d) : (d.wa.map keyI).Nodup := by
  have h := k.nd
  rw [k.keysI] at h
  exact (List.pairwise_map.mp h).imp fun h e => h (congrArg _ e)
theorem sorted_is {ms ns : List Int} (h1 : ms.Perm ns) (h2 : ms.Pairwise (· ≤ ·)) : ms = ns.mergeSort fun a b => decide (a ≤ b) := by
  have p := List.mergeSort_perm ns fun a b => decide (a ≤ b)
  have q := List.pairwise_mergeSort (le := fun (a b : Int) => decide (a ≤ b)) (fun a b c h1 h2 => decide_eq_true (Int.le_trans (of_decide_eq_true h1) (of_decide_eq_true h2))) (fun a b => by
    rw [Bool.or_eq_true, decide_eq_true_iff, decide_eq_true_iff]; omega) ns
  exact List.Perm.eq_of_pairwise (le := (· ≤ ·)) (fun a b _ _ => Int.le_antisymm) h2 (q.imp fun h => of_decide_eq_true h) (h1.trans p.symm)
theorem lot_of {m : Int} : ∀ {ms : List Int} {a : Int}, ms.Pairwise (· < ·) → (∀ k ∈ ms, a < k ∧ k < m) → lotB m a ms = true
  | [], a, _, _ => rfl
  | n :: r, a, h, hk => by
    obtain ⟨h1, h2⟩ := List.pairwise_cons.mp h
    obtain ⟨h3, h4⟩ := hk n List.mem_cons_self
    have e : lotB m a (n :: r) = ((decide (a + 1 ≤ n) && decide (n ≤ m - 1)) && lotB m n r) := rfl
    rw [e, decide_eq_true (by omega), decide_eq_true (by omega), lot_of h2 fun k hkr => ⟨h1 k hkr, (hk k (List.mem_cons_of_mem _ hkr)).2⟩]
    rfl
theorem lt_of_nd : ∀ {l : List Int}, l.Pairwise (· ≤ ·) → l.Nodup → l.Pairwise (· < ·)
  | [], _, _ => List.Pairwise.nil
  | x :: l, h, d => by
    obtain ⟨h1, h2⟩ := List.pairwise_cons.mp h
    obtain ⟨d1, d2⟩ := List.nodup_cons.mp d
    refine List.pairwise_cons.mpr ⟨fun y hy => ?_, lt_of_nd h2 d2⟩
    have a := h1 y hy
    have b : x ≠ y := fun z => d1 (z ▸ hy)
    omega
theorem WOk.sorted {d : DM} (k : WOk d) {ms : List Int} (h1 : ms.Perm (d.wa.map keyI)) (h2 : ms.Pairwise (· ≤ ·)) : ms = d.keys ∧ lotB d.ly.length (-1) ms = true :=
  ⟨sorted_is h1 h2, lot_of (lt_of_nd h2 (h1.nodup_iff.mpr k.keysNd)) fun i hi => by
    obtain ⟨p, hp, rfl⟩ := List.mem_map.mp (h1.mem_iff.mp hi)
    obtain ⟨b, x, xs, rfl, h3, h4⟩ := k.va p hp
    exact ⟨by show -1 < b; omega, h4⟩⟩
theorem keys_few {d : DM} (k : WOk d) (h : d.ly.length < 64) : (d.wa.map keyI).length < 64 := by
  have h1 : (d.wa.map keyI).length ≤ d.ly.length := by
    have e : (d.wa.map keyI).map Int.toNat ⊆ List.range d.ly.length := fun i hi => by
      obtain ⟨j, hj, rfl⟩ := List.mem_map.mp hi
      obtain ⟨p, hp, rfl⟩ := List.mem_map.mp hj
      obtain ⟨b, x, xs, rfl, h3, h4⟩ := k.va p hp
      exact List.mem_range.mpr (by show b.toNat < _; omega)
    have nd : ((d.wa.map keyI).map Int.toNat).Nodup := by
      have nk := k.keysNd
      have hp : ∀ i ∈ d.wa.map keyI, 0 ≤ i := fun i hi => by
        obtain ⟨p, hp, rfl⟩ := List.mem_map.mp hi
        obtain ⟨b, x, xs, rfl, h3, h4⟩ := k.va p hp
        exact h3
      have key : ∀ l : List Int, l.Nodup → (∀ i ∈ l, 0 ≤ i) → (l.map Int.toNat).Nodup := fun l => by
        induction l with
        | nil => intro _ _; exact List.nodup_nil
        | cons a r ih =>
          intro h1 h2
          obtain ⟨h3, h4⟩ := List.nodup_cons.mp h1
          rw [List.map_cons]
          refine List.nodup_cons.mpr ⟨fun hm => ?_, ih h4 fun i hi => h2 i (List.mem_cons_of_mem _ hi)⟩
          obtain ⟨j, hj, e⟩ := List.mem_map.mp hm
          have h5 := h2 a List.mem_cons_self
          have h6 := h2 j (List.mem_cons_of_mem _ hj)
          exact h3 (by rw [show a = j by omega]; exact hj)
      exact key _ nk hp
    have := nd.length_le_of_subset e
    rw [List.length_range, List.length_map] at this
    exact this
  omega
theorem Fr.back {S S' : SS} {fp : List Addr} {w : Addr} {o : MO} (g : Fr (w :: fp) S S') (h : S w = some o) : Fr fp S (sup S' w o) := fun z u e n => by
  by_cases hz : z = w
  · rw [hz, sup_same, ← e, hz, h]
  · rw [sup_ne hz]; exact g z u e fun m => by
      rcases List.mem_cons.mp m with m | m
      · exact hz m
      · exact n m
theorem m_sortD {S : SS} {a : Addr} {kvs : List (Key × D)} {ns : List Int} {Q : D → SS → Prop} (h : S a = some (.dk kvs)) (e : kvs.map (·.1) = ns.map Sum.inl) (hl : ns.length < 64) (q : ∀ ms : List Int, ms.Perm ns → ms.Pairwise (· ≤ ·) → Q (.fl (ms.map .int)) S) : rSorted (.ref a) S Q := .inr (.inl ⟨a, kvs, ns, rfl, h, e, hl, q⟩)
end DP

/-! contents of blocks; books; rows of steps -/
namespace DP
open PySem L2
def CItem (y : D) : Prop := (∃ i : Int, y = .int i ∧ -1000000000000000000000000000000 ≤ i ∧ i ≤ 1000000000000000000000000000000) ∨ y = .str "" ∨ y = .str "a" ∨ y = .str "abcdefghijkl"
theorem CItem.item {y : D} (h : CItem y) : itemB y = true := by
  rcases h with ⟨i, rfl, h1, h2⟩ | rfl | rfl | rfl
  · show (decide _ && decide _) = true
    rw [decide_eq_true h1, decide_eq_true h2]; rfl
  · decide +kernel
  · decide +kernel
  · decide +kernel
theorem CItem.oki {y : D} {S : SS} (h : CItem y) : OkI S y := by
  rcases h with ⟨i, rfl, h1, h2⟩ | rfl | rfl | rfl
  · exact ⟨rfl, fun s e => by cases e⟩
  · exact ⟨rfl, fun s e => by cases e; rw [sizeLine_eq]; decide +kernel⟩
  · exact ⟨rfl, fun s e => by cases e; rw [sizeLine_eq]; decide +kernel⟩
  · exact ⟨rfl, fun s e => by cases e; rw [sizeLine_eq]; decide +kernel⟩
theorem CItem.lev {n : Nat} {y : D} (h : CItem y) : lev n y := by
  rcases h with ⟨i, rfl, h1, h2⟩ | rfl | rfl | rfl
  · exact lev_int
  · unfold DP.lev; decide +kernel
  · unfold DP.lev; decide +kernel
  · unfold DP.lev; decide +kernel
theorem CItem.nob {y : D} (h : CItem y) : nob y = true := by
  rcases h with ⟨i, rfl, h1, h2⟩ | rfl | rfl | rfl <;> (unfold DP.nob; rfl)
/-- a content -/
def Cnt (x : D) : Prop := ∃ xs, x = .tup xs ∧ xs.length ≤ 40 ∧ ∀ y ∈ xs, CItem y
theorem Cnt.nil : Cnt (.tup []) := ⟨[], rfl, by simp, fun y h => by cases h⟩
theorem Cnt.items {x : D} (h : Cnt x) : itemsB x 40 = true := by
  obtain ⟨xs, rfl, h1, h2⟩ := h
  show (decide ((xs.length : Int) ≤ 40) && xs.all itemB) = true
  rw [decide_eq_true (by omega), List.all_eq_true.mpr fun y hy => (h2 y hy).item]; rfl
theorem Cnt.kn {x : D} {S : SS} (h : Cnt x) : Kn S x := by obtain ⟨xs, rfl, h1, h2⟩ := h; rfl
theorem Cnt.oki {x : D} {S : SS} (h : Cnt x) : ∀ xs, x = .tup xs → xs.length < sizeLine ∧ ∀ y ∈ xs, OkI S y := by
  obtain ⟨xs, rfl, h1, h2⟩ := h
  intro ys e
  cases e
  exact ⟨by rw [sizeLine_eq]; omega, fun y hy => (h2 y hy).oki⟩
theorem Cnt.shp {x : D} (h : Cnt x) : shp x = true := by
  obtain ⟨xs, rfl, h1, h2⟩ := h
  exact lev_shp (lev_tup fun y hy => (h2 y hy).lev)
theorem Cnt.deq {x : D} (h : Cnt x) : deq x x = true := by
  obtain ⟨xs, rfl, h1, h2⟩ := h
  exact deq_self (by unfold nob; exact nobs_of fun y hy => (h2 y hy).nob)
/-- contents alone -/
structure VOk (d : DM) : Prop where
  ly : ∀ x ∈ d.ly, Cnt x
  wa : ∀ p ∈ d.wa, ∀ xs, p.2 = .fl xs → ∀ x ∈ xs, Cnt x
theorem VOk.row {d : DM} (v : VOk d) (k : WOk d) (b : Int) : ∀ x ∈ rowOf d b, Cnt x := by
  by_cases h : hasK d.wa (.inl b) = true
  · obtain ⟨x, xs, _, e2, e3, _, _⟩ := k.row h
    rw [e2]; exact v.wa _ e3 _ rfl
  · rw [rowOf_none h]; intro x hx; cases hx
theorem VOk.read {d : DM} {b : Int} (v : VOk d) (k : WOk d) (h1 : 0 ≤ b) (h2 : b < d.ly.length) : Cnt (d.read b) := by
  unfold DM.read
  by_cases h : hasK d.wa (.inl b) = true
  · rw [if_pos h]
    obtain ⟨x, xs, _, e2, e3, _, _⟩ := k.row h
    rw [e2]
    refine v.wa _ e3 _ rfl _ ?_
    have e9 : ∀ (l : List D) (z : D), l.getLastD z ∈ z :: l := fun l => by
      induction l with
      | nil => intro z; exact List.mem_cons_self
      | cons a r ih => intro z; rw [List.getLastD_cons]; exact List.mem_cons_of_mem _ (ih a)
    rw [List.getLastD_cons]; exact e9 xs x
  · rw [if_neg h]
    have hn : b.toNat < d.ly.length := by omega
    rw [List.getElem?_eq_getElem hn]
    exact v.ly _ (List.getElem_mem hn)
theorem VOk.lyAt {d : DM} {b : Int} (v : VOk d) (h1 : 0 ≤ b) (h2 : b < d.ly.length) : Cnt ((d.ly[b.toNat]?).getD .non) := by
  have hn : b.toNat < d.ly.length := by omega
  rw [List.getElem?_eq_getElem hn]
  exact v.ly _ (List.getElem_mem hn)
theorem VOk.step {d : DM} {b : Int} (v : VOk d) (k : WOk d) : VOk (d.step b) := by
  unfold DM.step
  cases e : rowOf d b with
  | nil => exact v
  | cons x xs =>
    have hr := v.row k b
    rw [e] at hr
    refine ⟨fun y hy => ?_, fun p hp ys ey y hy => ?_⟩
    · rcases List.mem_or_eq_of_mem_set hy with h | h
      · exact v.ly y h
      · rw [h]; exact hr x List.mem_cons_self
    · dsimp only at hp
      split at hp
      · exact v.wa p (delK_mem.mp hp).1 ys ey y hy
      · rw [putD_new delK_out] at hp
        rcases List.mem_append.mp hp with hp | hp
        · exact v.wa p (delK_mem.mp hp).1 ys ey y hy
        · rw [List.mem_singleton] at hp
          subst hp
          cases ey
          exact hr y (List.mem_cons_of_mem _ hy)
theorem VOk.write {d : DM} {b : Int} {x : D} (v : VOk d) (k : WOk d) (c : Cnt x) : VOk (d.write b x) := by
  refine ⟨v.ly, fun p hp ys ey y hy => ?_⟩
  have hr := v.row k b
  have hp' : p ∈ putD d.wa (.inl b) (.fl (rowOf d b ++ [x])) := hp
  have key : ∀ z, z ∈ rowOf d b ++ [x] → Cnt z := fun z hz => by
    rcases List.mem_append.mp hz with hz | hz
    · exact hr z hz
    · rw [List.mem_singleton] at hz; rw [hz]; exact c
  unfold putD at hp'
  split at hp'
  · obtain ⟨q, hq, rfl⟩ := List.mem_map.mp hp'
    by_cases hk : q.1 = .inl b
    · rw [if_pos hk] at ey; cases ey; exact key y hy
    · rw [if_neg hk] at ey; exact v.wa q hq ys ey y hy
  · rcases List.mem_append.mp hp' with hp' | hp'
    · exact v.wa p hp' ys ey y hy
    · rw [List.mem_singleton] at hp'; rw [hp'] at ey; cases ey; exact key y hy
structure DOk (d : DM) : Prop where
  w : WOk d
  v : VOk d
theorem DOk.step {d : DM} {b : Int} (k : DOk d) (h : hasK d.wa (.inl b) = true) (hs : stuckB d = false) : DOk (d.step b) := ⟨(k.w.step h hs).1, k.v.step k.w⟩
theorem runB_dok {b : Int} : ∀ {n : Nat} {d : DM}, DOk d → DOk (runB n d b).2
  | 0, d, k => k
  | n + 1, d, k => by
    have e : runB (n + 1) d b = if hasK d.wa (.inl b) = true then (if stuckB d = true then (false, d) else runB n (d.step b) b) else (true, d) := rfl
    rw [e]
    by_cases h : hasK d.wa (.inl b) = true
    · rw [if_pos h]
      by_cases hs : stuckB d = true
      · rw [if_pos hs]; exact k
      · rw [if_neg hs]; exact runB_dok (k.step h (by simpa using hs))
    · rw [if_neg h]; exact k
theorem forceM_dok : ∀ {bs : List Int} {d : DM}, DOk d → DOk (forceM d bs).2
  | [], d, k => k
  | b :: r, d, k => by
    have e : forceM d (b :: r) = if (runB (pendL d.wa) d b).1 = true then forceM (runB (pendL d.wa) d b).2 r else (false, (runB (pendL d.wa) d b).2) := rfl
    rw [e]
    by_cases h : (runB (pendL d.wa) d b).1 = true
    · rw [if_pos h]; exact forceM_dok (runB_dok k)
    · rw [if_neg h]; exact runB_dok k
/-! books -/
section
variable {S : SS} {p l w : Addr} {d : DM}
theorem BookAt.sw {wa : List (Key × D)} (h : BookAt S p l w d) : BookAt (sup S w (.dk wa)) p l w ⟨d.ly, wa, d.po, d.re⟩ := by
  obtain ⟨h1, h2, h3, n⟩ := h
  exact ⟨by rw [sup_ne n]; exact h1, by rw [sup_ne (fun e => by rw [e, h3] at h2; cases h2)]; exact h2, sup_same, n⟩
theorem BookAt.sp {po : D} {re : Int} (h : BookAt S p l w d) : BookAt (sup S p (.dk (bkD l w po re))) p l w ⟨d.ly, d.wa, po, re⟩ := by
  obtain ⟨h1, h2, h3, n⟩ := h
  exact ⟨sup_same, by rw [sup_ne (fun e => by rw [e, h1] at h2; cases h2)]; exact h2, by rw [sup_ne n.symm]; exact h3, n⟩
theorem BookAt.ne (h : BookAt S p l w d) : (p ≠ l ∧ p ≠ w ∧ l ≠ w) ∧ (l ≠ p ∧ w ≠ p ∧ w ≠ l) := by
  obtain ⟨h1, h2, h3, n⟩ := h
  have a1 : p ≠ l := fun e => by rw [e, h2] at h1; cases h1
  have a3 : l ≠ w := fun e => by rw [e, h3] at h2; cases h2
  exact ⟨⟨a1, n, a3⟩, a1.symm, n.symm, a3.symm⟩
theorem BookAt.mk {ly : List D} {wa : List (Key × D)} {po : D} {re : Int} (h1 : S p = some (.dk (bkD l w po re))) (h2 : S l = some (.lst ly)) (h3 : S w = some (.dk wa)) (n : p ≠ w) (e : d = ⟨ly, wa, po, re⟩) : BookAt S p l w d := by subst e; exact ⟨h1, h2, h3, n⟩
theorem DiskAt.fr {S' : SS} {C : Addr} {fp : List Addr} (h : DiskAt C S p l w d) (f : Fr fp S S') (n1 : p ∉ fp) (n2 : l ∉ fp) (n3 : w ∉ fp) : DiskAt C S' p l w d := ⟨f _ _ h.1 n1, f _ _ h.2.1 n2, f _ _ h.2.2 n3⟩
theorem BookAt.fr {S' : SS} {fp : List Addr} (h : BookAt S p l w d) (f : Fr fp S S') (n1 : p ∉ fp) (n2 : l ∉ fp) (n3 : w ∉ fp) : BookAt S' p l w d := ⟨f _ _ h.1 n1, f _ _ h.2.1 n2, f _ _ h.2.2.1 n3, h.2.2.2⟩
end
theorem Fr.under {S S' : SS} {a : Addr} {o : MO} {fp : List Addr} (hn : S a = none) (f : Fr fp (sup S a o) S') : Fr fp S (sdel S' a) := fun z u e n => by
  have hz : z ≠ a := fun q => by rw [q, hn] at e; cases e
  rw [sdel_ne hz]; exact f z u (by rw [sup_ne hz]; exact e) n
theorem HandAt.under {S : SS} {h a : Addr} (H : HandAt S h) (n : h ≠ a) : HandAt (sdel S a) h := by
  obtain ⟨cs, i, big, seed, cnt, e, r⟩ := H
  exact ⟨cs, i, big, seed, cnt, by rw [sdel_ne n]; exact e, r⟩
theorem HandAt.new {S : SS} {h a : Addr} {o : MO} (H : HandAt S h) (hn : S a = none) : HandAt (sup S a o) h ∧ h ≠ a := by
  obtain ⟨cs, i, big, seed, cnt, e, r⟩ := H
  have hz : h ≠ a := fun q => by rw [q, hn] at e; cases e
  exact ⟨⟨cs, i, big, seed, cnt, by rw [sup_ne hz]; exact e, r⟩, hz⟩
theorem m_eqn0 {S : SS} {i : Int} {Q : Bool → Prop} (q : Q false) : rEqv S .non (.int i) Q := ⟨rfl, rfl, q⟩
theorem m_eqc {S : SS} {x : D} {Q : Bool → Prop} (h : Cnt x) (q : Q true) : rEqv S x x Q := by
  have h1 := h.shp
  have h2 := h.deq
  obtain ⟨xs, rfl, _, _⟩ := h
  exact ⟨h1, h1, by show Q (DP.deq (.tup xs) (.tup xs)); rw [h2]; exact q⟩
/-! rows of steps -/
inductive Act where
  | reach (b : Int)
  | force (bs : List Int)
  | calm
def Act.toD : Act → D
  | .reach b => .tup [.str "reach", .int b]
  | .force bs => .tup [.str "force", .tup (bs.map D.int)]
  | .calm => .tup [.str "calm"]
/-- what can be done where so many wait for each block -/
def RowOk (m : Int) : List Int → List Act → Prop
  | _, [] => True
  | c, .reach b :: r => b ∈ c ∧ RowOk m (c.erase b) r
  | c, .force bs :: r => lotB m (-1) bs = true ∧ RowOk m (c.filter fun x => !decide (x ∈ bs)) r
  | _, .calm :: r => RowOk m [] r
end DP

/-! a row of steps on a disk -/
namespace DP
open PySem L2
def actM (d : DM) : DP.Act → Bool × DM
  | .reach b => if stuckB d = true then (false, d) else (true, d.step b)
  | .force bs => forceM d bs
  | .calm => forceM d d.keys
def goM : DM → List DP.Act → DM
  | d, [] => d
  | d, a :: r => if (actM d a).1 = true then goM (actM d a).2 r else (actM d a).2
/-- so many wait for each block as c counts -/
def CntOf (d : DM) (c : List Int) : Prop := ∀ b, (rowOf d b).length = c.count b
theorem getK_putD {kvs : List (Key × D)} {k k' : Key} {v : D} : getK (putD kvs k v) k' = if k' = k then some v else getK kvs k' := by
  by_cases h : hasK kvs k = true
  · have e : putD kvs k v = kvs.map fun kv => if kv.1 = k then (kv.1, v) else kv := by
      unfold putD; rw [if_pos]; exact h
    rw [e]
    unfold getK
    induction kvs with
    | nil => cases h
    | cons p r ih =>
      rw [List.map_cons, List.find?_cons, List.find?_cons]
      by_cases hp : p.1 = k
      · rw [if_pos hp]
        dsimp only
        by_cases hk : k' = k
        · rw [if_pos hk, decide_eq_true (hp.trans hk.symm)]; rfl
        · rw [if_neg hk, decide_eq_false (fun z => hk (z.symm.trans hp))]
          dsimp only
          congr 1
          have : ∀ l : List (Key × D), (l.map fun kv => if kv.1 = k then (kv.1, v) else kv).find? (fun p => decide (p.1 = k')) = l.find? fun p => decide (p.1 = k') := fun l => by
            induction l with
            | nil => rfl
            | cons a l ihl =>
              rw [List.map_cons, List.find?_cons, List.find?_cons, ihl]
              by_cases ha : a.1 = k
              · rw [if_pos ha]; dsimp only; rw [decide_eq_false (fun z => hk (z.symm.trans ha))]
              · rw [if_neg ha]
          rw [this]
      · rw [if_neg hp]
        by_cases hk : p.1 = k'
        · rw [decide_eq_true hk]
          dsimp only
          rw [if_neg (fun z => hp (hk.trans z))]
        · rw [decide_eq_false hk]
          have hr : hasK r k = true := by
            rw [hasK_iff] at h ⊢
            rw [List.map_cons] at h
            rcases List.mem_cons.mp h with h | h
            · exact absurd h.symm hp
            · exact h
          have e2 : putD r k v = r.map fun kv => if kv.1 = k then (kv.1, v) else kv := by unfold putD; rw [if_pos]; exact hr
          exact ih hr e2
  · have e := putD_new (v := v) (fun hm => h (hasK_iff.mpr hm))
    rw [e]
    unfold getK
    rw [List.find?_append]
    by_cases hk : k' = k
    · rw [if_pos hk]
      have : kvs.find? (fun p => decide (p.1 = k')) = none := List.find?_eq_none.mpr fun p hp z => h (hasK_iff.mpr (List.mem_map.mpr ⟨p, hp, (of_decide_eq_true z).trans hk⟩))
      rw [this, List.find?_cons, decide_eq_true hk.symm]; rfl
    · rw [if_neg hk, List.find?_cons, decide_eq_false (fun z => hk z.symm)]
      cases kvs.find? fun p => decide (p.1 = k') <;> rfl
theorem getK_delK {kvs : List (Key × D)} {k k' : Key} : getK (delK kvs k) k' = if k' = k then none else getK kvs k' := by
  unfold getK delK
  by_cases hk : k' = k
  · rw [if_pos hk]
    have : (kvs.filter fun p => decide (p.1 ≠ k)).find? (fun p => decide (p.1 = k')) = none := List.find?_eq_none.mpr fun p hp z => by
      have := (List.mem_filter.mp hp).2
      exact (of_decide_eq_true this) ((of_decide_eq_true z).trans hk)
    rw [this]; rfl
  · rw [if_neg hk]
    congr 1
    induction kvs with
    | nil => rfl
    | cons p r ih =>
      rw [List.filter_cons]
      by_cases hp : p.1 = k
      · rw [if_neg (by simpa using hp), List.find?_cons, decide_eq_false (fun z => hk (z.symm.trans hp))]; exact ih
      · rw [if_pos (decide_eq_true hp), List.find?_cons, List.find?_cons, ih]
theorem row_step {d : DM} {b x : Int} (k : WOk d) : rowOf (d.step b) x = if x = b then (rowOf d b).tail else rowOf d x := by
  unfold DM.step
  cases e : rowOf d b with
  | nil => by_cases h : x = b
           · rw [if_pos h, h]; exact e
           · rw [if_neg h]
  | cons y ys =>
    dsimp only
    by_cases hy : ys = []
    · rw [if_pos hy]
      unfold rowOf
      dsimp only
      rw [getK_delK]
      by_cases h : x = b
      · rw [if_pos (by rw [h]), if_pos h, hy]; rfl
      · rw [if_neg (fun z => h (by cases z; rfl)), if_neg h]
    · rw [if_neg hy]
      unfold rowOf
      dsimp only
      rw [getK_putD]
      by_cases h : x = b
      · rw [if_pos (by rw [h]), if_pos h]; rfl
      · rw [if_neg (fun z => h (by cases z; rfl)), if_neg h, getK_delK, if_neg (fun z => h (by cases z; rfl))]
theorem row_runB {b x : Int} : ∀ {n : Nat} {d : DM}, WOk d → n = pendL d.wa → (runB n d b).1 = true → rowOf (runB n d b).2 x = if x = b then [] else rowOf d x
  | 0, d, k, e, _ => by
    by_cases h : x = b
    · rw [if_pos h, h]
      have := row_len (b := b) k
      exact List.length_eq_zero_iff.mp (by show (rowOf d b).length = 0; omega)
    · rw [if_neg h]; rfl
  | n + 1, d, k, e, ht => by
    have e1 : runB (n + 1) d b = if hasK d.wa (.inl b) = true then (if stuckB d = true then (false, d) else runB n (d.step b) b) else (true, d) := rfl
    rw [e1] at ht ⊢
    by_cases h : hasK d.wa (.inl b) = true
    · rw [if_pos h] at ht ⊢
      by_cases hs : stuckB d = true
      · rw [if_pos hs] at ht; cases ht
      · rw [if_neg hs] at ht ⊢
        obtain ⟨k1, k2, k3⟩ := k.step h (by simpa using hs)
        rw [row_runB k1 (by omega) ht, row_step k]
        by_cases hx : x = b
        · rw [if_pos hx, if_pos hx]
        · rw [if_neg hx, if_neg hx, if_neg hx]
    · rw [if_neg h]
      by_cases hx : x = b
      · rw [if_pos hx, hx]; exact rowOf_none h
      · rw [if_neg hx]
theorem row_forceM {x : Int} : ∀ {bs : List Int} {d : DM}, WOk d → (forceM d bs).1 = true → rowOf (forceM d bs).2 x = if x ∈ bs then [] else rowOf d x
  | [], d, k, _ => by rw [if_neg (by simp)]; rfl
  | b :: r, d, k, ht => by
    have e : forceM d (b :: r) = if (runB (pendL d.wa) d b).1 = true then forceM (runB (pendL d.wa) d b).2 r else (false, (runB (pendL d.wa) d b).2) := rfl
    rw [e] at ht ⊢
    by_cases h : (runB (pendL d.wa) d b).1 = true
    · rw [if_pos h] at ht ⊢
      rw [row_forceM (runB_ok k).1 ht, row_runB k rfl h]
      by_cases h1 : x ∈ r
      · rw [if_pos h1, if_pos (List.mem_cons_of_mem _ h1)]
      · rw [if_neg h1]
        by_cases h2 : x = b
        · rw [if_pos h2, if_pos (by rw [h2]; exact List.mem_cons_self)]
        · rw [if_neg h2, if_neg (by simpa [h2] using h1)]
    · rw [if_neg h] at ht; cases ht
theorem row_out {d : DM} {x : Int} (k : WOk d) (h : x ∉ d.keys) : rowOf d x = [] := rowOf_none fun hh => h (by
  unfold DM.keys
  rw [List.mem_mergeSort]
  obtain ⟨p, hp, e⟩ := List.mem_map.mp (hasK_iff.mp hh)
  exact List.mem_map.mpr ⟨p, hp, by unfold keyI; rw [e]⟩)
theorem cnt_calm {d : DM} (k : WOk d) (h : (forceM d d.keys).1 = true) : CntOf (forceM d d.keys).2 [] := fun b => by
  rw [row_forceM k h]
  by_cases hb : b ∈ d.keys
  · rw [if_pos hb]; rfl
  · rw [if_neg hb, row_out k hb]; rfl
theorem cnt_force {d : DM} {bs c : List Int} (k : WOk d) (n : CntOf d c) (h : (forceM d bs).1 = true) : CntOf (forceM d bs).2 (c.filter fun x => !decide (x ∈ bs)) := fun b => by
  rw [row_forceM k h]
  by_cases hb : b ∈ bs
  · rw [if_pos hb]
    symm
    rw [List.length_nil, List.count_eq_zero]
    intro hm
    have := (List.mem_filter.mp hm).2
    simp [hb] at this
  · rw [if_neg hb, n b, List.count_filter (by simp [hb])]
theorem cnt_reach {d : DM} {b : Int} {c : List Int} (k : WOk d) (n : CntOf d c) : CntOf (d.step b) (c.erase b) := fun x => by
  rw [row_step k, List.count_erase]
  by_cases hx : x = b
  · rw [if_pos hx, List.length_tail, n b, hx]; simp
  · rw [if_neg hx, n x]
    have : ¬ b = x := fun z => hx z.symm
    simp [this]
theorem cnt_has {d : DM} {b : Int} {c : List Int} (n : CntOf d c) (h : b ∈ c) : hasK d.wa (.inl b) = true := by
  by_cases hh : hasK d.wa (.inl b) = true
  · exact hh
  · have h1 := n b
    rw [rowOf_none hh] at h1
    have := List.count_pos_iff.mpr h
    simp only [List.length_nil] at h1
    omega
theorem actM_ok {d : DM} {c : List Int} {a : DP.Act} {r : List DP.Act} (k : DOk d) (n : CntOf d c) (hr : RowOk d.ly.length c (a :: r)) : DOk (actM d a).2 ∧ (actM d a).2.ly.length = d.ly.length ∧ ((actM d a).1 = true → ∃ c', CntOf (actM d a).2 c' ∧ RowOk d.ly.length c' r) := by
  cases a with
  | reach b =>
    obtain ⟨h1, h2⟩ := hr
    have hh := cnt_has n h1
    have e : actM d (.reach b) = if stuckB d = true then (false, d) else (true, d.step b) := rfl
    rw [e]
    by_cases hs : stuckB d = true
    · rw [if_pos hs]; exact ⟨k, rfl, fun z => by cases z⟩
    · rw [if_neg hs]
      have hs : stuckB d = false := by simpa using hs
      exact ⟨k.step hh hs, (k.w.step hh hs).2.2, fun _ => ⟨_, cnt_reach k.w n, h2⟩⟩
  | force bs =>
    obtain ⟨h1, h2⟩ := hr
    exact ⟨forceM_dok k, (forceM_ok k.w).2, fun h => ⟨_, cnt_force k.w n h, h2⟩⟩
  | calm =>
    have h2 : RowOk d.ly.length [] r := hr
    exact ⟨forceM_dok k, (forceM_ok k.w).2, fun h => ⟨_, cnt_calm k.w h, h2⟩⟩
theorem s_rr : decide (("reach" : Str) = "reach") = true := decide_eq_true rfl
theorem s_ff : decide (("force" : Str) = "force") = true := decide_eq_true rfl
theorem s_cc : decide (("calm" : Str) = "calm") = true := decide_eq_true rfl
theorem s_fr : decide (("force" : Str) = "reach") = false := by decide +kernel
theorem s_cr : decide (("calm" : Str) = "reach") = false := by decide +kernel
theorem s_cf : decide (("calm" : Str) = "force") = false := by decide +kernel
theorem s_rf : decide (("reach" : Str) = "force") = false := by decide +kernel
theorem s_rc : decide (("reach" : Str) = "calm") = false := by decide +kernel
theorem s_fc : decide (("force" : Str) = "calm") = false := by decide +kernel
theorem Nm.tr {c : Ctx} {W : WX} {pn : List (Addr × PySem.Obj)} {xe : PySem.Value → PySem.Shared → Prop} {tk : Takes (c.X.tr pn xe) W} {DX : PySem.Value → Option Addr → DEnv → SS → Prop} {i : Nat} {x : Str} (n : Nm c i x) : Nm (trC c W pn xe tk DX) i x := ⟨n.at_, n.loc, n.fn, n.db, n.cd⟩
theorem Nm.su {c : Ctx} {a : Addr} {pn : List (Addr × PySem.Obj)} {i : Nat} {x : Str} (n : Nm c i x) : Nm (suC c a pn) i x := ⟨n.at_, n.loc, n.fn, n.db, n.cd⟩
section
variable {c : Ctx} {W : WX} {pn : List (Addr × PySem.Obj)} {xe : PySem.Value → PySem.Shared → Prop} {tk : Takes (c.X.tr pn xe) W} {DX : PySem.Value → Option Addr → DEnv → SS → Prop} {i k : Nat} {x : Str} {a : Addr}
theorem room_tr (h : Room k c.X.A) : Room k (trC c W pn xe tk DX).X.A := h
theorem un_tr (h : Un c) : Un (trC c W pn xe tk DX) := h
theorem un_su (h : Un c) : Un (suC c a pn) := h
theorem nd_tr (h : c.X.N.Nodup) : (trC c W pn xe tk DX).X.N.Nodup := h
theorem nd_su (h : c.X.N.Nodup) : (suC c a pn).X.N.Nodup := h
theorem at_tr (h : c.X.N[i]? = some x) : (trC c W pn xe tk DX).X.N[i]? = some x := h
theorem at_su (h : c.X.N[i]? = some x) : (suC c a pn).X.N[i]? = some x := h
end
/-! calls in the suite of a try: what may be raised is named -/
section
open PySem PySem.Spec PyProof.Rows L2
variable {c : DP.Ctx} {e o : Expr} {es : List Expr} {pos p apos : Pos} {to : RE} {la : RL} {x m : Str} {C : Addr} {k : Nat} {sp : DSp} {pl : Sem Bool} (DX : Value → Option Addr → DEnv → SS → Prop) (hd : c.DX = DX)
include hd
theorem q_callT (F : Fn c.X.prog c.X.w c.X.K c.X.mg c.X.base k x sp) (hr : Room k c.X.A) (ha : QA c (e :: es) la) (hg : Gl c.X x := by rfl) (hdb : (x == ("__debug__" : Str)) = false := by decide)
    (he : starEach (e :: es) c.X.env = (false, eval e c.X.env) :: starEach es c.X.env := by rfl) (hpl : (backTo pos (starEach es c.X.env)).any (·.1) = false := by rfl) : QE c (.Call (.Name x p) (e :: es) [] pos) fun ρ S Q => la ρ S fun ds S1 => sp ds S1 Q fun cls d S' => DX cls d ρ S' := by
  subst hd; exact q_call F hr ha hg hdb he hpl
theorem q_call0T (F : Fn c.X.prog c.X.w c.X.K c.X.mg c.X.base k x sp) (hr : Room k c.X.A) (hg : Gl c.X x := by rfl) (hdb : (x == ("__debug__" : Str)) = false := by decide) : QE c (.Call (.Name x p) [] [] pos) fun ρ S Q => sp [] S Q fun cls d S' => DX cls d ρ S' := by
  subst hd; exact q_call0 F hr hg hdb
theorem q_methT (F : Mn c.X.prog c.X.w c.X.K c.X.mg c.X.base k C m sp) (kc : Cls c.X.K C) (hr : Room k c.X.A) (ho : QE c o to) (ha : QA c (e :: es) la)
    (hst : starEach (e :: es) c.X.env = (false, eval e c.X.env) :: starEach es c.X.env := by rfl) (hpl : (backTo pos (starEach es c.X.env)).any (·.1) = false := by rfl)
    (ht : eval (.Call (.Attribute o m apos) (e :: es) [] pos) c.X.env = (do
      let ov ← eval o c.X.env
      standAt apos.atName
      let (f, first) ← holding [ov] (getMethod ov m pl)
      callWith pos f first (backTo pos (starEach (e :: es) c.X.env)) (backToKw pos (keywordEach [] c.X.env))) := by rfl) :
    QE c (.Call (.Attribute o m apos) (e :: es) [] pos) fun ρ S Q => to ρ S fun x S1 => ∃ a fs, x = .ref a ∧ S1 a = some (.ins C fs) ∧ fs.lookup m = none ∧ la ρ S1 fun ds S2 => sp (.ref a :: ds) S2 Q fun cls d S' => DX cls d ρ S' := by
  subst hd; exact q_meth F kc hr ho ha hst hpl ht
theorem q_meth0T (F : Mn c.X.prog c.X.w c.X.K c.X.mg c.X.base k C m sp) (kc : Cls c.X.K C) (hr : Room k c.X.A) (ho : QE c o to)
    (ht : eval (.Call (.Attribute o m apos) [] [] pos) c.X.env = (do
      let ov ← eval o c.X.env
      standAt apos.atName
      let (f, first) ← holding [ov] (getMethod ov m pl)
      callWith pos f first (backTo pos (starEach [] c.X.env)) (backToKw pos (keywordEach [] c.X.env))) := by rfl) :
    QE c (.Call (.Attribute o m apos) [] [] pos) fun ρ S Q => to ρ S fun x S1 => ∃ a fs, x = .ref a ∧ S1 a = some (.ins C fs) ∧ fs.lookup m = none ∧ sp [.ref a] S1 Q fun cls d S' => DX cls d ρ S' := by
  subst hd; exact q_meth0 F kc hr ho ht
theorem q_makeT (M : Mkn c.X.prog c.X.w c.X.K c.X.mg c.X.base k x C sp) (hr : Room (k + 1) c.X.A) (ha : QA c (e :: es) la) (hg : Gl c.X x := by rfl) (hdb : (x == ("__debug__" : Str)) = false := by decide)
    (he : starEach (e :: es) c.X.env = (false, eval e c.X.env) :: starEach es c.X.env := by rfl) (hpl : (backTo pos (starEach es c.X.env)).any (·.1) = false := by rfl) :
    QE c (.Call (.Name x p) (e :: es) [] pos) fun ρ S Q => la ρ S fun ds S1 => ∀ q, S1 q = none → sp (.ref q :: ds) (sup S1 q (.ins C [])) (fun v S2 => v = .non ∧ Q (.ref q) S2) fun cls d S' => DX cls d ρ S' := by
  subst hd; exact q_make M hr ha hg hdb he hpl
end
end DP

/-! how many writes reach a disk of so much power -/
namespace DP
open PySem L2
/-- the power is what is left of k, n writes in all -/
structure PwOk (k : Int) (n : Nat) (d : DM) : Prop where
  po : d.po = .int (k - d.re)
  le : d.re ≤ k
  nn : 0 ≤ d.re
  sm : pendL d.wa + d.re = n
theorem step_po {d : DM} {b : Int} (h : hasK d.wa (.inl b) = true) (k : WOk d) : (d.step b).po = lessP d.po ∧ (d.step b).re = d.re + 1 := by
  obtain ⟨x, xs, _, e2, _, _, _⟩ := k.row h
  unfold DM.step; rw [e2]; exact ⟨rfl, rfl⟩
theorem PwOk.step {k : Int} {n : Nat} {d : DM} {b : Int} (p : PwOk k n d) (w : WOk d) (h : hasK d.wa (.inl b) = true) (hs : stuckB d = false) : PwOk k n (d.step b) := by
  obtain ⟨h1, h2⟩ := step_po h w
  obtain ⟨_, h3, _⟩ := w.step h hs
  have h4 : k - d.re ≠ 0 := by
    unfold stuckB at hs
    rw [p.po] at hs
    exact of_decide_eq_false hs
  have h5 := p.le
  have h6 := p.nn
  have h7 := p.sm
  refine ⟨?_, by rw [h2]; omega, by rw [h2]; omega, by rw [h2]; omega⟩
  rw [h1, p.po, h2]
  show D.int (k - d.re - 1) = D.int (k - (d.re + 1))
  congr 1; omega
theorem pw_stuck {k : Int} {n : Nat} {d : DM} (p : PwOk k n d) (hs : stuckB d = true) : d.re = k := by
  unfold stuckB at hs
  rw [p.po] at hs
  have := of_decide_eq_true hs
  omega
theorem pw_runB {k : Int} {n : Nat} {b : Int} : ∀ {m : Nat} {d : DM}, PwOk k n d → WOk d → PwOk k n (runB m d b).2 ∧ ((runB m d b).1 = false → (runB m d b).2.re = k)
  | 0, d, p, w => ⟨p, fun h => by cases h⟩
  | m + 1, d, p, w => by
    have e : runB (m + 1) d b = if hasK d.wa (.inl b) = true then (if stuckB d = true then (false, d) else runB m (d.step b) b) else (true, d) := rfl
    rw [e]
    by_cases h : hasK d.wa (.inl b) = true
    · rw [if_pos h]
      by_cases hs : stuckB d = true
      · rw [if_pos hs]; exact ⟨p, fun _ => pw_stuck p hs⟩
      · rw [if_neg hs]
        have hs : stuckB d = false := by simpa using hs
        exact pw_runB (p.step w h hs) (w.step h hs).1
    · rw [if_neg h]; exact ⟨p, fun h => by cases h⟩
theorem pw_force {k : Int} {n : Nat} : ∀ {bs : List Int} {d : DM}, PwOk k n d → WOk d → PwOk k n (forceM d bs).2 ∧ ((forceM d bs).1 = false → (forceM d bs).2.re = k)
  | [], d, p, w => ⟨p, fun h => by cases h⟩
  | b :: r, d, p, w => by
    have e : forceM d (b :: r) = if (runB (pendL d.wa) d b).1 = true then forceM (runB (pendL d.wa) d b).2 r else (false, (runB (pendL d.wa) d b).2) := rfl
    rw [e]
    obtain ⟨p1, p2⟩ := pw_runB (b := b) (m := pendL d.wa) p w
    by_cases h : (runB (pendL d.wa) d b).1 = true
    · rw [if_pos h]; exact pw_force p1 (runB_ok w).1
    · rw [if_neg h]; exact ⟨p1, fun _ => p2 (by simpa using h)⟩
theorem pw_act {k : Int} {n : Nat} {d : DM} {c : List Int} {a : DP.Act} {r : List DP.Act} (p : PwOk k n d) (w : WOk d) (hc : CntOf d c) (hr : RowOk d.ly.length c (a :: r)) : PwOk k n (actM d a).2 ∧ ((actM d a).1 = false → (actM d a).2.re = k) := by
  cases a with
  | reach b =>
    have hh := cnt_has hc hr.1
    have e : actM d (.reach b) = if stuckB d = true then (false, d) else (true, d.step b) := rfl
    rw [e]
    by_cases hs : stuckB d = true
    · rw [if_pos hs]; exact ⟨p, fun _ => pw_stuck p hs⟩
    · rw [if_neg hs]; exact ⟨p.step w hh (by simpa using hs), fun h => by cases h⟩
  | force bs => exact pw_force p w
  | calm => exact pw_force p w
theorem pend_none {d : DM} (w : WOk d) (h : CntOf d []) : pendL d.wa = 0 := by
  cases e : d.wa with
  | nil => rfl
  | cons q r =>
    obtain ⟨b, x, xs, rfl, _, _⟩ := w.va q (by rw [e]; exact List.mem_cons_self)
    have h1 := h b
    have h2 : hasK d.wa (.inl b) = true := hasK_iff.mpr (by rw [e]; exact List.mem_cons_self)
    obtain ⟨y, ys, _, e2, _, _, _⟩ := w.row h2
    rw [e2] at h1
    simp at h1
theorem goM_re {k : Int} {n : Nat} : ∀ {rs : List DP.Act} {d : DM} {c : List Int}, DOk d → PwOk k n d → CntOf d c → RowOk d.ly.length c (rs ++ [.calm]) → DOk (goM d (rs ++ [.calm])) ∧ (goM d (rs ++ [.calm])).ly.length = d.ly.length ∧ (goM d (rs ++ [.calm])).re = if (n : Int) < k then (n : Int) else k
  | [], d, c, o, p, hc, hr => by
    obtain ⟨p1, p2⟩ := pw_act p o.w hc hr
    obtain ⟨k2, k3, k4⟩ := actM_ok o hc hr
    have e : goM d ([] ++ [.calm]) = if (actM d .calm).1 = true then (actM d .calm).2 else (actM d .calm).2 := rfl
    rw [e]
    by_cases h : (actM d .calm).1 = true
    · rw [if_pos h]
      have hn := pend_none k2.w (cnt_calm o.w h)
      have h1 := p1.sm
      have h2 := p1.le
      refine ⟨k2, k3, ?_⟩
      split <;> omega
    · rw [if_neg h]
      have h1 := p2 (by simpa using h)
      have h2 := p1.sm
      refine ⟨k2, k3, ?_⟩
      split <;> omega
  | a :: rs, d, c, o, p, hc, hr => by
    obtain ⟨p1, p2⟩ := pw_act p o.w hc hr
    obtain ⟨k2, k3, k4⟩ := actM_ok o hc hr
    have e : goM d (a :: rs ++ [.calm]) = if (actM d a).1 = true then goM (actM d a).2 (rs ++ [.calm]) else (actM d a).2 := rfl
    rw [e]
    by_cases h : (actM d a).1 = true
    · rw [if_pos h]
      obtain ⟨c', h1, h2⟩ := k4 h
      obtain ⟨g1, g2, g3⟩ := goM_re k2 p1 h1 (by rw [k3]; exact h2)
      exact ⟨g1, g2.trans k3, g3⟩
    · rw [if_neg h]
      have h1 := p2 (by simpa using h)
      have h2 := p1.sm
      refine ⟨k2, k3, ?_⟩
      split <;> omega
theorem row_write {d : DM} {b y : Int} {x : D} : rowOf (d.write b x) y = if y = b then rowOf d b ++ [x] else rowOf d y := by
  unfold DM.write
  show (match getK (putD d.wa (.inl b) (.fl (rowOf d b ++ [x]))) (.inl y) with | some (.fl xs) => xs | _ => []) = _
  rw [getK_putD]
  by_cases h : y = b
  · rw [if_pos (by rw [h]), if_pos h]
  · rw [if_neg (fun z => h (by cases z; rfl)), if_neg h]; rfl
theorem DOk.write {d : DM} {b : Int} {x : D} (o : DOk d) (h1 : 0 ≤ b) (h2 : b < d.ly.length) (h3 : pendL d.wa < 100000) (c : Cnt x) : DOk (d.write b x) := ⟨(write_ok o.w h1 h2 h3).1, o.v.write o.w c⟩
/-- without a bound nothing stops -/
theorem run_free {b : Int} : ∀ {m : Nat} {d : DM}, d.po = .non → WOk d → (runB m d b).1 = true ∧ (runB m d b).2.po = .non
  | 0, d, h, w => ⟨rfl, h⟩
  | m + 1, d, h, w => by
    have e : runB (m + 1) d b = if hasK d.wa (.inl b) = true then (if stuckB d = true then (false, d) else runB m (d.step b) b) else (true, d) := rfl
    rw [e]
    by_cases hh : hasK d.wa (.inl b) = true
    · have hs : stuckB d = false := by unfold stuckB; rw [h]
      rw [if_pos hh, if_neg (by rw [hs]; exact Bool.false_ne_true)]
      exact run_free (by rw [(step_po hh w).1, h]; rfl) (w.step hh hs).1
    · rw [if_neg hh]; exact ⟨rfl, h⟩
theorem force_free : ∀ {bs : List Int} {d : DM}, d.po = .non → WOk d → (forceM d bs).1 = true ∧ (forceM d bs).2.po = .non
  | [], d, h, w => ⟨rfl, h⟩
  | b :: r, d, h, w => by
    have e : forceM d (b :: r) = if (runB (pendL d.wa) d b).1 = true then forceM (runB (pendL d.wa) d b).2 r else (false, (runB (pendL d.wa) d b).2) := rfl
    obtain ⟨h1, h2⟩ := run_free (b := b) (m := pendL d.wa) h w
    rw [e, if_pos h1]
    exact force_free h2 (runB_ok w).1

theorem DOk.power {d : DM} {k : Int} (o : DOk d) (h : 0 ≤ k) : DOk ⟨d.ly, d.wa, .int k, d.re⟩ := ⟨⟨o.w.nd, o.w.va, .inr ⟨k, rfl, h⟩, o.w.sm, o.w.ln⟩, ⟨o.v.ly, o.v.wa⟩⟩
theorem DOk.cut {d : DM} (o : DOk d) : DOk ⟨d.ly, [], .non, d.re⟩ := ⟨⟨List.nodup_nil, by simp, .inl rfl, by show 0 ≤ 100000; omega, o.w.ln⟩, ⟨o.v.ly, by simp⟩⟩
theorem keys_two {d : DM} {x y : D} (h : d.wa = []) : ((d.write 0 x).write 1 y).keys = [0, 1] := by
  obtain ⟨ly, wa, po, re⟩ := d
  obtain rfl : wa = [] := h
  have e : ((DM.write ⟨ly, [], po, re⟩ 0 x).write 1 y).wa.map keyI = [0, 1] := rfl
  unfold DM.keys
  rw [e]
  exact (sorted_is (List.Perm.refl _) (by decide)).symm
section
variable {C : Addr} {S S' : SS} {h p l w q l2 w2 : Addr} {d d' e : DM} {fp : List Addr}
/-- a disk, a book and a hand beside one another -/
structure Trio (C : Addr) (S : SS) (h p l w q l2 w2 : Addr) (d e : DM) : Prop where
  hd : DiskAt C S p l w d
  hb : BookAt S q l2 w2 e
  hh : HandAt S h
  n1 : l ≠ l2
  n2 : w ≠ w2
  n3 : w ≠ q
  n4 : h ≠ l
  n5 : h ≠ l2
theorem Trio.s1 (t : Trio C S h p l w q l2 w2 d e) : p ∉ [q, l2, w2] ∧ l ∉ [q, l2, w2] ∧ w ∉ [q, l2, w2] ∧ h ∉ [q, l2, w2] := by
  obtain ⟨⟨a1, a2, a3⟩, ⟨b1, b2, b3, b4⟩, ⟨_, _, _, _, _, c1, _⟩, n1, n2, n3, n4, n5⟩ := t
  simp only [List.mem_cons, List.not_mem_nil, or_false, not_or]
  refine ⟨⟨?_, ?_, ?_⟩, ⟨?_, n1, ?_⟩, ⟨n3, ?_, n2⟩, ?_, n5, ?_⟩ <;> intro z <;> subst z
  · rw [a1] at b1; cases b1
  · rw [a1] at b2; cases b2
  · rw [a1] at b3; cases b3
  · rw [a2] at b1; cases b1
  · rw [a2] at b3; cases b3
  · rw [a3] at b2; cases b2
  · rw [c1] at b1; cases b1
  · rw [c1] at b3; cases b3
theorem Trio.s2 (t : Trio C S h p l w q l2 w2 d e) : q ∉ [p, l, w] ∧ l2 ∉ [p, l, w] ∧ w2 ∉ [p, l, w] ∧ h ∉ [p, l, w] := by
  obtain ⟨r1, r2, r3, r4⟩ := t.s1
  obtain ⟨⟨a1, a2, a3⟩, ⟨b1, b2, b3, b4⟩, ⟨_, _, _, _, _, c1, _⟩, n1, n2, n3, n4, n5⟩ := t
  simp only [List.mem_cons, List.not_mem_nil, or_false, not_or] at r1 r2 r3 ⊢
  refine ⟨⟨fun e => r1.1 e.symm, fun e => r2.1 e.symm, fun e => r3.1 e.symm⟩, ⟨fun e => r1.2.1 e.symm, fun e => r2.2.1 e.symm, fun e => r3.2.1 e.symm⟩, ⟨fun e => r1.2.2 e.symm, fun e => r2.2.2 e.symm, fun e => r3.2.2 e.symm⟩, ?_, n4, ?_⟩ <;> intro z <;> subst z
  · rw [c1] at a1; cases a1
  · rw [c1] at a3; cases a3
theorem Trio.s3 (t : Trio C S h p l w q l2 w2 d e) : p ∉ [h] ∧ l ∉ [h] ∧ w ∉ [h] ∧ q ∉ [h] ∧ l2 ∉ [h] ∧ w2 ∉ [h] := by
  obtain ⟨_, _, _, r1⟩ := t.s1
  obtain ⟨_, _, _, r2⟩ := t.s2
  simp only [List.mem_cons, List.not_mem_nil, or_false, not_or] at r1 r2 ⊢
  exact ⟨fun e => r2.1 e.symm, fun e => r2.2.1 e.symm, fun e => r2.2.2 e.symm, fun e => r1.1 e.symm, fun e => r1.2.1 e.symm, fun e => r1.2.2 e.symm⟩
/-- the hand moves -/
theorem Trio.hand (t : Trio C S h p l w q l2 w2 d e) (f : Fr [h] S S') (g : HandAt S' h) : Trio C S' h p l w q l2 w2 d e :=
  let ⟨a1, a2, a3, b1, b2, b3⟩ := t.s3
  ⟨t.hd.fr f a1 a2 a3, t.hb.fr f b1 b2 b3, g, t.n1, t.n2, t.n3, t.n4, t.n5⟩
/-- the disk moves -/
theorem Trio.disk (t : Trio C S h p l w q l2 w2 d e) (f : Fr [p, l, w] S S') (g : DiskAt C S' p l w d') : Trio C S' h p l w q l2 w2 d' e :=
  let ⟨b1, b2, b3, a⟩ := t.s2
  ⟨g, t.hb.fr f b1 b2 b3, t.hh.fr f a, t.n1, t.n2, t.n3, t.n4, t.n5⟩
theorem Trio.book (t : Trio C S h p l w q l2 w2 d e) (f : Fr [q, l2, w2] S S') (g : BookAt S' q l2 w2 d') : Trio C S' h p l w q l2 w2 d d' :=
  let ⟨b1, b2, b3, a⟩ := t.s1
  ⟨t.hd.fr f b1 b2 b3, g, t.hh.fr f a, t.n1, t.n2, t.n3, t.n4, t.n5⟩
theorem Trio.same (t : Trio C S h p l w q l2 w2 d e) (f : Fr [] S S') : Trio C S' h p l w q l2 w2 d e :=
  ⟨t.hd.fr f (by simp) (by simp) (by simp), t.hb.fr f (by simp) (by simp) (by simp), t.hh.fr f (by simp), t.n1, t.n2, t.n3, t.n4, t.n5⟩
theorem Trio.six (t : Trio C S h p l w q l2 w2 d e) : h ∉ [p, l, w, q, l2, w2] := by
  obtain ⟨_, _, _, r1⟩ := t.s1
  obtain ⟨_, _, _, r2⟩ := t.s2
  simp only [List.mem_cons, List.not_mem_nil, or_false, not_or] at r1 r2 ⊢
  exact ⟨r2.1, r2.2.1, r2.2.2, r1.1, r1.2.1, r1.2.2⟩
theorem Trio.both (t : Trio C S h p l w q l2 w2 d e) (f : Fr [p, l, w, q, l2, w2] S S') (g : DiskAt C S' p l w d') {e' : DM} (g2 : BookAt S' q l2 w2 e') : Trio C S' h p l w q l2 w2 d' e' :=
  ⟨g, g2, t.hh.fr f t.six, t.n1, t.n2, t.n3, t.n4, t.n5⟩
/-- another place for what waits -/
theorem Trio.diskW {w' : Addr} (t : Trio C S h p l w q l2 w2 d e) (f : Fr [p] S S') (n : S w' = none) (g : DiskAt C S' p l w' d') : Trio C S' h p l w' q l2 w2 d' e :=
  have f' : Fr [p, l, w] S S' := f.mono (by simp)
  let ⟨b1, b2, b3, a⟩ := t.s2
  ⟨g, t.hb.fr f' b1 b2 b3, t.hh.fr f' a, t.n1, ne_some' t.hb.2.2.1 n, ne_some' t.hb.1 n, t.n4, t.n5⟩
theorem Trio.bookW {w' : Addr} (t : Trio C S h p l w q l2 w2 d e) (f : Fr [q] S S') (n : S w' = none) (g : BookAt S' q l2 w' d') : Trio C S' h p l w q l2 w' d d' :=
  have f' : Fr [q, l2, w2] S S' := f.mono (by simp)
  let ⟨b1, b2, b3, a⟩ := t.s1
  ⟨t.hd.fr f' b1 b2 b3, g, t.hh.fr f' a, t.n1, ne_some t.hd.2.2 n, t.n3, t.n4, t.n5⟩
end
end DP

/-! more readings: range with a step, list(range(a, b)), methods called in comprehensions, isinstance of a class of one's own, a tuple taken many times -/
namespace DP
open PySem L2 C8
/-! ### range(a, b, c) -/
def irngS (lo st : Int) (n : Nat) : List D := (List.range n).map fun (k : Nat) => D.int (lo + (k : Int) * st)
theorem irngS_len {lo st : Int} {n : Nat} : (irngS lo st n).length = n := by unfold irngS; rw [List.length_map, List.length_range]
theorem irngS_get {lo st : Int} {n i : Nat} {d : D} (h : (irngS lo st n)[i]? = some d) : i < n ∧ d = .int (lo + (i : Int) * st) := by
  unfold irngS at h
  rw [List.getElem?_map] at h
  by_cases hi : i < n
  · rw [List.getElem?_range hi] at h
    simp at h
    exact ⟨hi, h.symm⟩
  · rw [List.getElem?_eq_none (by simpa using hi)] at h
    simp at h
theorem itc_ok {K : PySem.W.Frag} {lo st : Int} {n : Nat} {H0 : Hp} {S0 : SS} : ItOk K (Itc lo st n) (irngS lo st n) (fun _ => True) H0 S0 := fun H S m _ _ i => ⟨fun d hd => by
    obtain ⟨h1, h2⟩ := irngS_get hd
    subst h2
    refine ⟨h1, fun x H' y => ?_⟩
    obtain ⟨e1, e2⟩ := y
    subst e1 e2
    exact ⟨rep_int.mpr rfl, m, Stp.refl⟩, fun h _ => by rw [irngS_len] at h; exact h⟩
section
variable {c : Ctx} {e a b d tg iter : Expr} {es : List Expr} {ρ : DEnv} {S : SS} {pos p p2 pos2 apos : Pos} {te ta tb td : RE} {la : RL}
theorem qi_range3 (hm : c.X.mg "range" = none) (ha : QE c a ta) (hb : QE c b tb) (hd : QE c d td) (hg : Gl c.X "range" := by rfl)
    (hs1 : starEach [a, b, d] c.X.env = (false, eval a c.X.env) :: starEach [b, d] c.X.env := by rfl) (hs2 : starEach [b, d] c.X.env = (false, eval b c.X.env) :: starEach [d] c.X.env := by rfl) (hs3 : starEach [d] c.X.env = (false, eval d c.X.env) :: starEach [] c.X.env := by rfl) (hpl : (backTo pos (starEach [b, d] c.X.env)).any (·.1) = false := by rfl) :
    QI c tg (.Call (.Name "range" p) [a, b, d] [] pos) fun ρ S R => ta ρ S fun x S1 => tb ρ S1 fun y S2 => td ρ S2 fun z S3 => rint x fun i => rint y fun j => rint z fun k => ∃ n, RgC i j k n ∧ R (irngS i k n) (fun _ => True) S3 :=
  ⟨fun ρ S R h => JI.of (pi_range3 hg hm (pa_cons PEt (pa_cons PEt (pa_cons PEt pa_nil hs3) hs2) hs1) hs1 hpl) fun σ H ds => by
    refine (ha.run _ _ _ h).then ds fun x S1 v H1 r1 d1 s1 h1 => (hb.run _ _ _ h1).then d1 fun y S2 w H2 r2 d2 s2 h2 => (hd.run _ _ _ h2).then d2 fun z S3 u H3 r3 d3 s3 h3 => ?_
    obtain ⟨i, rfl, h4⟩ := rint_ok h3
    obtain ⟨j, rfl, h5⟩ := rint_ok h4
    obtain ⟨k, rfl, n, rg, q⟩ := rint_ok h5
    exact ⟨i, j, k, n, by rw [rep_int.mp r1, rep_int.mp r2, rep_int.mp r3], rg, _, _, S3, d3.sim, s1.trans (s2.trans s3), itc_ok, q⟩⟩
/-! ### list(range(a, b)) -/
theorem q_listRg2 (hm : c.X.mg "list" = none) (hm2 : c.X.mg "range" = none) (ha : QE c a ta) (hb : QE c b tb) (hg : Gl c.X "list" := by rfl) (hg2 : Gl c.X "range" := by rfl) (hc : c.X.calm = true := by rfl)
    (na : starEach [a, b] c.X.env = (false, eval a c.X.env) :: starEach [b] c.X.env := by rfl) (nb : starEach [b] c.X.env = (false, eval b c.X.env) :: starEach [] c.X.env := by rfl) (hp : (backTo pos2 (starEach [b] c.X.env)).any (·.1) = false := by rfl)
    (hs : starEach [.Call (.Name "range" p2) [a, b] [] pos2] c.X.env = (false, eval (.Call (.Name "range" p2) [a, b] [] pos2) c.X.env) :: starEach [] c.X.env := by rfl) :
    QE c (.Call (.Name "list" p) [.Call (.Name "range" p2) [a, b] [] pos2] [] pos) fun ρ S Q => ta ρ S fun x S1 => tb ρ S1 fun y S2 => rI2 (fun i j => RgOk i j ∧ Q (.fl (irng i (j - i).toNat)) S2) x y :=
  ⟨fun ρ S Q h => JE.of (pe_listRg hc hg hm (prg_2 hg2 hm2 PEt PEt na nb hp) hs) fun σ H ds => by
    refine (ha.run _ _ _ h).then ds fun x S1 v H1 r1 d1 s1 h1 => (hb.run _ _ _ h1).then d1 fun y S2 w H2 r2 d2 s2 h2 => ?_
    obtain ⟨i, j, rfl, rfl, ok, q⟩ := rI2_ok h2
    refine ⟨i, j, rep_int.mp r1, rep_int.mp r2, ok, fun a ha => ?_⟩
    obtain ⟨st, sm, e⟩ := d2.sim.new (o := .lst (rgV i j)) ha
    refine ⟨_, S2, rep_fl.mpr ⟨a, _, rfl, SqL.of e, ?_⟩, sm, s1.trans (s2.trans st), q⟩
    have key : ∀ l : List Nat, Reps c.X.K (im (upd H2 a (.lst (rgV i j))) S2) (l.map fun (k : Nat) => D.int (i + (k : Int))) (l.map fun k => V.int (i + (k : Nat))) := fun l => by
      induction l with
      | nil => exact Reps.nil
      | cons n l ih => exact Reps.cons (rep_int.mpr rfl) ih
    exact key _⟩
/-! ### methods called in a comprehension -/
section
variable {s : Shared} {H : Hp} {scope : Scope} {D' C : Addr} {cl : List (Str × Addr)} {fp : List Addr} {o : Expr} {to : RE} {m : Str} {k : Nat} {sp : DSp} {pl : Sem Bool}
theorem q_methB (F : Mn c.X.prog c.X.w c.X.K c.X.mg c.X.base k C m sp) (kc : Cls c.X.K C) (hr : Room k c.X.A) (ho : QE (DP.blkC c s H scope D' cl fp) o to) (ha : QA (DP.blkC c s H scope D' cl fp) (e :: es) la)
    (hst : starEach (e :: es) (DP.blkC c s H scope D' cl fp).X.env = (false, eval e (DP.blkC c s H scope D' cl fp).X.env) :: starEach es (DP.blkC c s H scope D' cl fp).X.env := by rfl) (hpl : (backTo pos (starEach es (DP.blkC c s H scope D' cl fp).X.env)).any (·.1) = false := by rfl)
    (ht : eval (.Call (.Attribute o m apos) (e :: es) [] pos) (DP.blkC c s H scope D' cl fp).X.env = (do
      let ov ← eval o (DP.blkC c s H scope D' cl fp).X.env
      standAt apos.atName
      let (f, first) ← holding [ov] (getMethod ov m pl)
      callWith pos f first (backTo pos (starEach (e :: es) (DP.blkC c s H scope D' cl fp).X.env)) (backToKw pos (keywordEach [] (DP.blkC c s H scope D' cl fp).X.env))) := by rfl) :
    QE (DP.blkC c s H scope D' cl fp) (.Call (.Attribute o m apos) (e :: es) [] pos) fun ρ S Q => to ρ S fun x S1 => ∃ a fs, x = .ref a ∧ S1 a = some (.ins C fs) ∧ fs.lookup m = none ∧ la ρ S1 fun ds S2 => sp (.ref a :: ds) S2 Q fun _ _ _ => False :=
  q_meth (c := DP.blkC c s H scope D' cl fp) F kc hr ho ha hst hpl ht
theorem q_meth0B (F : Mn c.X.prog c.X.w c.X.K c.X.mg c.X.base k C m sp) (kc : Cls c.X.K C) (hr : Room k c.X.A) (ho : QE (DP.blkC c s H scope D' cl fp) o to)
    (ht : eval (.Call (.Attribute o m apos) [] [] pos) (DP.blkC c s H scope D' cl fp).X.env = (do
      let ov ← eval o (DP.blkC c s H scope D' cl fp).X.env
      standAt apos.atName
      let (f, first) ← holding [ov] (getMethod ov m pl)
      callWith pos f first (backTo pos (starEach [] (DP.blkC c s H scope D' cl fp).X.env)) (backToKw pos (keywordEach [] (DP.blkC c s H scope D' cl fp).X.env))) := by rfl) :
    QE (DP.blkC c s H scope D' cl fp) (.Call (.Attribute o m apos) [] [] pos) fun ρ S Q => to ρ S fun x S1 => ∃ a fs, x = .ref a ∧ S1 a = some (.ins C fs) ∧ fs.lookup m = none ∧ sp [.ref a] S1 Q fun _ _ _ => False :=
  q_meth0 (c := DP.blkC c s H scope D' cl fp) F kc hr ho ht
end
/-! ### isinstance of a class of one's own: one of its instances -/
theorem q_isiC {x : Str} {C : Addr} (ic : InsC c.X.K C) (hm : c.X.mg "isinstance" = none) (hx : c.X.mg x = some (.ref C)) (ho : QE c e te) (hg : Gl c.X "isinstance" := by rfl) (hg2 : Gl c.X x := by rfl) (hxd : (x == ("__debug__" : Str)) = false := by decide)
    (hs : starEach [e, .Name x p2] c.X.env = (false, eval e c.X.env) :: starEach [.Name x p2] c.X.env := by rfl) (hs2 : starEach [.Name x p2] c.X.env = (false, eval (.Name x p2) c.X.env) :: starEach [] c.X.env := by rfl) (hpl : (backTo pos (starEach [.Name x p2] c.X.env)).any (·.1) = false := by rfl) :
    QE c (.Call (.Name "isinstance" p) [e, .Name x p2] [] pos) fun ρ S Q => te ρ S fun x S1 => ∃ a fs, S1 a = some (.ins C fs) ∧ x = .ref a ∧ Q (.bl true) S1 :=
  have key : ∀ x S1 (Q : D → SS → Prop), (∃ a fs, S1 a = some (.ins C fs) ∧ x = .ref a ∧ Q (.bl true) S1) → CD c (.builtin "isinstance") [x, .ref C] S1 Q := fun x S1 Q ⟨a, fs, h0, e1, q⟩ => by
    subst e1
    refine CD.of (call_isC ic) fun H vs m rv => ?_
    obtain ⟨dx, vs', e1, e2⟩ := m a _ h0
    unfold Reps at rv
    obtain ⟨v, r, rfl, r1, rv⟩ := rv
    unfold Reps at rv
    obtain ⟨u, r', rfl, r2, rv⟩ := rv
    unfold Reps at rv
    subst rv
    exact ⟨a, dx, vs', by rw [rep_ref.mp r1, rep_ref.mp r2], e1, pst_same m (rep_bl.mpr rfl) q⟩
  ⟨fun ρ S Q h => je_callB hm bt_isinstance (ja_cons ((ho.run _ _ _ h).mono fun x S1 h => ja_cons (je_gref hg2 hx (ja_nil (key x S1 Q h)) hxd) hs2) hs) hg (by decide) (by decide) hs hpl⟩
end
end DP

/-! a tuple taken so many times: none, or more than once -/
namespace L2
open PySem PySem.Spec PyProof.Rows
theorem tuple_mul0 (l : Addr) (items : Array Value) (n : Nat) (dd : Option Addr) (sl : Array (Option Value)) (x : Int) (u : Tok) (c0 : (decide (x < -(2 ^ 63)) || decide (x ≥ 2 ^ 63)) = false) (c1 : (items.isEmpty || x == 1) = false) (c2 : (decide (x ≤ 0) || items.isEmpty) = true) :
    Meets (Builtin.«tuple.__mul__» ⟨[.ref l, .int x u], []⟩) (fun _ R s => s.heap.get? l = some { cls := .type "tuple", dict := dd, data := .seq items n, slots := sl } ∧
      R (.ok (.ret (Value.ref s.heap.objs.size))) { s with heap := s.heap.push { cls := Value.type "tuple", data := Data.seq #[] }, toks := s.toks }) :=
  .of_wp fun prog w A R s h => by
    obtain ⟨hp, g, d, tk, os⟩ := s
    obtain ⟨hl, h⟩ := h
    have f1 := AutoSeq1.idx_int
    wp_walk using wpAny_loadPart' hl
    repeat (first
      | (refine wpAny_ite_false (decide_eq_false (by rw [c0]; exact Bool.false_ne_true)) ?_; wp_walk using wpAny_loadPart' hl)
      | (refine wpAny_ite_false (decide_eq_false (by rw [c1]; exact Bool.false_ne_true)) ?_; wp_walk using wpAny_loadPart' hl)
      | (refine wpAny_ite_true (decide_eq_true (by rw [c2])) ?_; wp_walk using wpAny_loadPart' hl))
    exact ⟨_, rfl, h⟩
def rRepT2 (K : PySem.W.Frag) : R2 := fun x y H Q => ∃ l k xs, x = .ref l ∧ y = .int k ∧ SqT K H l xs ∧ xs ≠ [] ∧ k ≠ 1 ∧ -1000000 ≤ k ∧ k ≤ 1000000 ∧ xs.length * k.toNat ≤ 1000000 ∧ ∀ p, H p = none → Q (.ref p) (upd H p (.tup (List.replicate k.toNat xs).flatten))
section
variable {X : Cx}
theorem op_repT2 : OpR X (binaryOp .Mult) (rRepT2 X.K) := by
  intro pins s σ H x y v u Q I rx ry h
  obtain ⟨l, k, xs, rfl, rfl, hT, hne, h1, hk0, hk1, hz, q⟩ := h
  cases rx
  obtain ⟨t, rfl⟩ := ry
  obtain ⟨its, r, ⟨⟨cls, dd, data, sl⟩, ho, hc, n, hd⟩, hs⟩ := I.tuple hT
  simp only at hc hd
  subst hc hd
  have hle : its.length = xs.length := r.length.symm
  have hn : its ≠ [] := fun e => hne (by
    rw [e] at hle
    exact List.eq_nil_of_length_eq_zero hle.symm)
  have hi : its.toArray.isEmpty = false := by
    cases its with
    | nil => exact absurd rfl hn
    | cons a b => rfl
  have hsz0 : its.toArray.size = xs.length := by rw [List.size_toArray, hle]
  have flen0 : k.toNat * its.length ≤ 1000000 := by rw [hle, Nat.mul_comm]; exact hz
  have flen : (List.replicate k.toNat its).flatten.length ≤ sizeLine := by
    rw [PyProof.Rows.lm_len_rep_flat, sizeLine_eq]; omega
  have c0 : (decide (k < -(2 ^ 63)) || decide (k ≥ 2 ^ 63)) = false := by
    rw [decide_eq_false (by omega), decide_eq_false (by omega)] <;> rfl
  have c1 : (its.toArray.isEmpty || k == 1) = false := by
    rw [hi, Bool.false_or]
    exact beq_eq_false_iff_ne.mpr h1
  by_cases hk : k ≤ 0
  · have c2 : (decide (k ≤ 0) || its.toArray.isEmpty) = true := by rw [decide_eq_true hk]; rfl
    have e0 : k.toNat = 0 := by omega
    refine wpAny_binaryOp_repeat_ref (T := "tuple") (U := "int") (by decide) ⟨_, ho, rfl⟩ (fun s' => typeIs_int s' k t) noFill_tuple_mul F.fills_int_mul F.slot_int_rmul repeat_tuple F.slot_int_index.lookup
      (call_meets F.slot_int_rmul (typeIs_int s k t) F.entry_int_rmul (F.args_int_rmul_2 _ _) (int_rmul_tuple k t l its.toArray n dd sl)
        ⟨ho, rfl, ⟨_, ho, rfl⟩, call_meets F.slot_tuple_mul ⟨_, ho, rfl⟩ F.entry_tuple_mul (F.args_tuple_mul_2 _ _) (tuple_mul0 l its.toArray n dd sl k t c0 c1 c2) ⟨ho, ?_⟩⟩)
    refine ⟨.ref s.heap.objs.size, _, I.laid (t' := s.toks) (o := .tup (List.replicate k.toNat xs).flatten) (fun b ob q => Heap.get?_push_of_some _ q) (Nat.le_refl _) ?_, rfl, q _ (I.hok.fresh (Nat.le_refl _))⟩
    rw [e0]
    exact ⟨by rw [sizeLine_eq]; show 0 ≤ _; omega, [], .nil, IsTup.new _ _⟩
  · have hm : ((its.toArray.size : Nat) : Int) * k ≤ 1000000 := by
      rw [hsz0]
      have e : k = (k.toNat : Int) := by omega
      have e2 : ((xs.length * k.toNat : Nat) : Int) ≤ ((1000000 : Nat) : Int) := Int.ofNat_le.mpr hz
      rw [Int.natCast_mul, ← e] at e2
      exact e2
    have c2 : (decide (k ≤ 0) || its.toArray.isEmpty) = false := by
      rw [hi, Bool.or_false]
      exact decide_eq_false hk
    have c4 : Builtin.Tuple.tupleTooMany (((its.toArray.size : Nat) : Int) * k) = false := by
      unfold Builtin.Tuple.tupleTooMany
      rw [sizeLine_eq]
      exact decide_eq_false (by omega)
    refine wpAny_binaryOp_repeat_ref (T := "tuple") (U := "int") (by decide) ⟨_, ho, rfl⟩ (fun s' => typeIs_int s' k t) noFill_tuple_mul F.fills_int_mul F.slot_int_rmul repeat_tuple F.slot_int_index.lookup
      (call_meets F.slot_int_rmul (typeIs_int s k t) F.entry_int_rmul (F.args_int_rmul_2 _ _) (int_rmul_tuple k t l its.toArray n dd sl)
        ⟨ho, rfl, ⟨_, ho, rfl⟩, call_meets F.slot_tuple_mul ⟨_, ho, rfl⟩ F.entry_tuple_mul (F.args_tuple_mul_2 _ _) (tuple_mulW l its.toArray n dd sl k t c0 c1 c2 (by omega) c4 (by rw [size_rep, List.size_toArray]; exact flen)) ⟨ho, ?_⟩⟩)
    rw [size_rep]
    refine ⟨.ref s.heap.objs.size, _, I.laid (t' := s.toks) (o := .tup (List.replicate k.toNat xs).flatten) (fun b ob q => Heap.get?_push_of_some _ q) (Nat.le_refl _) ?_, rfl, q _ (I.hok.fresh (Nat.le_refl _))⟩
    exact ⟨by rw [PyProof.Rows.lm_len_rep_flat, sizeLine_eq, ← hle]; omega, _, r.rep k.toNat, IsTup.new _ _⟩
end
end L2
namespace DP
open PySem L2
variable {c : Ctx} {b : Expr} {es : List Expr} {pos lp : Pos} {tb : RE} {la : RL} {kk : Nat}
theorem q_repT (ha : QA c es la) (hb : QE c b tb) (hl : es.length ≤ 1000 := by decide) : QE c (.BinOp (.Tuple es kk lp) .Mult b pos) fun ρ S Q => la ρ S fun xs S1 => tb ρ S1 fun y S2 => rint y fun i => (xs ≠ [] ∧ i ≠ 1 ∧ -1000000 ≤ i ∧ i ≤ 1000000 ∧ xs.length * i.toNat ≤ 1000000) ∧ Q (.tup (List.replicate i.toNat xs).flatten) S2 :=
  ⟨fun ρ S Q h => JE.of (pe_op op_repT2 (pe_tup PAt) PEt) fun σ H ds => (ha.run _ _ _ h).then ds fun xs S1 vs H1 r1 d1 s1 ⟨hlx, h1⟩ => ⟨by rw [← r1.length, hlx, sizeLine_eq]; omega, fun p hp => by
    obtain ⟨st, sm, e⟩ := d1.sim.new (o := .tup vs) hp
    refine (hb.run _ _ _ h1).then (d1.step sm st) fun y S2 w H2 r2 d2 s2 h2 => ?_
    have e2 := s2 p _ e
    have rr : Reps c.X.K (im H2 S2) xs vs := (r1.mono st).mono s2
    obtain ⟨i, rfl, ⟨g1, g2, g3, g4, g5⟩, q⟩ := rint_ok h2
    refine ⟨p, i, vs, rfl, rep_int.mp r2, sub_im.t (SqT.of e2), fun z => g1 (List.eq_nil_of_length_eq_zero (by rw [r1.length, z]; rfl)), g2, g3, g4, by rw [← r1.length]; exact g5, fun r hr => ?_⟩
    obtain ⟨s4, m4, e4⟩ := d2.sim.new (o := .tup (List.replicate i.toNat vs).flatten) hr
    exact ⟨.tup _, S2, rep_tup.mpr ⟨r, _, rfl, SqT.of e4, reps_flat (rr.mono s4) i.toNat⟩, m4, ((s1.trans st).trans s2).trans s4, q⟩⟩⟩
def rCons3 (ds : List D) (k : D → D → D → Prop) : Prop := match ds with
  | [x, y, z] => k x y z
  | _ => False
theorem k_cons3 {x y z : D} {k : D → D → D → Prop} : rCons3 [x, y, z] k = k x y z := rfl
theorem qs_par3 {a b e : Expr} {i j l : Nat} {x y z : Str} {px py pz pt pt2 : Pos} {kt k2 : Nat} (ni : Nm c i x) (nj : Nm c j y) (nl : Nm c l z) (nd : c.X.N.Nodup) (ha : QA c [a, b, e] la) (hij : i ≠ j := by decide) (hil : i ≠ l := by decide) (hjl : j ≠ l := by decide)
    (hx : c.X.env.scope.names.lookup x = some .local := by rfl) (hy : c.X.env.scope.names.lookup y = some .local := by rfl) (hz : c.X.env.scope.names.lookup z = some .local := by rfl) (hw : swappedStores [.Tuple [.Name x px, .Name y py, .Name z pz] kt pt] (.Tuple [a, b, e] k2 pt2) c.X.env = pure (some [x, y, z]) := by rfl)
    (hs : swapsWithSole [.Tuple [.Name x px, .Name y py, .Name z pz] kt pt] (.Tuple [a, b, e] k2 pt2) pos.line c.X.env = pure false := by rfl) (hc : c.X.calm = true := by rfl) : QS c (.Assign [.Tuple [.Name x px, .Name y py, .Name z pz] kt pt] (.Tuple [a, b, e] k2 pt2) pos) fun ρ S nx _ _ _ => la ρ S fun ds S1 => rCons3 ds fun d e f => nx (((ρ.set i (some d)).set j (some e)).set l (some f)) S1 :=
  ⟨fun ρ S nx rt bk ct h => JS.of (ps_par3 hc nd ni.at_ nj.at_ nl.at_ hij hil hjl hx hy hz PAt hw hs) fun σ H ds => ((ha.run _ _ _ h).mono fun _ _ h => h.2).then ds fun dsa S1 vs H1 r d1 s1 q => by
    match dsa, q, r with
    | [d, e, f], q, r =>
      unfold Reps at r
      obtain ⟨v, t1, rfl, r1, r⟩ := r
      unfold Reps at r
      obtain ⟨u, t2, rfl, r2, r⟩ := r
      unfold Reps at r
      obtain ⟨w, t3, rfl, r3, r⟩ := r
      unfold Reps at r
      subst r
      exact ⟨v, u, w, rfl, ((ρ.set i (some d)).set j (some e)).set l (some f), S1, ((d1.sl.set r1).set r2).set r3, d1.sim, s1, q⟩⟩
end DP

/-! a suite cut in two: what comes behind the statement is a name -/
namespace DP
open PySem L2
theorem qz_consX {c : Ctx} {st : Stmt} {sts : List Stmt} {z1 z2 : RZ} (h1 : QS c st z1) (h2 : QZ c sts z2) : QZ c (st :: sts) fun ρ S nx rt bk ct => ∀ R : DEnv → SS → Prop, (∀ ρ S, z2 ρ S nx rt bk ct → R ρ S) → z1 ρ S R rt bk ct :=
  ⟨fun ρ S nx rt bk ct h => (qz_cons h1 h2).run _ _ _ _ _ _ (h _ fun _ _ x => x)⟩
end DP

/-! a lambda without parameters, handed to a def -/
namespace DP
open PySem PySem.Spec PyProof.Rows L2 LamX
/-- the context of a lambda's body -/
def lamC (c : DP.Ctx) (A : Around) (outer : List Env) (s : Shared) (H : Hp) (E : XK) (scope : Scope) (f c' : Addr) (Ed : Value → Option Addr → SS → Prop) : DP.Ctx where
  X := lamCx c.X A outer s H E scope f c'
  W := fun cls d _ H' => E cls d H'
  tk := takes_of rfl rfl rfl rfl
  DX := fun cls d _ S' => Ed cls d S'
/-- what a call does: the store, what is wanted of a value, of an exception -/
abbrev RCall := SS → (D → SS → Prop) → (Value → Option Addr → SS → Prop) → Prop
/-- what a def that is handed a lambda promises -/
abbrev DLam := RCall → SS → (D → SS → Prop) → Prop
section
variable {K : PySem.W.Frag} {H H' : Hp} {S : SS}
theorem not_ext {a : Addr} {o : MO} {p : Heap → Prop} (h : SimO K H S a o) (e : H a = some (.ext p)) : False := by
  cases o with
  | lst xs => obtain ⟨vs, e1, e2⟩ := h; rw [e1] at e; cases e
  | dk xs => obtain ⟨vs, e1, e2⟩ := h; rw [e1] at e; cases e
  | dt xs => obtain ⟨vs, e1, e2⟩ := h; rw [e1] at e; cases e
  | ins C fs => obtain ⟨dx, vs, e1, e2⟩ := h; rw [e1] at e; cases e
  | xd fs => obtain ⟨vs, e1, e2⟩ := h; rw [e1] at e; cases e
  | fdk od vs fs => have e1 := h.1; rw [e1] at e; cases e
  | tb T => obtain ⟨⟨ps, e1⟩, _⟩ := h; rw [e1] at e; cases e
theorem im_code {c : Addr} {q : Str} (m : Sim K H S) (e : H c = some (CodeO c q)) : im H S c = some (CodeO c q) := by
  cases h : S c with
  | none => exact im_of h e
  | some o => exact (not_ext (m c o h) e).elim
theorem TabM.tabS {P : Addr} {q : Str} (h : TabM H S P q) : TabS H P q := by
  obtain ⟨ps, e1, e2, e3⟩ := h
  exact ⟨ps, e1, e2, fun pos cv hc => let ⟨c, z1, z2⟩ := e3 pos cv hc; ⟨c, z1, sub_im _ _ z2⟩⟩
/-- the tables alone have grown -/
theorem sim_tabs {a : Addr} {T : List (Addr × Str)} (m : Sim K H S) (ha : S a = some (.tb T)) (e : ExtN H H') (t : Tabs T H') (haT : ∃ q, (a, q) ∈ T) : Sim K H' S ∧ Stp H S H' S := by
  have st : Stp H S H' S := fun b o h => by
    obtain ⟨⟨h1, h2⟩, h3⟩ := im_is h
    exact im_of h1 (e b o h2 fun ps z => by rw [z] at h3; cases h3) h3
  have keep : ∀ b o, S b = some o → isTbM o = false → H' b = H b := fun b o h1 h2 => by
    have so := m b o h1
    obtain ⟨u, hu⟩ := so.there
    rw [hu]
    refine e b u hu fun ps z => ?_
    have := so.tbl (by rw [hu, z])
    rw [h2] at this; cases this
  have noX : ∀ c q, H' c = some (CodeO c q) → im H' S c = some (CodeO c q) := fun c q hc => by
    cases h : S c with
    | none => exact im_of h hc
    | some o =>
      cases ho : isTbM o with
      | false =>
        have := keep c o h ho
        rw [hc] at this
        exact (not_ext (m c o h) this.symm).elim
      | true =>
        cases o with
        | tb T' =>
          obtain ⟨rfl, rfl⟩ := (m a _ ha).2.2 c T' h
          obtain ⟨q', hq⟩ := haT
          obtain ⟨ps, e1, _⟩ := t _ hq
          have e1 : H' c = some (.tbl ps) := e1
          rw [hc] at e1; cases e1
        | _ => cases ho
  refine ⟨fun b o h => ?_, st⟩
  cases ho : isTbM o with
  | false => exact (m b o h).mono st (keep b o h ho) fun z => by rw [ho] at z; cases z
  | true =>
    cases o with
    | tb T' =>
      obtain ⟨rfl, rfl⟩ := (m a _ ha).2.2 b T' h
      obtain ⟨q', hq⟩ := haT
      refine ⟨?_, fun p hp => ?_, (m b _ ha).2.2⟩
      · obtain ⟨ps, e1, _⟩ := t _ hq; exact ⟨ps, e1⟩
      · obtain ⟨ps, e1, e2, e3⟩ := t p hp
        exact ⟨ps, e1, e2, fun pos cv hc => let ⟨c, z1, z2⟩ := e3 pos cv hc; ⟨c, z1, noX c _ z2⟩⟩
    | _ => cases ho
end
/-- the lambda, called, does as tlS says -/
def LiftL (K : PySem.W.Frag) (H0 : Hp) (S0 : SS) (tl : XK → Hp → VK → Prop) (tlS : RCall) : Prop := ∀ (S1 : SS) (H1 : Hp) (Qd : D → SS → Prop) (Ed : Value → Option Addr → SS → Prop) (Q : VK) (E : XK), tlS S1 Qd Ed → Sim K H1 S1 → Stp H0 S0 H1 S1 →
  (∀ d S' v H', Qd d S' → Rep K (im H' S') d v → Sim K H' S' → Stp H1 S1 H' S' → Q v H') → (∀ cls dd S' H', Ed cls dd S' → Sim K H' S' → Stp H1 S1 H' S' → E cls dd H') → tl E H1 Q
def liftT (K : PySem.W.Frag) (sp : DLam) : (XK → Hp → VK → Prop) → Hp → VK → Prop := fun tl H Q => ∃ S Qd tlS, Sim K H S ∧ LiftL K H S tl tlS ∧ sp tlS S Qd ∧ ∀ d S' v H', Qd d S' → Rep K (im H' S') d v → Sim K H' S' → Stp H S H' S' → Q v H'
/-- the def that stands at the module's name x, and is handed a lambda -/
structure LamFn (P : Program) (w : World) (K : PySem.W.Frag) (mg : Str → Option Value) (base : Heap) (x : Str) (sp : DLam) : Prop where
  ex : ∃ (g : Addr) (pg : Arguments) (bg : List Stmt) (sg : Scope) (dV kV doc pm cdv ct oc : Value) (an od : Option Addr) (osl : Array (Option Value)) (Ng : List Str) (a : Str), mg x = some (.ref g) ∧ PySem.W.keepIn K (.ref g) = true ∧
    K.lookup g = some ⟨oc, od, .func (PySem.W.fnOf x x pg bg sg dV kV doc pm an cdv ct), osl⟩ ∧ PySem.W.codeIn K cdv x = true ∧ L2.Binds K (PySem.W.fnOf x x pg bg sg dV kV doc pm an cdv ct) [a] [] ∧ FnScope Ng [a] sg ∧ Ng[0]? = some a ∧ Vis sg a ∧
    ((a == ("__debug__" : Str)) = false ∧ (a == ("__classdict__" : Str)) = false) ∧
    ∀ (X : Cx) (q : Str), X.prog = P → X.w = w → X.K = K → X.mg = mg → X.base = base → Room 1 X.A → GivesTo X Ng x sg g cdv bg a q (liftT K sp)
section
variable {c : DP.Ctx} {x : Str} {sp : DLam} {cc T0 : Addr} {k : Nat} {params : Arguments} {body : Expr} {scope : Scope} {lpos p pos : Pos} {te : (Value → Option Addr → SS → Prop) → RE}
theorem q_lam {P : Addr} {T : List (Addr × Str)} (F : LamFn c.X.prog c.X.w c.X.K c.X.mg c.X.base x sp) (hg : Gl c.X x) (TB : TabB c.X.base c.X.mg cc P) (hcode : c.X.env.code = .ref cc) (hmT : (P, c.X.env.qual ++ "<lambda>") ∈ T) (hT0 : ∃ q, (T0, q) ∈ T) (hu : ∀ p ∈ T, p.1 = P → p.2 = c.X.env.qual ++ "<lambda>")
    (hr : Room (k + 2) c.X.A) (L : LamS c.X.env.scope scope) (hdef : defaultsOf params c.X.env = ([], []))
    (hbind : ∀ (q : Str) (cl : List (Str × Addr)) (pm cv ctv : Value), bindArgs (PySem.W.kla_fn "<lambda>" q params body scope cl pm cv ctv) ⟨[], []⟩ = pure [])
    (hbody : ∀ (A : Around) (outer : List Env) (s : Shared) (H : Hp) (E : XK) (f c' : Addr) (Ed : Value → Option Addr → SS → Prop), Room k (A.deeper (lamEnv c.X scope s.heap.objs.size f c')) → QE (lamC c A outer s H E scope f c' Ed) body (te Ed))
    (hdb : (x == ("__debug__" : Str)) = false := by decide) :
    QE c (.Call (.Name x p) [.Lambda params body scope lpos] [] pos) fun ρ S Q => S T0 = some (.tb T) ∧ sp (fun S1 Q1 Ed1 => te Ed1 ρ S1 Q1) S Q := by
  obtain ⟨g, pg, bg, sg, dV, kV, doc, pm, cdv, ct, oc, an, od, osl, Ng, a, hm, hk, lk, hcg, hb, Sg, hNg, hva, ⟨hd, hcd⟩, hG⟩ := F.ex
  refine ⟨fun ρ S Q ⟨hP, h⟩ => JE.of (pe_lamcall (T := T) (TT := liftT c.X.K sp) (t := fun E σ H Q => ∀ (A : Around) (outer : List Env) (s : Shared) (H0 : Hp) (f c' : Addr), Room k (A.deeper (lamEnv c.X scope s.heap.objs.size f c')) → tE (lamCx c.X A outer s H0 E scope f c') body σ H Q)
    hg hm hk lk hcg hb Sg hNg hva (hG c.X _ rfl rfl rfl rfl rfl (hr.mono (by omega))) TB hcode hmT hu hr L hdef hbind (fun A outer s H E f c' hr2 => ⟨fun pins s' σ H' Q' I hh => hh A outer s H f c' hr2 pins s' I⟩) hdb hd hcd) fun σ H ds => ?_⟩
  have so := ds.sim T0 _ hP
  refine ⟨fun p hp => (so.2.1 p hp).tabS, fun H1 eN t1 => ?_⟩
  obtain ⟨sm, st⟩ := sim_tabs ds.sim hP eN t1 hT0
  refine ⟨S, Q, _, sm, ?_, h, fun d S' v H' hq r m s2 => ⟨d, S', r, m, st.trans s2, hq⟩⟩
  intro S1 H2 Qd Ed Q2 E htl sm2 st2 hQ hE A outer s H0 f c' hr2
  have j := (hbody A outer s H0 E f c' Ed hr2).run ρ S1 Qd htl
  have d2 : Ds (lamC c A outer s H0 E scope f c' Ed) σ H2 ρ S1 := ⟨(ds.sl.step st).step st2, sm2, fun cls d σ' H' ρ' S' q _ m' s' => hE cls d S' H' q m' s', fun cls d σ' H' S' q m' s' => hE cls d S' H' q m' s'⟩
  exact tE_mono (j σ H2 d2) fun v H' ⟨d, S', r, m, s', q⟩ => hQ d S' v H' q r m s'
/-- the same, the def's name apart (the texts must not be unfolded) -/
theorem q_lamN {P : Addr} {T : List (Addr × Str)} (qn : Str) (F : LamFn c.X.prog c.X.w c.X.K c.X.mg c.X.base x sp) (hg : Gl c.X x) (TB : TabB c.X.base c.X.mg cc P) (hcode : c.X.env.code = .ref cc) (hqn : c.X.env.qual = qn) (hmT : (P, qn ++ "<lambda>") ∈ T) (hT0 : ∃ q, (T0, q) ∈ T) (hu : ∀ p ∈ T, p.1 = P → p.2 = qn ++ "<lambda>")
    (hr : Room (k + 2) c.X.A) (L : LamS c.X.env.scope scope) (hdef : defaultsOf params c.X.env = ([], []))
    (hbind : ∀ (q : Str) (cl : List (Str × Addr)) (pm cv ctv : Value), bindArgs (PySem.W.kla_fn "<lambda>" q params body scope cl pm cv ctv) ⟨[], []⟩ = pure [])
    (hbody : ∀ (A : Around) (outer : List Env) (s : Shared) (H : Hp) (E : XK) (f c' : Addr) (Ed : Value → Option Addr → SS → Prop), Room k (A.deeper (lamEnv c.X scope s.heap.objs.size f c')) → QE (lamC c A outer s H E scope f c' Ed) body (te Ed))
    (hdb : (x == ("__debug__" : Str)) = false := by decide) :
    QE c (.Call (.Name x p) [.Lambda params body scope lpos] [] pos) fun ρ S Q => S T0 = some (.tb T) ∧ sp (fun S1 Q1 Ed1 => te Ed1 ρ S1 Q1) S Q :=
  q_lam (T := T) F hg TB hcode (by rw [hqn]; exact hmT) hT0 (fun p hp e => by rw [hqn]; exact hu p hp e) hr L hdef hbind hbody hdb
end
/-! the def that is handed a lambda -/
/-- its context -/
def gC (P : Program) (w : World) (K : PySem.W.Frag) (mg : Str → Option Value) (base : Heap) (N : List Str) (qual : Str) (sg : Scope) (g : Addr) (cdg : Value) (A : Around) (stack : List Env) (s : Shared) (H : Hp) : DP.Ctx :=
  ⟨(cxOf C8.CX0 P w K mg base N qual sg g cdg A stack s H C8.E0).nox, fun _ _ _ _ => False, LamX.takes0, fun _ _ _ _ => False⟩
/-- the lambda called, in a try's body -/
def ActS (c : DP.Ctx) (a : Str) (f c' : Addr) (q : Str) (G : Hp) (tlS : RCall) : Prop := ∀ (W : WX) (pn : List (Addr × Obj)) (xe : Value → Shared → Prop) (tk : Takes (c.X.tr pn xe) W) (DX : Value → Option Addr → DEnv → SS → Prop) (p1 p2 : Pos),
  QE (trC c W pn xe tk DX) (.Call (.Name a p1) [] [] p2) fun ρ S Q => rv ρ 0 fun d => d = .lam f c' q G ∧ tlS S Q fun cls d S' => DX cls d (List.replicate c.X.N.length none) S'
/-- a def's promise, by the reading of its body -/
theorem lam_mk {P : Program} {w : World} {K : PySem.W.Frag} {mg : Str → Option Value} {base : Heap} {x a : Str} {st : Stmt} {g : Addr} {fd : FuncData} {N : List Str} {sp : DLam} (F : Fun K x x st g fd) (hm : mg x = some (.ref g)) (hb : L2.Binds K fd [a] [])
    (Sc : FnScope N [a] (defScope st)) (hN : N[0]? = some a) (hv : Vis (defScope st) a) (hd : (a == ("__debug__" : Str)) = false) (hcd : (a == ("__classdict__" : Str)) = false) (hN1 : 1 ≤ N.length)
    (body : ∀ (cdv : Value) (A : Around) (stack : List Env) (s : Shared) (H : Hp) (f c' : Addr) (q : Str) (G : Hp) (tlS : RCall) (S : SS) (Q : D → SS → Prop), Room 0 (gC P w K mg base N x (defScope st) g cdv A stack s H).X.A → ActS (gC P w K mg base N x (defScope st) g cdv A stack s H) a f c' q G tlS → sp tlS S Q →
      JSs (gC P w K mg base N x (defScope st) g cdv A stack s H) (defBody st) (startD N [.lam f c' q G]) S (fun _ S' => Q .non S') Q (fun _ _ => False) (fun _ _ => False)) : LamFn P w K mg base x sp := by
  obtain ⟨oc, od, kV, doc, pm, an, cdv, ct, osl, rfl, lk, hcd'⟩ := F.ex
  refine ⟨g, defArgs st, defBody st, defScope st, .none, kV, doc, pm, cdv, ct, oc, an, od, osl, N, a, hm, F.kp, lk, hcd', hb, Sc, hN, hv, ⟨hd, hcd⟩, ?_⟩
  rintro X q rfl rfl rfl rfl rfl hR
  intro f c' s H Q tl act hc ⟨S, Qd, tlS, sm, hL, hsp, hQ⟩
  have hact : ActS (gC X.prog X.w X.K X.mg X.base N x (defScope st) g cdv X.A X.stack s H) a f c' q (im H S) tlS := by
    intro W pn xe tk DX p1 p2
    refine ⟨fun ρ S1 Q1 h => JE.of (act W pn xe (fun cls d H' => ∀ σ', W cls d σ' H') p1 p2 tk fun cls d σ' H' h => h σ') fun σ H1 ds => ?_⟩
    obtain ⟨d, e, rfl, htl⟩ := rv_ok h
    obtain ⟨v, e1, e2⟩ := ds.sl.at_ 0 _ e
    obtain ⟨rfl, g1, g2⟩ := rep_lam.mp e2
    refine ⟨e1, sub_im _ _ g1, hL S1 H1 Q1 _ _ _ htl ds.sim g2 (fun d S' v H' hq r m st => ⟨d, S', r, m, st, hq⟩) fun cls dd S' H' hq m st σ' => ds.exA cls dd σ' H' S' hq m st⟩
  have j := body cdv X.A X.stack s H f c' q (im H S) tlS S Qd (hR.deeper _) hact hsp
  have sl : Sl X.K H S (L2.start N [.ref f]) (startD N [.lam f c' q (im H S)]) := start_sl (Reps.cons (rep_lam.mpr ⟨rfl, im_code sm hc, fun _ _ z => z⟩) Reps.nil) hN1
  exact ⟨_, PSst, tSs_mono (j (L2.start N [.ref f]) H ⟨sl, sm, fun _ _ _ _ _ _ z => z.elim, fun _ _ _ _ _ z => z.elim⟩) ⟨fun σ' H' ⟨ρ', S', _, m', st', q⟩ => hQ .non S' .non H' q (rep_non.mpr rfl) m' st', fun v H' ⟨d, S', rv, m', st', q⟩ => hQ d S' v H' q rv m' st', fun σ' H' ⟨_, _, _, _, _, z⟩ => z.elim, fun σ' H' ⟨_, _, _, _, _, z⟩ => z.elim⟩⟩
/-! a def whose code object is known -/
structure FunC (K : PySem.W.Frag) (x qual : Str) (st : Stmt) (f : Addr) (fd : FuncData) (cc : Addr) : Prop where
  ex : ∃ (oc : Value) (od : Option Addr) (kV doc pm : Value) (an : Option Addr) (ct : Value) (osl : Array (Option Value)),
    fd = PySem.W.fnOf x qual (defArgs st) (defBody st) (defScope st) .none kV doc pm an (.ref cc) ct ∧ K.lookup f = some ⟨oc, od, .func fd, osl⟩ ∧ PySem.W.codeIn K (.ref cc) qual = true
  kp : PySem.W.keepIn K (.ref f) = true
theorem FunC.fun_ {K : PySem.W.Frag} {x qual : Str} {st : Stmt} {f : Addr} {fd : FuncData} {cc : Addr} (F : FunC K x qual st f fd cc) : Fun K x qual st f fd := by
  obtain ⟨oc, od, kV, doc, pm, an, ct, osl, e, lk, hcd⟩ := F.ex
  exact ⟨⟨oc, od, kV, doc, pm, an, _, ct, osl, e, lk, hcd⟩, F.kp⟩
theorem fn_okC {P : Program} {w : World} {K : PySem.W.Frag} {mg : Str → Option Value} {base : Heap} {nm qual : Str} {st : Stmt} {f cc : Addr} {fd : FuncData} {N ps : List Str} {k : Nat} {sp : DSp} (F : FunC K nm qual st f fd cc)
    (Sc : FnScope N ps (defScope st)) (hl : ∀ ds S Q E, sp ds S Q E → ds.length = ps.length)
    (body : ∀ (A : Around) (outer : List Env) (s : Shared) (H : Hp) (E : XK) (Ed : Value → Option Addr → SS → Prop) (ds : List D) (S : SS) (Q : D → SS → Prop), Room k (fnC P w K mg base N qual st f (.ref cc) A outer s H E Ed).X.A → sp ds S Q Ed →
      JSs (fnC P w K mg base N qual st f (.ref cc) A outer s H E Ed) (defBody st) (startD N ds) S (fun _ S' => Q .non S') Q (fun _ _ => False) (fun _ _ => False)) : FnOk P w K mg base (L2.CX P w) (k + 1) f fd ps (lift K sp) := by
  obtain ⟨oc, od, kV, doc, pm, an, ct, osl, rfl, lk, hcd⟩ := F.ex
  refine fn_of lk hcd Sc (fun vs H Q E ⟨ds, S, Qd, Ed, r, _, h, _⟩ => by rw [← r.length]; exact hl ds S Qd Ed h) fun A outer s H vs Q E hr ⟨ds, S, Qd, Ed, r, m, h, hQ, hE⟩ => ?_
  have hps : ps.length ≤ N.length := by
    have := congrArg List.length Sc.pre
    rw [List.length_take] at this
    omega
  have sl : Sl K H S (L2.start N vs) (startD N ds) := start_sl r (by rw [hl ds S Qd Ed h]; exact hps)
  have j := body A outer s H E Ed ds S Qd hr h
  exact ⟨_, PSst, tSs_mono (j (L2.start N vs) H ⟨sl, m, fun cls d σ' H' ρ' S' q _ m' st' => hE cls d S' H' q m' st', fun cls d σ' H' S' q m' st' => hE cls d S' H' q m' st'⟩) ⟨fun σ' H' ⟨ρ', S', _, m', st', q⟩ => hQ .non S' .non H' q (rep_non.mpr rfl) m' st', fun v H' ⟨d, S', rv, m', st', q⟩ => hQ d S' v H' q rv m' st', fun σ' H' ⟨_, _, _, _, _, q⟩ => q.elim, fun σ' H' ⟨_, _, _, _, _, q⟩ => q.elim⟩⟩
theorem fn_mkC {P : Program} {w : World} {K : PySem.W.Frag} {mg : Str → Option Value} {base : Heap} {x nm qual : Str} {st : Stmt} {f cc : Addr} {fd : FuncData} {N ps : List Str} {k : Nat} {sp : DSp} (F : FunC K nm qual st f fd cc) (hm : mg x = some (.ref f)) (hb : Binds K fd ps [])
    (Sc : FnScope N ps (defScope st)) (hl : ∀ ds S Q E, sp ds S Q E → ds.length = ps.length)
    (body : ∀ (A : Around) (outer : List Env) (s : Shared) (H : Hp) (E : XK) (Ed : Value → Option Addr → SS → Prop) (ds : List D) (S : SS) (Q : D → SS → Prop), Room k (fnC P w K mg base N qual st f (.ref cc) A outer s H E Ed).X.A → sp ds S Q Ed →
      JSs (fnC P w K mg base N qual st f (.ref cc) A outer s H E Ed) (defBody st) (startD N ds) S (fun _ S' => Q .non S') Q (fun _ _ => False) (fun _ _ => False)) : Fn P w K mg base (k + 1) x sp :=
  ⟨f, fd, ps, hm, F.kp, hb, fn_okC F Sc hl body⟩
/-! two except clauses -/
section
variable {c : DP.Ctx}
theorem qs_try2 {body s1 s2 : List Stmt} {b1 b2 : Stmt} {x1 x2 : Str} {c1 c2 : Value} {n1 n2 h1 h2 tp : Pos} {tb : (Value → Option Addr → DEnv → SS → Prop) → RZ} {t1 t2 : RZ} (hs : c.X.stack = c.X.env :: c.X.outer) (hf : c.X.env.frame = some c.X.env.locals) (hn1 : Names c.X x1 c1) (hn2 : Names c.X x2 c2)
    (hb : ∀ (W : WX) (pn : List (Addr × Obj)) (xe : Value → Shared → Prop) (tk : Takes (c.X.tr pn xe) W) (DX : Value → Option Addr → DEnv → SS → Prop), PassesOwn (model c.X.prog c.X.w) c.X.A c.X.env xe → QZ (trC c W pn xe tk DX) body (tb DX))
    (hu1 : ∀ (a : Addr) (pn : List (Addr × Obj)), QZ (suC c a pn) (b1 :: s1) t1) (hu2 : ∀ (a : Addr) (pn : List (Addr × Obj)), QZ (suC c a pn) (b2 :: s2) t2) :
    QS c (.Try body [.ExceptHandler (some (.Name x1 n1)) none (b1 :: s1) h1, .ExceptHandler (some (.Name x2 n2)) none (b2 :: s2) h2] [] [] tp) fun ρ S nx rt bk ct =>
      tb (fun cls d ρ' S' => ∃ b, PySem.W.exmOne c.X.K cls c1 = some b ∧ if b = true then t1 ρ' S' nx rt bk ct else ∃ b', PySem.W.exmOne c.X.K cls c2 = some b' ∧ if b' = true then t2 ρ' S' nx rt bk ct else c.DX cls d ρ' S') ρ S nx rt bk ct :=
  ⟨fun ρ S nx rt bk ct h => JS.of (ps_try_many (tb := fun W D σ H => ∀ pn xe (tk : Takes (c.X.tr pn xe) W), PassesOwn (model c.X.prog c.X.w) c.X.A c.X.env xe → tSs (c.X.tr pn xe) body D σ H) hs hf c.tk
      (fun W pn xe tk po => ⟨fun pins s σ H D I h => h pn xe tk po pins s I⟩)
      (HdsOk.cons (ts := fun a cls d D σ H => ∀ pn, tSs (c.X.suite a pn) (b1 :: s1) D σ H) hn1 (fun a oe cls d pn _ _ => ⟨fun pins s σ H D I h => h _ pins s I⟩)
        (HdsOk.cons (ts := fun a cls d D σ H => ∀ pn, tSs (c.X.suite a pn) (b2 :: s2) D σ H) hn2 (fun a oe cls d pn _ _ => ⟨fun pins s σ H D I h => h _ pins s I⟩) .nil))) fun σ H ds pn xe tk po => by
    have j := (hb _ pn xe tk _ po).run _ _ _ _ _ _ h
    refine j σ H ⟨ds.sl, ds.sim, fun cls d σ' H' ρ' S' ⟨b, g1, g2⟩ sl m st => ⟨b, g1, fun e a na pn => ?_, fun e => ?_⟩, fun cls d σ' H' S' ⟨b, g1, g2⟩ m st => ⟨b, g1, fun e a na pn => ?_, fun e => ?_⟩⟩
    · rw [e, if_pos rfl] at g2
      exact su_run hu1 g2 sl m st pn
    · rw [e, if_neg Bool.false_ne_true] at g2
      obtain ⟨b', g3, g4⟩ := g2
      refine ⟨b', g3, fun e a na pn => ?_, fun e => ?_⟩
      · rw [e, if_pos rfl] at g4
        exact su_run hu2 g4 sl m st pn
      · rw [e, if_neg Bool.false_ne_true] at g4
        exact ds.ex cls d σ' H' ρ' S' g4 sl m st
    · rw [e, if_pos rfl] at g2
      exact su_runA hu1 g2 m st pn
    · rw [e, if_neg Bool.false_ne_true] at g2
      obtain ⟨b', g3, g4⟩ := g2
      refine ⟨b', g3, fun e a na pn => ?_, fun e => ?_⟩
      · rw [e, if_pos rfl] at g4
        exact su_runA hu2 g4 m st pn
      · rw [e, if_neg Bool.false_ne_true] at g4
        exact ds.exA cls d σ' H' S' g4 m st⟩
end
/-! the law's end with tables -/
/-- the law's own promise: one entry of the store stands for the tables -/
def spLawT (T0 : Addr) (T : List (Addr × Str)) : DSp := fun ds S Q _ => ∃ ns : List Int, ds = [.fl (ns.map D.int)] ∧ ns.length ≤ 63 ∧ (∀ z ∈ ns, Builtin.Int.intBits z ≤ 1048576) ∧ S = (fun a => if a = T0 then some (.tb T) else none) ∧ ∀ S', Q (.bl true) S'
theorem law_spT {K : PySem.W.Frag} {T0 : Addr} {T : List (Addr × Str)} {cs : List (Addr × Addr)} (hc : ∀ p ∈ T, p.1 ∈ cs.map (·.2)) (h0 : T0 ∈ cs.map (·.2)) {H : Hp} {a : Addr} {ns : List Int} (hl : ns.length ≤ 63) (hb : ∀ z ∈ ns, Builtin.Int.intBits z ≤ 1048576)
    (hH : ∀ p ∈ cs, H p.2 = some (.tbl #[])) (hs : SqL K H a (ns.map V.int)) (hK : K.lookup T0 = none) : lift K (spLawT T0 T) [.ref a] H (fun v _ => v = .bl true) fun _ _ _ => False := by
  have hT : ∀ P ∈ cs.map (·.2), H P = some (.tbl #[]) := fun P hP => by
    obtain ⟨p, hp, rfl⟩ := List.mem_map.mp hP
    exact hH p hp
  have haT : a ≠ T0 := fun e => by
    have h1 := hT T0 h0
    rw [e] at hs
    rcases hs with (h | ⟨o, h⟩) | ⟨o, vs, _, h, _⟩
    · rw [h] at h1; cases h1
    · rw [h] at h1; cases h1
    · rw [hK] at h; cases h
  refine ⟨[.fl (ns.map D.int)], fun b => if b = T0 then some (.tb T) else none, fun d _ => d = .bl true, fun _ _ _ => False, ?_, ?_, ⟨ns, rfl, hl, hb, rfl, fun _ => rfl⟩, fun d S' v H' hq r _ _ => ?_, fun _ _ _ _ z _ _ => z.elim⟩
  · exact Reps.cons (rep_fl.mpr ⟨a, _, rfl, sql_im hs (if_neg haT), reps_ints'⟩) Reps.nil
  · intro b o h
    have h : (if b = T0 then some (MO.tb T) else none) = some o := h
    by_cases e : b = T0
    · rw [if_pos e] at h
      cases h
      refine ⟨⟨_, by rw [e]; exact hT T0 h0⟩, fun p hp => ⟨_, hT p.1 (hc p hp), True.intro, fun pos cv hc => ?_⟩, fun b' T' h' => ?_⟩
      · have z : codeAmong pos [] = some cv := hc
        simp [codeAmong] at z
      · have h' : (if b' = T0 then some (MO.tb T) else none) = some (MO.tb T') := h'
        by_cases e' : b' = T0
        · rw [if_pos e'] at h'; cases h'; exact ⟨by rw [e', e], rfl⟩
        · rw [if_neg e'] at h'; cases h'
    · rw [if_neg e] at h; cases h
  · subst hq
    exact rep_bl.mp r
end DP

/-! several except clauses, each with a name or without -/
namespace DP
open PySem PySem.Spec PyProof.Rows L2
/-- a suite's reading, the error at slot i while it runs -/
def inSuite : Option Nat → TS → Addr → TS
  | none, t, _ => t
  | some i, t, ea => fun D τ G => t ⟨fun τ' G' => D.nx (τ'.set i none) G', D.rt, fun τ' G' => D.bk (τ'.set i none) G', fun τ' G' => D.ct (τ'.set i none) G'⟩ (τ.set i (some (.ref ea))) G
/-- a clause: its class, its name's slot, its suite's reading -/
abbrev Cl := Value × Option Nat × (Addr → Value → Option Addr → TS)
def wAny (K : PySem.W.Frag) (Wo : WX) (D : Ends) : List Cl → WX
  | [] => Wo
  | k :: ks => fun cls d τ G => ∃ b, PySem.W.exmOne K cls k.1 = some b ∧ (b = true → ∀ ea, G ea = none → inSuite k.2.1 (k.2.2 ea cls d) ea D τ G) ∧ (b = false → wAny K Wo D ks cls d τ G)
inductive Cls (X : Cx) : List ExceptHandler → List Cl → Prop
  | nil : Cls X [] []
  | bare {x : Str} {c : Value} {ts : Addr → Value → Option Addr → TS} {b : Stmt} {su : List Stmt} {p1 p2 : Pos} {hds : List ExceptHandler} {ks : List Cl} (hc : Names X x c)
      (hsu : ∀ (ea : Addr) (oe : Obj) (cls : Value) (d : Option Addr) (pn : List (Addr × Obj)), Zc cls d oe → (∃ vs, oe.data = .fields vs) → PSs (X.suite ea ((ea, oe) :: pn)) (b :: su) (ts ea cls d)) (r : Cls X hds ks) :
      Cls X (.ExceptHandler (some (.Name x p1)) none (b :: su) p2 :: hds) ((c, none, ts) :: ks)
  | named {x n : Str} {i : Nat} {c : Value} {ts : Addr → Value → Option Addr → TS} {b : Stmt} {su : List Stmt} {p1 p2 : Pos} {hds : List ExceptHandler} {ks : List Cl} (hi : X.N[i]? = some n) (hln : X.env.kindOf n = some .local) (hc : Names X x c)
      (hsu : ∀ (ea : Addr) (oe : Obj) (cls : Value) (d : Option Addr) (pn : List (Addr × Obj)), Zc cls d oe → (∃ vs, oe.data = .fields vs) → PSs (X.suite ea ((ea, oe) :: pn)) (b :: su) (ts ea cls d)) (r : Cls X hds ks) :
      Cls X (.ExceptHandler (some (.Name x p1)) (some n) (b :: su) p2 :: hds) ((c, some i, ts) :: ks)
section
variable {X : Cx} {Wo : WX} {body : List Stmt} {tb : WX → TS} {h0 : ExceptHandler} {hds : List ExceptHandler} {ks : List Cl} {tp : Pos}
/-- what a caught error looks like in the frame -/
structure Flew (X : Cx) (Wo : WX) (pins : List (Addr × Obj)) (B : Heap) (ea : Addr) (cls : Value) (d : Option Addr) (τ : L2.St) (G : Hp) (s1 : Shared) : Prop where
  fly : HandSPX.FlyingZ B (X.env :: X.outer) ea (Zc cls d) s1.heap
  inv : ∀ hx, HandSPX.FlyingZ B (X.env :: X.outer) ea (Zc cls d) hx → s1.heap.UpToSlots hx → Inv X pins τ G { s1 with heap := hx }
  inv0 : Inv X pins τ G s1
  out : ∀ hx, HandSPX.HeldZ B (X.env :: X.outer) ea (Zc cls d) X.env.locals hx → s1.heap.UpToSlots hx → Wo cls d τ G → X.xe (.ref ea) { s1 with heap := hx }
  gn : G ea = none
  nL : ea ≠ X.env.locals
  nF : ea ∉ X.fs
theorem Flew.test {pins : List (Addr × Obj)} {B : Heap} {ea : Addr} {cls c : Value} {d : Option Addr} {τ : L2.St} {G : Hp} {s1 : Shared} {x : Str} {p1 : Pos} {b : Bool} {Q : Bool → Shared → Prop} {E : Value → Shared → Prop} (F : Flew X Wo pins B ea cls d τ G s1) (hc : Names X x c) (hb : PySem.W.exmOne X.K cls c = some b)
    (q : Q b s1) : wpAny (model X.prog X.w) (X.A.mark (some (.ref ea))) (eval (.Name x p1) X.env) (fun u s2 => wpAny (model X.prog X.w) (X.A.mark (some (.ref ea))) (excMatches (.ref ea) u) Q E s2) E s1 := by
  obtain ⟨oe, vs, he, hz, hd⟩ := F.fly.there
  have S := F.inv0.suite he hd F.gn F.nL F.nF
  have ty : PySem.W.Looks (model X.prog X.w) s1.heap (typeOf (.ref ea)) cls := fun A Q E s k z => wpAny_typeOf_ref (k _ _ he) (by rw [hz.1]; exact z)
  have mt := (PySem.W.exm_one (M := model X.prog X.w) F.inv0.kIn ty hb).here (A := X.A.mark (some (.ref ea))) (Q := Q) (E := E) q
  obtain ⟨hg, hdb, hm | ⟨hm, hv, hnn⟩⟩ := hc
  · exact ld_glob (X := X.suite ea ((ea, oe) :: (X.pn ++ pins))) S hg hm mt hdb
  · exact ld_blt (X := X.suite ea ((ea, oe) :: (X.pn ++ pins))) S hg hm hv mt hnn hdb
/-- the suite's end: slots of the frame alone have changed -/
theorem suite_end {pins : List (Addr × Obj)} {ea : Addr} {oe : Obj} {D : Ends} {f : Flow} {s6 : Shared} (ok : X.Ok) (q : SP (X.suite ea ((ea, oe) :: (X.pn ++ pins))) [] D f s6) : SP X pins D f s6 := by
  cases f with
  | ret u => obtain ⟨v6, τ6, G6, S6, r6, q6⟩ := q; exact ⟨v6, τ6, G6, S6.unsuite ok, r6, q6⟩
  | next => obtain ⟨τ6, G6, S6, q6⟩ := q; exact ⟨τ6, G6, S6.unsuite ok, q6⟩
  | brk => obtain ⟨τ6, G6, S6, q6⟩ := q; exact ⟨τ6, G6, S6.unsuite ok, q6⟩
  | cont => obtain ⟨τ6, G6, S6, q6⟩ := q; exact ⟨τ6, G6, S6.unsuite ok, q6⟩
theorem suite_endN {pins : List (Addr × Obj)} {ea : Addr} {oe : Obj} {D : Ends} {f : Flow} {s6 : Shared} {i : Nat} {n : Str} {p2 : Pos} {E : Value → Shared → Prop} (ok : X.Ok) (hN : X.N.Nodup) (hi : X.N[i]? = some n) (hln : X.env.kindOf n = some .local)
    (q : SP (X.suite ea ((ea, oe) :: (X.pn ++ pins))) [] ⟨fun τ' G' => D.nx (τ'.set i none) G', D.rt, fun τ' G' => D.bk (τ'.set i none) G', fun τ' G' => D.ct (τ'.set i none) G'⟩ f s6) :
    wpAny (model X.prog X.w) X.A (do bindName X.env n .none; unbindBehindTheSuite X.env n p2) (fun _ s7 => SP X pins D f s7) E s6 := by
  cases f with
  | ret u => obtain ⟨v6, τ6, G6, S6, r6, q6⟩ := q; exact gone_ok (S6.unsuite ok) hN hi hln fun s7 J => ⟨v6, _, _, J, r6, q6⟩
  | next => obtain ⟨τ6, G6, S6, q6⟩ := q; exact gone_ok (S6.unsuite ok) hN hi hln fun s7 J => ⟨_, _, J, q6⟩
  | brk => obtain ⟨τ6, G6, S6, q6⟩ := q; exact gone_ok (S6.unsuite ok) hN hi hln fun s7 J => ⟨_, _, J, q6⟩
  | cont => obtain ⟨τ6, G6, S6, q6⟩ := q; exact gone_ok (S6.unsuite ok) hN hi hln fun s7 J => ⟨_, _, J, q6⟩
theorem Flew.handle {pins : List (Addr × Obj)} {B : Heap} {ea : Addr} {cls : Value} {d : Option Addr} {τ : L2.St} {G : Hp} {s1 : Shared} {D : Ends} (ok : X.Ok) (hN : X.N.Nodup) (hf : X.env.frame = some X.env.locals) (F : Flew X Wo pins B ea cls d τ G s1) :
    ∀ {hds : List ExceptHandler} {ks : List Cl}, Cls X hds ks → wAny X.K Wo D ks cls d τ G → wpAny (model X.prog X.w) X.A (handleBy (.ref ea) X.env hds) (SP X pins D) X.xe s1 := by
  intro hds ks hk
  induction hk with
  | nil =>
    intro wish
    refine wpAny_handleBy_nil ?_
    obtain ⟨_, _, _, o1, v1, T1, oT1, t1, g1, _, g2, g3, _⟩ := id F.fly
    unfold PySem.passOn
    refine wpAny_bind (wpAny_field g1 g2 g3 ?_)
    rw [if_neg (by simp : ¬ ((Value.ref T1 == Value.none) = true))]
    have up : wpAny (model X.prog X.w) X.A (setFlight (.ref ea) X.env.frame) (fun _ s8 => wpAny (model X.prog X.w) X.A (throw (.ref ea) : Sem Flow) (SP X pins D) X.xe s8) X.xe s1 := by
      rw [hf]
      exact HandSPX.setFlight_upZ F.fly fun hx hh u => wpAny_throw (F.out hx hh u wish)
    first
      | exact wpAny_bind (wpAny_pure (wpAny_bind up))
      | exact wpAny_bind up
  | @bare x c ts b0 su p1 p2 hds2 ks2 hc hsu r ih =>
    rintro ⟨b, hb, yes, no⟩
    refine wpAny_handleBy_cons (codeAny_handlers_test (F.test hc hb ?_)) (by intro q; cases q)
    cases b with
    | false => exact ih (no rfl)
    | true =>
      refine codeAny_handlers_suite (HandSPX.lands_againZ F.fly fun hx fl u => ?_)
      obtain ⟨o2, v2, g1, g2, g3⟩ := fl.there
      exact wpAny_mono ((hsu ea o2 cls d (X.pn ++ pins) g2 ⟨_, g3⟩).run [] _ _ G _ ((F.inv hx fl u).suite g1 g3 F.gn F.nL F.nF) (yes rfl ea F.gn)) (fun f s6 q => suite_end ok q) (fun _ _ z => z.elim)
  | @named x n i c ts b0 su p1 p2 hds2 ks2 hi hln hc hsu r ih =>
    rintro ⟨b, hb, yes, no⟩
    refine wpAny_handleBy_cons (codeAny_handlers_test (F.test hc hb ?_)) (by intro q; cases q)
    cases b with
    | false => exact ih (no rfl)
    | true =>
      refine codeAny_handlers_suite_as (HandSPX.lands_againZ F.fly fun hx fl u => ?_)
      obtain ⟨o2, v2, g1, g2, g3⟩ := fl.there
      refine store_ok (X := X.suite ea ((ea, o2) :: (X.pn ++ pins))) (v := .ref ea) ((F.inv hx fl u).suite g1 g3 F.gn F.nL F.nF) hN hi (.inl hln) rfl (fun s5 S5 => ?_) (.inr hln)
      exact wpAny_mono ((hsu ea o2 cls d (X.pn ++ pins) g2 ⟨_, g3⟩).run [] s5 _ G _ S5 (yes rfl ea F.gn)) (fun f s6 q => suite_endN ok hN hi hln q) (fun _ _ z => z.elim)
theorem ps_try_any (hs : X.stack = X.env :: X.outer) (hf : X.env.frame = some X.env.locals) (hN : X.N.Nodup) (tk : Takes X Wo)
    (hb : ∀ (W : WX) (pn : List (Addr × Obj)) (xe : Value → Shared → Prop), Takes (X.tr pn xe) W → PassesOwn (model X.prog X.w) X.A X.env xe → PSs (X.tr pn xe) body (tb W))
    (hh : Cls X (h0 :: hds) ks) : PS X (.Try body (h0 :: hds) [] [] tp) (fun D τ G => tb (wAny X.K Wo D ks) D τ G) := by
  refine ⟨fun pins s τ G D I h => ?_⟩
  have ok := I.ok
  have hfr : X.A.frames = some (X.env :: X.outer) := by rw [ok.frames, hs]
  refine wpAny_Try_except (wpAny_mono ((hb (wAny X.K Wo D ks) (X.pn ++ pins) (fun u s1 => wpAny (model X.prog X.w) X.A (noteFrame u X.env) (fun _ s2 => wpAny (model X.prog X.w) X.A (setFlight u none)
    (fun _ s3 => wpAny (model X.prog X.w) X.A (handleBy u X.env (h0 :: hds)) (SP X pins D) X.xe s3) X.xe s2) X.xe s1) ?_ PassesOwn.looking).run [] s τ G D (I.toTry _) h) ?_ fun u s1 z => z)
  · rintro u s2 ⟨ea, B, sI, pins2, τ2, G2, cls, d, rfl, I2, nb, up, sky, gn, os, ag, wish⟩
    have J : Inv X pins τ2 G2 sI := I2.ofTry ok
    have sk : Sky B (X.env :: X.outer) ea (Zc cls d) X.env.locals s2.heap := hs ▸ sky
    refine Sky.land Zc.steady hfr hf sk fun h3 fl u3 => ?_
    obtain ⟨o3, v3, g1, g2, g3⟩ := fl.there
    have away : ea ∉ frs (X.env :: X.outer) := fun hm => by
      obtain ⟨_, o4, e4, nf⟩ := fl.2.2.1.mem hm
      rw [g1] at e4
      cases e4
      exact nf _ g3
    refine Flew.handle (B := B) (s1 := { s2 with heap := h3 }) ok hN hf ⟨fl, fun hx fx ux => J.landed nb fx.1 ((up.trans u3).trans ux) os ag, J.landed nb fl.1 (up.trans u3) os ag, fun hx hh ux w => tk _ _ ?_, gn, fun z => away (List.mem_filterMap.mpr ⟨X.env, List.mem_cons_self, by rw [hf, z]⟩), fun hm => ?_⟩ hh wish
    · exact ⟨ea, B, sI, pins, τ2, G2, cls, d, rfl, J, nb, (up.trans u3).trans ux, .inr (.inr (by rw [hs]; exact hh)), gn, os, ag, w⟩
    · obtain ⟨e, he, q⟩ := List.mem_filterMap.mp hm
      exact away (List.mem_filterMap.mpr ⟨e, List.mem_cons_of_mem _ he, q⟩)
  · intro f s1 q
    cases f with
    | next => obtain ⟨τ2, G2, J, q⟩ := q; exact wpAny_execs_nil ⟨τ2, G2, J.ofTry ok, q⟩
    | ret u => obtain ⟨v, τ2, G2, J, r, q⟩ := q; exact ⟨v, τ2, G2, J.ofTry ok, r, q⟩
    | brk => obtain ⟨τ2, G2, J, q⟩ := q; exact ⟨τ2, G2, J.ofTry ok, q⟩
    | cont => obtain ⟨τ2, G2, J, q⟩ := q; exact ⟨τ2, G2, J.ofTry ok, q⟩
end
end DP
namespace DP
open PySem PySem.Spec PyProof.Rows L2
/-! the same, as a reading -/
def rSu : Option Nat → RZ → Addr → RZ
  | none, t, _ => t
  | some i, t, ea => fun ρ S nx rt bk ct => t (ρ.set i (some (.ref ea))) S (fun ρ' S' => nx (ρ'.set i none) S') rt (fun ρ' S' => bk (ρ'.set i none) S') (fun ρ' S' => ct (ρ'.set i none) S')
abbrev QCl := Value × Option Nat × (Addr → Value → Option Addr → RZ)
def rCls (K : PySem.W.Frag) (DX : Value → Option Addr → DEnv → SS → Prop) (nx : NK) (rt : RK) (bk ct : NK) : List QCl → Value → Option Addr → DEnv → SS → Prop
  | [] => DX
  | k :: ks => fun cls d ρ S => ∃ b, PySem.W.exmOne K cls k.1 = some b ∧ if b = true then ∀ ea, rSu k.2.1 (k.2.2 ea cls d) ea ρ S nx rt bk ct else rCls K DX nx rt bk ct ks cls d ρ S
/-- a suite's context, the error in hand -/
abbrev suE (c : Ctx) (ea : Addr) (oe : Obj) (pn : List (Addr × Obj)) : Ctx := suC c ea ((ea, oe) :: pn)
inductive QCls (c : Ctx) : List ExceptHandler → List QCl → Prop
  | nil : QCls c [] []
  | bare {x : Str} {c0 : Value} {t : Addr → Value → Option Addr → RZ} {b : Stmt} {su : List Stmt} {p1 p2 : Pos} {hds : List ExceptHandler} {ks : List QCl} (hc : Names c.X x c0)
      (hsu : ∀ (ea : Addr) (oe : Obj) (cls : Value) (d : Option Addr) (pn : List (Addr × Obj)), Zc cls d oe → (∃ vs, oe.data = .fields vs) → QZ (suE c ea oe pn) (b :: su) (t ea cls d)) (r : QCls c hds ks) :
      QCls c (.ExceptHandler (some (.Name x p1)) none (b :: su) p2 :: hds) ((c0, none, t) :: ks)
  | named {x n : Str} {i : Nat} {c0 : Value} {t : Addr → Value → Option Addr → RZ} {b : Stmt} {su : List Stmt} {p1 p2 : Pos} {hds : List ExceptHandler} {ks : List QCl} (hi : c.X.N[i]? = some n) (hln : c.X.env.kindOf n = some .local) (hc : Names c.X x c0)
      (hsu : ∀ (ea : Addr) (oe : Obj) (cls : Value) (d : Option Addr) (pn : List (Addr × Obj)), Zc cls d oe → (∃ vs, oe.data = .fields vs) → QZ (suE c ea oe pn) (b :: su) (t ea cls d)) (r : QCls c hds ks) :
      QCls c (.ExceptHandler (some (.Name x p1)) (some n) (b :: su) p2 :: hds) ((c0, some i, t) :: ks)
section
variable {c : Ctx}
theorem Sl.setN {K : PySem.W.Frag} {H : Hp} {S : SS} {σ : L2.St} {ρ : DEnv} {i : Nat} (h : Sl K H S σ ρ) : Sl K H S (σ.set i none) (ρ.set i none) := by
  refine ⟨by rw [List.length_set, List.length_set]; exact h.len, fun j e hj => ?_⟩
  rw [List.getElem?_set] at hj
  split at hj
  · split at hj <;> cases hj
  · rename_i ne
    obtain ⟨v, e1, e2⟩ := h.at_ j e hj
    exact ⟨v, by rw [List.getElem?_set_ne ne]; exact e1, e2⟩
theorem pstE_setN {K : PySem.W.Frag} {H : Hp} {S : SS} {nx bk ct : NK} {rt : RK} {i : Nat} {X : Cx} {pins : List (Addr × Obj)} {f : Flow} {s : Shared} :
    SP X pins (pstE K H S (fun ρ' S' => nx (ρ'.set i none) S') rt (fun ρ' S' => bk (ρ'.set i none) S') (fun ρ' S' => ct (ρ'.set i none) S')) f s →
    SP X pins ⟨fun τ' G' => (pstE K H S nx rt bk ct).nx (τ'.set i none) G', (pstE K H S nx rt bk ct).rt, fun τ' G' => (pstE K H S nx rt bk ct).bk (τ'.set i none) G', fun τ' G' => (pstE K H S nx rt bk ct).ct (τ'.set i none) G'⟩ f s := by
  intro q
  cases f with
  | next => obtain ⟨τ, G, I, ρ', S', sl, m, st, z⟩ := q; exact ⟨τ, G, I, ρ'.set i none, S', sl.setN, m, st, z⟩
  | ret u => exact q
  | brk => obtain ⟨τ, G, I, ρ', S', sl, m, st, z⟩ := q; exact ⟨τ, G, I, ρ'.set i none, S', sl.setN, m, st, z⟩
  | cont => obtain ⟨τ, G, I, ρ', S', sl, m, st, z⟩ := q; exact ⟨τ, G, I, ρ'.set i none, S', sl.setN, m, st, z⟩
/-- a clause's reading over the heap -/
def hCl (c : Ctx) (b : Stmt) (su : List Stmt) : Addr → Value → Option Addr → TS := fun ea cls d D τ G => ∀ oe pn, Zc cls d oe → (∃ vs, oe.data = .fields vs) → tSs (c.X.suite ea ((ea, oe) :: pn)) (b :: su) D τ G
def hCls (c : Ctx) : List ExceptHandler → List QCl → List Cl
  | .ExceptHandler _ _ (b :: su) _ :: hds, k :: ks => (k.1, k.2.1, hCl c b su) :: hCls c hds ks
  | _, _ => []
theorem QCls.cls : ∀ {hds : List ExceptHandler} {ks : List QCl}, QCls c hds ks → Cls c.X hds (hCls c hds ks)
  | _, _, .nil => .nil
  | _, _, .bare hc hsu r => .bare hc (fun ea oe cls d pn hz hv => ⟨fun pins s σ H D I h => h oe pn hz hv pins s I⟩) r.cls
  | _, _, .named hi hln hc hsu r => .named hi hln hc (fun ea oe cls d pn hz hv => ⟨fun pins s σ H D I h => h oe pn hz hv pins s I⟩) r.cls
theorem QCls.wish {H : Hp} {S : SS} {nx bk ct : NK} {rt : RK} (hx : ∀ cls d σ' H' ρ' S', c.DX cls d ρ' S' → Sl c.X.K H' S' σ' ρ' → Sim c.X.K H' S' → Stp H S H' S' → c.W cls d σ' H')
    {cls : Value} {d : Option Addr} {σ' : L2.St} {H' : Hp} {ρ' : DEnv} {S' : SS} (sl : Sl c.X.K H' S' σ' ρ') (m : Sim c.X.K H' S') (st : Stp H S H' S') : ∀ {hds : List ExceptHandler} {ks : List QCl}, QCls c hds ks → rCls c.X.K c.DX nx rt bk ct ks cls d ρ' S' → wAny c.X.K c.W (pstE c.X.K H S nx rt bk ct) (hCls c hds ks) cls d σ' H'
  | _, _, .nil, h => hx cls d σ' H' ρ' S' h sl m st
  | _, _, .bare hc hsu r, ⟨b, e, h⟩ => ⟨b, e, fun z ea na => by
      rw [if_pos z] at h
      intro oe pn hz hv
      exact tSs_mono (((hsu ea oe cls d pn hz hv).run _ _ _ _ _ _ (h ea)) σ' H' ⟨sl, m, fun _ _ _ _ _ _ z => z.elim, fun _ _ _ _ _ z => z.elim⟩) (pstE_step st), fun z => by
      rw [if_neg (by rw [z]; exact Bool.false_ne_true)] at h
      exact QCls.wish hx sl m st r h⟩
  | _, _, .named (i := i) hi hln hc hsu r, ⟨b, e, h⟩ => ⟨b, e, fun z ea na => by
      rw [if_pos z] at h
      intro oe pn hz hv pins s I
      refine wpAny_mono (tSs_mono (((hsu ea oe cls d pn hz hv).run _ _ _ _ _ _ (h ea)) (σ'.set i (some (.ref ea))) H' ⟨sl.set (rep_ref.mpr rfl), m, fun _ _ _ _ _ _ z => z.elim, fun _ _ _ _ _ z => z.elim⟩) (pstE_step st) pins s I) (fun f s6 q => pstE_setN q) fun _ _ z => z, fun z => by
      rw [if_neg (by rw [z]; exact Bool.false_ne_true)] at h
      exact QCls.wish hx sl m st r h⟩
theorem QCls.wishA {H : Hp} {S : SS} {nx bk ct : NK} {rt : RK} (hx : ∀ cls d σ' H' S', c.DX cls d (List.replicate c.X.N.length none) S' → Sim c.X.K H' S' → Stp H S H' S' → c.W cls d σ' H')
    {cls : Value} {d : Option Addr} {σ' : L2.St} {H' : Hp} {S' : SS} (hl : σ'.length ≠ c.X.N.length) (m : Sim c.X.K H' S') (st : Stp H S H' S') : ∀ {hds : List ExceptHandler} {ks : List QCl}, QCls c hds ks → rCls c.X.K c.DX nx rt bk ct ks cls d (List.replicate c.X.N.length none) S' → wAny c.X.K c.W (pstE c.X.K H S nx rt bk ct) (hCls c hds ks) cls d σ' H'
  | _, _, .nil, h => hx cls d σ' H' S' h m st
  | _, _, .bare hc hsu r, ⟨b, e, h⟩ => ⟨b, e, fun z ea na oe pn hz hv pins s I => absurd I.len hl, fun z => by
      rw [if_neg (by rw [z]; exact Bool.false_ne_true)] at h
      exact QCls.wishA hx hl m st r h⟩
  | _, _, .named hi hln hc hsu r, ⟨b, e, h⟩ => ⟨b, e, fun z ea na oe pn hz hv pins s I => absurd (by have := I.len; rw [List.length_set] at this; exact this) hl, fun z => by
      rw [if_neg (by rw [z]; exact Bool.false_ne_true)] at h
      exact QCls.wishA hx hl m st r h⟩
theorem qs_tryN {body : List Stmt} {h0 : ExceptHandler} {hds : List ExceptHandler} {ks : List QCl} {tp : Pos} {tb : (Value → Option Addr → DEnv → SS → Prop) → RZ} (hs : c.X.stack = c.X.env :: c.X.outer) (hf : c.X.env.frame = some c.X.env.locals) (hN : c.X.N.Nodup)
    (hb : ∀ (W : WX) (pn : List (Addr × Obj)) (xe : Value → Shared → Prop) (tk : Takes (c.X.tr pn xe) W) (DX : Value → Option Addr → DEnv → SS → Prop), PassesOwn (model c.X.prog c.X.w) c.X.A c.X.env xe → QZ (trC c W pn xe tk DX) body (tb DX))
    (hh : QCls c (h0 :: hds) ks) : QS c (.Try body (h0 :: hds) [] [] tp) fun ρ S nx rt bk ct => tb (rCls c.X.K c.DX nx rt bk ct ks) ρ S nx rt bk ct :=
  ⟨fun ρ S nx rt bk ct h => JS.of (ps_try_any (tb := fun W D σ H => ∀ pn xe (tk : Takes (c.X.tr pn xe) W), PassesOwn (model c.X.prog c.X.w) c.X.A c.X.env xe → tSs (c.X.tr pn xe) body D σ H) hs hf hN c.tk
      (fun W pn xe tk po => ⟨fun pins s σ H D I h => h pn xe tk po pins s I⟩) hh.cls) fun σ H ds pn xe tk po => by
    refine (hb _ pn xe tk _ po).run _ _ _ _ _ _ h σ H ⟨ds.sl, ds.sim, fun cls d σ' H' ρ' S' z sl m st => hh.wish ds.ex sl m st z, fun cls d σ' H' S' z m st => ?_⟩
    by_cases hl : σ'.length = c.X.N.length
    · refine hh.wish ds.ex ⟨by rw [List.length_replicate, hl]; rfl, fun i d e => ?_⟩ m st z
      rw [List.getElem?_replicate] at e
      split at e <;> cases e
    · exact hh.wishA ds.exA hl m st z⟩
/-! the error in hand: its class, its fields -/
/-- what is asked of an error's class -/
structure ErrC (K : PySem.W.Frag) (C : Addr) : Prop where
  cl : (PySem.W.clsIn K C).isSome = true
  ga : PySem.W.findIn K (.ref C) "__getattribute__" = some (some (.builtin "BaseException.__getattribute__"))
  gg : PySem.W.findIn K (.ref C) "__getattr__" = some none
  sb : PySem.W.subIn K (.ref C) (.type "BaseException") = some true
  hd : PySem.W.hasDictIn K C = true
  kc : PySem.W.findIn K (.ref C) "__class__" = some (some (.builtin "object.__class__"))
  kn : PySem.W.specialIn K (.builtin "object.__class__") "__get__" = some (some (.builtin "getset_descriptor.__get__"))
  kt : PySem.W.takesIn K (.builtin "object.__class__") = some true
  mo : PySem.W.mroIn K C (.type "object") = some true
/-- the dict of an error, as far as it is known -/
def DictOf (d : Option Addr) (S : SS) : Prop := d = none ∨ ∃ dd fs, d = some dd ∧ S dd = some (.xd fs)
end
end DP

/-! a caught error's class and fields -/
namespace DP
open PySem PySem.Spec PyProof.Rows L2
section
variable {c : Ctx} {ea : Addr} {oe : Obj} {cls : Value} {d : Option Addr} {pn : List (Addr × Obj)}
theorem err_inst {C : Addr} {H : Hp} {S : SS} {X : Cx} {pins : List (Addr × Obj)} {σ : L2.St} {s : Shared} (I : Inv (X.suite ea ((ea, oe) :: pn)) pins σ H s) (m : Sim X.K H S) (hz : Zc (.ref C) d oe) (hv : ∃ vs, oe.data = .fields vs) (hd : DictOf d S) : ∃ od, PySem.W.InstAt s.heap ea oe C od := by
  obtain ⟨hget, _⟩ := I.pin (ea, oe) (List.mem_append.mpr (.inl List.mem_cons_self))
  obtain ⟨vs, e⟩ := hv
  have nc : PySem.W.notCls oe = true := by unfold PySem.W.notCls; rw [e] <;> rfl
  rcases hd with hd | ⟨dd, fs, hd, hS⟩
  · refine ⟨none, hget, hz.1, nc, ?_⟩
    rw [hz.2, hd]
    trivial
  · obtain ⟨ws, e1, _⟩ := m dd _ hS
    have ok : ObjOk X.prog X.w H s.heap dd (.xd ws) := I.hok dd _ e1
    obtain ⟨mA, hns, _⟩ := ok
    obtain ⟨od, ho, _⟩ := lookIn_ns hns
    refine ⟨some od, hget, hz.1, nc, ?_⟩
    rw [hz.2, hd]
    exact ho
def errB (K : PySem.W.Frag) (C : Addr) : Bool := (PySem.W.clsIn K C).isSome && (decide (PySem.W.findIn K (.ref C) "__getattribute__" = some (some (.builtin "BaseException.__getattribute__"))) && (decide (PySem.W.findIn K (.ref C) "__getattr__" = some none) &&
  (decide (PySem.W.subIn K (.ref C) (.type "BaseException") = some true) && (PySem.W.hasDictIn K C && (decide (PySem.W.findIn K (.ref C) "__class__" = some (some (.builtin "object.__class__"))) &&
  (decide (PySem.W.specialIn K (.builtin "object.__class__") "__get__" = some (some (.builtin "getset_descriptor.__get__"))) && (decide (PySem.W.takesIn K (.builtin "object.__class__") = some true) && decide (PySem.W.mroIn K C (.type "object") = some true))))))))
theorem errB_ok {K : PySem.W.Frag} {C : Addr} (h : errB K C = true) : ErrC K C := by
  unfold errB at h
  simp only [Bool.and_eq_true, decide_eq_true_eq] at h
  obtain ⟨h1, h2, h3, h4, h5, h6, h7, h8, h9⟩ := h
  exact ⟨h1, h2, h3, h4, h5, h6, h7, h8, h9⟩
/-- isinstance(e, X) -/
def rIsErr (K : PySem.W.Frag) (ea : Addr) (cls : Value) (d : Option Addr) (x : D) (cv : Value) : RC := fun ds S Q => ds = [.ref ea, x] ∧ ∃ C b, cls = .ref C ∧ ErrC K C ∧ DictOf d S ∧ PySem.W.kitOne K (.ref C) cv = some b ∧ Q (.bl b) S
theorem hxO {K : PySem.W.Frag} (a : Addr) : ∀ G v u, Rep K G (.ref a) v → RelV v u → u = .ref a := fun G v u h r => by
  rw [rep_ref.mp h] at r
  exact r
theorem hxB {K : PySem.W.Frag} (n : String) : ∀ G v u, Rep K G (.ty n) v → RelV v u → u = .type n := fun G v u h r => by
  rw [rep_ty.mp h] at r
  exact r
theorem rIsErr_ok {x : D} {cv : Value} (hz : Zc cls d oe) (hv : ∃ vs, oe.data = .fields vs) (hx : ∀ G v u, Rep c.X.K G x v → RelV v u → u = cv) : ∀ ds S Q, rIsErr c.X.K ea cls d x cv ds S Q → CD (suE c ea oe pn) (.builtin "isinstance") ds S Q := by
  rintro ds S Q ⟨rfl, C, b, rfl, E, hd, hk, q⟩ H vs m r pins s σ us I ru
  unfold Reps Reps Reps at r
  obtain ⟨v1, t1, rfl, r1, v2, t2, rfl, r2, rfl⟩ := r
  cases ru with
  | cons u1 u2 =>
    cases u2 with
    | cons u2 u3 =>
      cases u3
      rw [rep_ref.mp r1] at u1
      obtain rfl : _ = Value.ref ea := u1
      obtain rfl := hx _ _ _ r2 u2
      obtain ⟨od, J⟩ := err_inst (X := c.X) I m hz hv hd
      exact PySem.W.kia_one (PySem.W.kitx_exc E.cl E.ga E.gg E.sb E.kc E.kn E.kt E.mo) I.kIn J hk (fun z => nomatch z) fun tk => ⟨.bl b, H, I.kept (t' := tk) fun _ _ z => z, rfl, .bl b, S, rep_bl.mpr rfl, m, Stp.refl, q⟩
theorem repP_lookup {K : PySem.W.Frag} {G : Hp} {f : Str} {y : D} : ∀ {fs : List (Str × D)} {vs : List (Str × V)}, RepP K G fs vs → fs.lookup f = some y → ∃ v, vs.lookup f = some v ∧ Rep K G y v
  | [], _, _, e => by cases e
  | (k, d0) :: fs, vs, r, e => by
    obtain ⟨v0, t0, rfl, r0, rr⟩ := r
    rw [List.lookup_cons] at e ⊢
    split at e
    · cases e; exact ⟨v0, rfl, r0⟩
    · exact repP_lookup rr e
theorem k_isErr {K : PySem.W.Frag} {x y : D} {cv : Value} {S : SS} {Q : D → SS → Prop} : rIsErr K ea cls d x cv [y, x] S Q = ([y, x] = [.ref ea, x] ∧ ∃ C b, cls = .ref C ∧ ErrC K C ∧ DictOf d S ∧ PySem.W.kitOne K (.ref C) cv = some b ∧ Q (.bl b) S) := rfl
theorem bt_ValueError : bootBuiltins "ValueError" = some (.type "ValueError") := by decide +kernel
/-- e.f -/
def rXf (ea : Addr) (cls : Value) (d : Option Addr) (C : Addr) (f : Str) (x : D) (S : SS) (k : D → Prop) : Prop := x = .ref ea ∧ cls = .ref C ∧ ∃ dd fs y, d = some dd ∧ S dd = some (.xd fs) ∧ fs.lookup f = some y ∧ k y
theorem q_xf {C : Addr} {n : Str} {e : Expr} {te : RE} {pos : Pos} (T : XfC c.X.K C) (hno : PySem.W.findIn c.X.K (.ref C) n = some none) (hz : Zc cls d oe) (hv : ∃ vs, oe.data = .fields vs) (he : QE (suE c ea oe pn) e te) (hb : attributeBase e n c.X.env (eval e c.X.env) = eval e c.X.env := by rfl) :
    QE (suE c ea oe pn) (.Attribute e n pos) fun ρ S Q => te ρ S fun x S1 => rXf ea cls d C n x S1 fun y => Q y S1 :=
  ⟨fun ρ S Q h => JE.of (pe_xf (te := fun σ H Q => tE (c.X.suite ea ((ea, oe) :: pn)) e σ H Q) T hno hz hv ⟨fun pins s σ H Q I h => h pins s I⟩ hb) fun σ H ds => by
    refine tE_mono ((he.run _ _ _ h) σ H ds) fun v H' ⟨x, S1, r, m, st, q⟩ => ?_
    obtain ⟨rfl, hc, dd, fs, y, e1, e2, e3, k⟩ := q
    obtain ⟨ws, z1, z2⟩ := m dd _ e2
    obtain ⟨v2, z3, z4⟩ := repP_lookup z2 e3
    exact ⟨rep_ref.mp r, hc, dd, ws, v2, e1, z1, z3, y, S1, z4, m, st, k⟩⟩
end
end DP

/-! a disk and a law's book of it, side by side -/
namespace DP
open PySem L2
structure Tw (C : Addr) (S : SS) (p l w q l2 w2 : Addr) (d1 d2 : DM) : Prop where
  hd : DiskAt C S p l w d1
  hb : BookAt S q l2 w2 d2
  n1 : l ≠ l2
  n2 : w ≠ w2
  n3 : w ≠ q
section
variable {C : Addr} {S S' : SS} {p l w q l2 w2 w' : Addr} {d1 d2 d1' d2' : DM} {fp : List Addr}
theorem Tw.nd (t : Tw C S p l w q l2 w2 d1 d2) : (p ∉ [q, l2, w2] ∧ l ∉ [q, l2, w2] ∧ w ∉ [q, l2, w2]) ∧ (q ∉ [p, l, w] ∧ l2 ∉ [p, l, w] ∧ w2 ∉ [p, l, w]) := by
  obtain ⟨⟨a1, a2, a3⟩, ⟨b1, b2, b3, b4⟩, n1, n2, n3⟩ := t
  have e1 : p ≠ q := fun e => by rw [e, b1] at a1; cases a1
  have e2 : p ≠ l2 := fun e => by rw [e, b2] at a1; cases a1
  have e3 : p ≠ w2 := fun e => by rw [e, b3] at a1; cases a1
  have e4 : l ≠ q := fun e => by rw [e, b1] at a2; cases a2
  have e5 : l ≠ w2 := fun e => by rw [e, b3] at a2; cases a2
  have e6 : w ≠ l2 := fun e => by rw [e, b2] at a3; cases a3
  simp only [List.mem_cons, List.not_mem_nil, or_false, not_or]
  exact ⟨⟨⟨e1, e2, e3⟩, ⟨e4, n1, e5⟩, n3, e6, n2⟩, ⟨e1.symm, e4.symm, n3.symm⟩, ⟨e2.symm, n1.symm, e6.symm⟩, e3.symm, e5.symm, n2.symm⟩
theorem Tw.disk (t : Tw C S p l w q l2 w2 d1 d2) (f : Fr [p, l, w] S S') (k : DiskAt C S' p l w d1') : Tw C S' p l w q l2 w2 d1' d2 :=
  have m := t.nd.2; ⟨k, t.hb.fr f m.1 m.2.1 m.2.2, t.n1, t.n2, t.n3⟩
theorem Tw.book (t : Tw C S p l w q l2 w2 d1 d2) (f : Fr [q, l2, w2] S S') (k : BookAt S' q l2 w2 d2') : Tw C S' p l w q l2 w2 d1 d2' :=
  have m := t.nd.1; ⟨t.hd.fr f m.1 m.2.1 m.2.2, k, t.n1, t.n2, t.n3⟩
theorem Tw.fr (t : Tw C S p l w q l2 w2 d1 d2) (f : Fr fp S S') (n : ∀ z ∈ [p, l, w, q, l2, w2], z ∉ fp) : Tw C S' p l w q l2 w2 d1 d2 :=
  ⟨t.hd.fr f (n _ (by simp)) (n _ (by simp)) (n _ (by simp)), t.hb.fr f (n _ (by simp)) (n _ (by simp)) (n _ (by simp)), t.n1, t.n2, t.n3⟩
theorem Tw.nil (t : Tw C S p l w q l2 w2 d1 d2) (f : Fr [] S S') : Tw C S' p l w q l2 w2 d1 d2 := t.fr f fun z _ => by simp
theorem Tw.cutD (t : Tw C S p l w q l2 w2 d1 d2) (f : Fr [p] S S') (nw : S w' = none) (k : DiskAt C S' p l w' d1') : Tw C S' p l w' q l2 w2 d1' d2 := by
  have m := t.nd.2
  simp only [List.mem_cons, List.not_mem_nil, or_false, not_or] at m
  exact ⟨k, t.hb.fr f (by simpa using m.1.1) (by simpa using m.2.1.1) (by simpa using m.2.2.1), t.n1, ne_some' t.hb.2.2.1 nw, ne_some' t.hb.1 nw⟩
theorem Tw.cutB (t : Tw C S p l w q l2 w2 d1 d2) (f : Fr [q] S S') (nw : S w' = none) (k : BookAt S' q l2 w' d2') : Tw C S' p l w q l2 w' d1 d2' := by
  have m := t.nd.1
  simp only [List.mem_cons, List.not_mem_nil, or_false, not_or] at m
  exact ⟨t.hd.fr f (by simpa using m.1.1) (by simpa using m.2.1.1) (by simpa using m.2.2.1), k, t.n1, ne_some t.hd.2.2 nw, t.n3⟩
theorem Tw.tab {T0 : Addr} {T : List (Addr × Str)} (t : Tw C S p l w q l2 w2 d1 d2) (tb : S T0 = some (.tb T)) : T0 ∉ [p, l, w, q, l2, w2] := by
  obtain ⟨⟨a1, a2, a3⟩, ⟨b1, b2, b3, b4⟩, n1, n2, n3⟩ := t
  simp only [List.mem_cons, List.not_mem_nil, or_false, not_or]
  refine ⟨?_, ?_, ?_, ?_, ?_, ?_⟩ <;> intro e <;> subst e
  · rw [tb] at a1; cases a1
  · rw [tb] at a2; cases a2
  · rw [tb] at a3; cases a3
  · rw [tb] at b1; cases b1
  · rw [tb] at b2; cases b2
  · rw [tb] at b3; cases b3
theorem Tw.hnd {h : Addr} (t : Tw C S p l w q l2 w2 d1 d2) (hh : HandAt S h) (z1 : h ≠ l) (z2 : h ≠ l2) : ∀ z ∈ [p, l, w, q, l2, w2], z ∉ [h] := by
  obtain ⟨cs, i, big, seed, cnt, e, _⟩ := hh
  obtain ⟨⟨a1, a2, a3⟩, ⟨b1, b2, b3, b4⟩, n1, n2, n3⟩ := t
  intro z hz hm
  rw [List.mem_singleton] at hm
  subst hm
  simp only [List.mem_cons, List.not_mem_nil, or_false] at hz
  rcases hz with rfl | rfl | rfl | rfl | rfl | rfl
  · rw [a1] at e; cases e
  · exact z1 rfl
  · rw [a3] at e; cases e
  · rw [b1] at e; cases e
  · exact z2 rfl
  · rw [b3] at e; cases e
theorem Tw.hA {h : Addr} (t : Tw C S p l w q l2 w2 d1 d2) (hh : HandAt S h) (z1 : h ≠ l) (z2 : h ≠ l2) (f : Fr fp S S') (m : ∀ z ∈ fp, z ∈ [p, l, w, q, l2, w2]) : HandAt S' h := hh.fr f fun hm => t.hnd hh z1 z2 h (m h hm) (by simp)
theorem Tw.tA {T0 : Addr} {T : List (Addr × Str)} (t : Tw C S p l w q l2 w2 d1 d2) (tb : S T0 = some (MO.tb T)) (f : Fr fp S S') (m : ∀ z ∈ fp, z ∈ [p, l, w, q, l2, w2]) : S' T0 = some (MO.tb T) := f _ _ tb fun hm => t.tab tb (m _ hm)
theorem hand_tab {S : SS} {h T0 : Addr} {T : List (Addr × Str)} (hh : HandAt S h) (tb : S T0 = some (MO.tb T)) : T0 ≠ h := fun z => by
  obtain ⟨cs, i, big, seed, cnt, e, _⟩ := hh
  rw [← z, tb] at e; cases e
end
theorem lotB_of {m : Int} : ∀ {ms : List Int} {a : Int}, ms.Pairwise (· < ·) → (∀ z ∈ ms, a < z ∧ z < m) → lotB m a ms = true
  | [], _, _, _ => rfl
  | n :: r, a, h, k => by
    obtain ⟨h1, h2⟩ := List.pairwise_cons.mp h
    have k0 := k n List.mem_cons_self
    unfold lotB
    rw [decide_eq_true (by omega : a + 1 ≤ n), decide_eq_true (by omega : n ≤ m - 1), lotB_of h2 fun z hz => ⟨h1 z hz, (k z (List.mem_cons_of_mem _ hz)).2⟩]
    rfl
theorem DOk.pow {d : DM} {y : D} (o : DOk d) (h : y = .non ∨ ∃ n : Int, y = .int n ∧ 0 ≤ n ∧ n ≤ 1000000) : DOk ⟨d.ly, d.wa, y, d.re⟩ :=
  ⟨⟨o.w.nd, o.w.va, h.imp id fun ⟨n, e, h0, _⟩ => ⟨n, e, h0⟩, o.w.sm, o.w.ln⟩, ⟨o.v.ly, o.v.wa⟩⟩
theorem m_bkP {S : SS} {q l w : Addr} {po y : D} {re : Int} {Q : SS → Prop} (h : S q = some (.dk (bkD l w po re))) (z : Q (sup S q (.dk (bkD l w y re)))) : rSetIx S (.ref q) (.str "power") y Q :=
  .inr ⟨_, h, by show 4 < sizeLine; rw [sizeLine_eq]; decide, by rw [show putD (bkD l w po re) (.inr ("power" : Str)) y = bkD l w y re from by kernel_rfl]; exact z⟩
theorem runB_pendY {b : Int} : ∀ {n : Nat} {d : DM}, WOk d → pendL (runB n d b).2.wa ≤ pendL d.wa
  | 0, d, k => Nat.le_refl _
  | n + 1, d, k => by
    have e : runB (n + 1) d b = if hasK d.wa (.inl b) = true then (if stuckB d = true then (false, d) else runB n (d.step b) b) else (true, d) := rfl
    rw [e]
    by_cases h : hasK d.wa (.inl b) = true
    · rw [if_pos h]
      by_cases hs : stuckB d = true
      · rw [if_pos hs]; exact Nat.le_refl _
      · rw [if_neg hs]
        obtain ⟨k1, k2, k3⟩ := k.step h (by simpa using hs)
        have := runB_pendY (n := n) (b := b) k1
        omega
    · rw [if_neg h]; exact Nat.le_refl _
theorem force_pendY : ∀ {bs : List Int} {d : DM}, WOk d → pendL (forceM d bs).2.wa ≤ pendL d.wa
  | [], d, k => Nat.le_refl _
  | b :: r, d, k => by
    have k1 := (runB_ok (n := pendL d.wa) (b := b) k).1
    have p1 := runB_pendY (n := pendL d.wa) (b := b) k
    have e : forceM d (b :: r) = if (runB (pendL d.wa) d b).1 = true then forceM (runB (pendL d.wa) d b).2 r else (false, (runB (pendL d.wa) d b).2) := rfl
    rw [e]
    by_cases h : (runB (pendL d.wa) d b).1 = true
    · rw [if_pos h]
      have := force_pendY (bs := r) k1
      omega
    · rw [if_neg h]; exact p1
/-- only some blocks wait -/
def Few (d : DM) (ns : List Int) : Prop := ∀ b, rowOf d b ≠ [] → b ∈ ns
theorem Few.write {d : DM} {ns : List Int} {b : Int} {x : D} (f : Few d ns) (h : b ∈ ns) : Few (d.write b x) ns := fun c hc => by
  rw [row_write] at hc
  by_cases e : c = b
  · rw [e]; exact h
  · rw [if_neg e] at hc; exact f c hc
theorem Few.step {d : DM} {ns : List Int} {b : Int} (k : WOk d) (f : Few d ns) : Few (d.step b) ns := fun c hc => by
  rw [row_step k] at hc
  by_cases e : c = b
  · rw [if_pos e] at hc
    exact f c fun z => by rw [← e, z] at hc; exact hc rfl
  · rw [if_neg e] at hc; exact f c hc
theorem few_runB {ns : List Int} {b : Int} : ∀ {n : Nat} {d : DM}, WOk d → Few d ns → Few (runB n d b).2 ns
  | 0, d, k, f => f
  | n + 1, d, k, f => by
    have e : runB (n + 1) d b = if hasK d.wa (.inl b) = true then (if stuckB d = true then (false, d) else runB n (d.step b) b) else (true, d) := rfl
    rw [e]
    by_cases h : hasK d.wa (.inl b) = true
    · rw [if_pos h]
      by_cases hs : stuckB d = true
      · rw [if_pos hs]; exact f
      · rw [if_neg hs]
        exact few_runB (k.step h (by simpa using hs)).1 (f.step k)
    · rw [if_neg h]; exact f
theorem few_force {ns : List Int} : ∀ {bs : List Int} {d : DM}, WOk d → Few d ns → Few (forceM d bs).2 ns
  | [], d, k, f => f
  | b :: r, d, k, f => by
    have e : forceM d (b :: r) = if (runB (pendL d.wa) d b).1 = true then forceM (runB (pendL d.wa) d b).2 r else (false, (runB (pendL d.wa) d b).2) := rfl
    rw [e]
    by_cases h : (runB (pendL d.wa) d b).1 = true
    · rw [if_pos h]; exact few_force (runB_ok (n := pendL d.wa) (b := b) k).1 (few_runB k f)
    · rw [if_neg h]; exact few_runB k f
theorem has_rowY {d : DM} {b : Int} (k : WOk d) : hasK d.wa (.inl b) = true ↔ rowOf d b ≠ [] := by
  constructor
  · intro h
    obtain ⟨x, xs, _, e, _⟩ := k.row h
    rw [e]; exact List.cons_ne_nil _ _
  · intro h
    cases e : hasK d.wa (.inl b) with
    | true => rfl
    | false => exact absurd (rowOf_none (by rw [e]; exact Bool.false_ne_true)) h
theorem keys_memY {d : DM} {b : Int} (k : WOk d) : b ∈ d.keys ↔ rowOf d b ≠ [] := by
  rw [← has_rowY k]
  unfold DM.keys
  rw [List.mem_mergeSort, hasK_iff]
  constructor
  · intro h
    obtain ⟨p, hp, e⟩ := List.mem_map.mp h
    obtain ⟨b', x, xs, rfl, _⟩ := k.va p hp
    have e : b' = b := e
    rw [← e]; exact List.mem_map_of_mem hp
  · intro h
    obtain ⟨p, hp, e⟩ := List.mem_map.mp h
    obtain ⟨b', x, xs, rfl, _⟩ := k.va p hp
    have e : (Sum.inl b' : Key) = .inl b := e
    cases e
    exact List.mem_map.mpr ⟨_, hp, rfl⟩
theorem nd_len : ∀ {xs ys : List Int}, xs.Nodup → (∀ x ∈ xs, x ∈ ys) → xs.length ≤ ys.length
  | [], _, _, _ => Nat.zero_le _
  | x :: xs, ys, h, k => by
    obtain ⟨h1, h2⟩ := List.nodup_cons.mp h
    have m := k x List.mem_cons_self
    have := nd_len (xs := xs) (ys := ys.erase x) h2 fun y hy => (List.mem_erase_of_ne (fun e : y = x => h1 (by rw [← e]; exact hy))).mpr (k y (List.mem_cons_of_mem _ hy))
    rw [List.length_erase_of_mem m] at this
    have := List.length_pos_of_mem m
    rw [List.length_cons]; omega
theorem Few.len {d : DM} {ns : List Int} (k : WOk d) (f : Few d ns) : d.wa.length ≤ ns.length := by
  have hs := k.keysNd
  have hsub : ∀ b ∈ d.wa.map keyI, b ∈ ns := fun b hb => f b ((keys_memY k).mp ((List.mergeSort_perm _ _).mem_iff.mpr hb))
  have := nd_len hs hsub
  rw [List.length_map] at this
  exact this
end DP

/-! things of any kind, objects of an own class among them -/
namespace DP
open PySem PySem.Spec PyProof.Rows L2
def sixT : List String := ["int", "bool", "str", "tuple", "list", "dict"]
structure InsX (K : PySem.W.Frag) (C : Addr) : Prop where
  ic : C8.InsC K C
  no : ∀ n ∈ sixT, PySem.W.kitOne K (.ref C) (.type n) = some false
/-- a thing whose kind is known, or an object of the class C -/
def KnX (C : Addr) (S : SS) (x : D) : Prop := Kn S x ∨ ∃ a fs, x = .ref a ∧ S a = some (.ins C fs)
section
variable {C : Addr} {S S' : SS} {x : D}
theorem knx_int {i : Int} : KnX C S (.int i) := .inl kn_int
theorem knx_str {i : Str} : KnX C S (.str i) := .inl kn_str
theorem knx_tup {i : List D} : KnX C S (.tup i) := .inl kn_tup
theorem knx_fl {i : List D} : KnX C S (.fl i) := .inl kn_fl
theorem knx_bl {i : Bool} : KnX C S (.bl i) := .inl kn_bl
theorem knx_non : KnX C S .non := .inl kn_non
theorem KnX.ext (h : KnX C S x) (e : ∀ a o, S a = some o → S' a = some o) : KnX C S' x := by
  rcases h with h | ⟨a, fs, rfl, h⟩
  · exact .inl (h.ext e)
  · exact .inr ⟨a, fs, rfl, e _ _ h⟩
end
section
variable {c : Ctx} {e : Expr} {pos p p2 p3 p4 : Pos} {te : RE} {S : SS} {C : Addr}
theorem cd_isiX {n : String} {x : D} {Q : D → SS → Prop} (X : InsX c.X.K C) (hn : n ∈ sixT) (g : SS → D → Bool) (hc : ∀ (x : D) (S : SS) (Q : D → SS → Prop), Kn S x → Q (.bl (g S x)) S → CD c (.builtin "isinstance") [x, .ty n] S Q) (hz : ∀ S a fs, S a = some (.ins C fs) → g S (.ref a) = false) (h : KnX C S x) (q : Q (.bl (g S x)) S) : CD c (.builtin "isinstance") [x, .ty n] S Q := by
  rcases h with h | ⟨a, fs, rfl, h⟩
  · exact hc x S Q h q
  · rw [hz S a fs h] at q
    intro H vs m r pins s σ us I rv
    unfold Reps Reps Reps at r
    obtain ⟨v1, t1, rfl, r1, v2, t2, rfl, r2, rfl⟩ := r
    rw [rep_ref.mp r1, rep_ty.mp r2] at rv
    obtain ⟨u, w', rfl, ru, rw'⟩ := vals2 rv
    cases rw'
    obtain ⟨dx, vs', e1, _⟩ := m a _ h
    exact isinst_ok I ru (TyOf.ins e1 X.ic.cl X.ic.ha X.ic.hn X.ic.htk X.ic.hm) (X.no n hn) fun tk => ⟨.bl false, H, I.tok _, rfl, .bl false, S, rep_bl.mpr rfl, m, Stp.refl, q⟩
theorem q_isiX {T : Str} {n : String} (X : InsX c.X.K C) (hn6 : n ∈ sixT) (g : SS → D → Bool) (hc : ∀ (x : D) (S : SS) (Q : D → SS → Prop), Kn S x → Q (.bl (g S x)) S → CD c (.builtin "isinstance") [x, .ty n] S Q) (hz : ∀ S a fs, S a = some (.ins C fs) → g S (.ref a) = false) (hm : c.X.mg "isinstance" = none) (ht : c.X.mg T = none) (hv : bootBuiltins T = some (.type n)) (ho : QE c e te)
    (hg : Gl c.X "isinstance" := by rfl) (hg2 : Gl c.X T := by rfl) (hn : T ≠ "__name__" := by decide) (hx : (T == ("__debug__" : Str)) = false := by decide)
    (hs : starEach [e, .Name T p2] c.X.env = (false, eval e c.X.env) :: starEach [.Name T p2] c.X.env := by rfl) (hs2 : starEach [.Name T p2] c.X.env = (false, eval (.Name T p2) c.X.env) :: starEach [] c.X.env := by rfl) (hpl : (backTo pos (starEach [.Name T p2] c.X.env)).any (·.1) = false := by rfl) :
    QE c (.Call (.Name "isinstance" p) [e, .Name T p2] [] pos) fun ρ S Q => te ρ S fun x S1 => KnX C S1 x ∧ Q (.bl (g S1 x)) S1 :=
  ⟨fun ρ S Q h => je_callB hm bt_isinstance (ja_cons ((ho.run _ _ _ h).mono fun x S1 h => ja_cons (je_ty hg2 ht hv (ja_nil (cd_isiX X hn6 g hc hz h.1 h.2)) hn hx) hs2) hs) hg (by decide) (by decide) hs hpl⟩
theorem hzf {f : D → Bool} (h : ∀ a, f (.ref a) = false) : ∀ (S : SS) (a : Addr) (fs : List (Str × D)), S a = some (.ins C fs) → f (.ref a) = false := fun _ a _ _ => h a
theorem hzL : ∀ (S : SS) (a : Addr) (fs : List (Str × D)), S a = some (.ins C fs) → isLs S (.ref a) = false := fun S a fs h => by unfold isLs tyN; dsimp only; rw [h]; rfl
theorem hzD : ∀ (S : SS) (a : Addr) (fs : List (Str × D)), S a = some (.ins C fs) → isDc S (.ref a) = false := fun S a fs h => by unfold isDc tyN; dsimp only; rw [h]; rfl
end
end DP

/-! list.count, list.index of flat things -/
namespace DP
open PySem PySem.Spec PyProof.Rows L2
section
variable {X : Cx}
def rCntF (K : PySem.W.Frag) : V → List V → Hp → VK → Prop := fun x xs H Q => ∃ (a : Addr) (ys : List V) (y : V), x = .ref a ∧ xs = [y] ∧ SqL K H a ys ∧ flatV y = true ∧ ys.all flatV = true ∧ Q (.int ((ys.countP fun z => eqV z y : Nat) : Int)) H
theorem count_flat {y : V} : ∀ {ys : List V} {us : List Value}, Vals ys us → ys.all flatV = true → us.countP (eqU y) = ys.countP fun z => eqV z y
  | _, _, .nil, _ => rfl
  | z :: ys, u :: us, .cons r rs, f => by
    rw [List.all_cons, Bool.and_eq_true] at f
    rw [List.countP_cons, List.countP_cons, count_flat rs f.2, eqU_of r f.1]
theorem mt_countF : MtR X "list.count" (rCntF X.K) := by
  intro pins s τ H x xs v us Q I rx rxs h
  obtain ⟨a, ys, y, rfl, rfl, hs, fy, fys, q⟩ := h
  cases rx
  obtain ⟨u, rfl, ru⟩ := rxs.one
  obtain ⟨its, rv, ⟨⟨c0, d0, dat, sl⟩, n, ho, h1, h2, h3⟩, hlen⟩ := I.list hs
  simp only at h1 h3
  subst h1 h3
  refine call_meets PySem.F.slot_list_count ⟨_, ho, rfl⟩ PySem.F.entry_list_count (PySem.F.args_list_count_2 _ _) (SeqAt.list_countAt a its.toArray n d0 sl u (eqU y)) ⟨ho, fun w hw => mem_eqAt ru fy rv fys w (by simpa using hw), ?_⟩
  have e : its.toArray.toList.countP (eqU y) = ys.countP fun z => eqV z y := count_flat rv fys
  rw [e]
  exact ⟨.int _, H, I.tok _, ⟨s.toks, rfl⟩, q⟩
end
section
variable {c : Ctx} {o e : Expr} {to te : RE} {apos cpos : Pos}
def rLq (x : D) (S : SS) (k : List D → Prop) : Prop := match x with
  | .fl xs => k xs
  | .ref a => ∃ xs, S a = some (.lst xs) ∧ k xs
  | _ => False
theorem rLq_ok {x : D} {S : SS} {k : List D → Prop} (h : rLq x S k) : ∃ xs, IsL S x xs ∧ k xs := by
  cases x with
  | fl xs => exact ⟨xs, .inl rfl, h⟩
  | ref a => obtain ⟨xs, e, h⟩ := h; exact ⟨xs, .inr ⟨a, rfl, e⟩, h⟩
  | _ => exact h.elim
def eqD (y z : D) : Bool := eqV (toV z) (toV y)
theorem q_m_count1 (ho : QE c o to) (ha : QE c e te) (mc : Mc1 c o "count" apos e cpos := by exact ⟨rfl, rfl, rfl, rfl, rfl⟩) : QE c (.Call (.Attribute o "count" apos) [e] [] cpos) fun ρ S Q => to ρ S fun x S1 => rcL S1 x ∧ te ρ S1 fun y S2 => rLq x S2 fun xs => flD y = true ∧ xs.all flD = true ∧ Q (.int ((xs.countP (eqD y) : Nat) : Int)) S2 :=
  q_bmA PySem.F.plainAttrs_list PySem.F.slot_list_count PySem.F.type_list_count (fun _ _ => rcL_ok) (fun x y S Q h H v vs m r rs => by
    obtain ⟨xs, hx, fy, fxs, h⟩ := rLq_ok h
    obtain ⟨u, rfl, ru⟩ := reps1 rs
    obtain ⟨a, ws, rfl, h1, h2⟩ := hx.sq r m
    obtain ⟨rfl, gy⟩ := fl_rep fy ru
    obtain ⟨rfl, gx⟩ := fl_reps fxs h2
    refine tMt_of mt_countF ⟨a, _, _, rfl, rfl, h1, gy, gx, ?_⟩
    rw [List.countP_map]
    exact pst_same m (rep_int.mpr rfl) h) ho ha mc
theorem q_m_index1 (ho : QE c o to) (ha : QE c e te) (mc : Mc1 c o "index" apos e cpos := by exact ⟨rfl, rfl, rfl, rfl, rfl⟩) : QE c (.Call (.Attribute o "index" apos) [e] [] cpos) fun ρ S Q => to ρ S fun x S1 => rcL S1 x ∧ te ρ S1 fun y S2 => rLq x S2 fun xs => flD y = true ∧ xs.all flD = true ∧ ∃ (j : Nat) (z : D), xs[j]? = some z ∧ eqD y z = true ∧ (∀ (i : Nat) (z' : D), i < j → xs[i]? = some z' → eqD y z' = false) ∧ Q (.int (j : Int)) S2 :=
  q_bmA PySem.F.plainAttrs_list PySem.F.slot_list_index PySem.F.type_list_index (fun _ _ => rcL_ok) (fun x y S Q h H v vs m r rs => by
    obtain ⟨xs, hx, fy, fxs, j, z, hj, hz, hno, h⟩ := rLq_ok h
    obtain ⟨u, rfl, ru⟩ := reps1 rs
    obtain ⟨a, ws, rfl, h1, h2⟩ := hx.sq r m
    obtain ⟨rfl, gy⟩ := fl_rep fy ru
    obtain ⟨rfl, gx⟩ := fl_reps fxs h2
    refine tMt_of mt_index ⟨a, _, _, j, toV z, rfl, rfl, h1, gy, gx, by rw [List.getElem?_map, hj]; rfl, hz, fun i z' hi e => ?_, pst_same m (rep_int.mpr rfl) h⟩
    rw [List.getElem?_map] at e
    obtain ⟨w, hw, rfl⟩ := Option.map_eq_some_iff.mp e
    exact hno i w hi hw) ho ha mc
end
/-! zip of two tuples -/
section
variable {c : Ctx} {ρ : DEnv} {S : SS} {a b : Expr} {pos : Pos} {R : List D → (SS → Prop) → SS → Prop} {ta tb : RE}
theorem ji_zipT {elts : List Expr} {kk : Nat} {tpos p : Pos} (hm : c.X.mg "zip" = none) (h : JE c a ρ S fun x S1 => JE c b ρ S1 fun y S2 => ∃ xs ys, x = .tup xs ∧ y = .tup ys ∧ R (zips xs ys) (fun _ => True) S2) (hg : Gl c.X "zip" := by rfl)
    (hs1 : starEach [a, b] c.X.env = (false, eval a c.X.env) :: starEach [b] c.X.env := by rfl) (hs2 : starEach [b] c.X.env = (false, eval b c.X.env) :: starEach [] c.X.env := by rfl) (hpl : (backTo pos (starEach [b] c.X.env)).any (·.1) = false := by rfl) : JI c (.Tuple elts kk tpos) (.Call (.Name "zip" p) [a, b] [] pos) ρ S R :=
  JI.of (RZ.pi_zipA hg hm (pa_cons PEt (pa_cons PEt pa_nil hs2) hs1) hs1 hpl) fun σ H ds => h.then ds fun x S1 v H1 r1 d1 s1 h1 => h1.then d1 fun y S2 w H2 r2 d2 s2 ⟨xs, ys, e1, e2, q⟩ => by
    subst e1 e2
    obtain ⟨ad, vs, rfl, h1, h2⟩ := rep_tup.mp (r1.mono s2)
    obtain ⟨bd, ws, rfl, h3, h4⟩ := rep_tup.mp r2
    refine ⟨ad, bd, vs, ws, rfl, .inr ⟨sub_im.t h1, sub_im.t h3, _, _, S2, d2.sim, s1.trans s2, fun H3 S3 m3 st _ i => ⟨fun d hd => ?_, fun hle hl => ?_⟩, q⟩⟩
    · have k1 : SqT c.X.K H3 ad vs := sub_im.t (Sub.t st h1)
      have k2 : SqT c.X.K H3 bd ws := sub_im.t (Sub.t st h3)
      obtain ⟨x0, y0, e1, e2, e3⟩ := zips_get hd
      subst e3
      obtain ⟨z1, g1, r3⟩ := h2.get e1
      obtain ⟨z2, g2, r4⟩ := h4.get e2
      refine ⟨⟨vs, ws, z1, z2, k1, k2, g1, g2⟩, fun x H' y => ?_⟩
      obtain ⟨T, u, u', q1, q2, q3, q4, q5⟩ := y
      have t1 := q4 vs k1
      rw [g1] at t1; cases t1
      have t2 := q5 ws k2
      rw [g2] at t2; cases t2
      rw [q1]
      exact pair_ok m3 q2 q3 (r3.mono st) (r4.mono st)
    · refine ⟨vs, ws, sub_im.t (Sub.t st h1), sub_im.t (Sub.t st h3), ?_⟩
      rw [zips_len, h2.length, h4.length] at hle
      omega
theorem qi_zipT {elts : List Expr} {kk : Nat} {tpos p : Pos} (hm : c.X.mg "zip" = none) (ha : QE c a ta) (hb : QE c b tb) (hg : Gl c.X "zip" := by rfl)
    (hs1 : starEach [a, b] c.X.env = (false, eval a c.X.env) :: starEach [b] c.X.env := by rfl) (hs2 : starEach [b] c.X.env = (false, eval b c.X.env) :: starEach [] c.X.env := by rfl) (hpl : (backTo pos (starEach [b] c.X.env)).any (·.1) = false := by rfl) :
    QI c (.Tuple elts kk tpos) (.Call (.Name "zip" p) [a, b] [] pos) fun ρ S R => ta ρ S fun x S1 => tb ρ S1 fun y S2 => rTup x fun xs => rTup y fun ys => R (zips xs ys) (fun _ => True) S2 :=
  ⟨fun ρ S R h => ji_zipT (elts := elts) (kk := kk) hm ((ha.run _ _ _ h).mono fun x S1 h => (hb.run _ _ _ h).mono fun y S2 q => by obtain ⟨xs, rfl, q2⟩ := rTup_ok q; obtain ⟨ys, rfl, q3⟩ := rTup_ok q2; exact ⟨xs, ys, rfl, rfl, q3⟩) hg hs1 hs2 hpl⟩
end
end DP

namespace K02
open PySem L2 DP
def top (i : Nat) : Stmt := PySem.Challenge.pw_wholeways_k02_disks_refused.main.body.getD i (.Pass ⟨0, 0, 0, 0⟩)
abbrev s_is_integer : Stmt := top 2
theorem sc_is_integer : FnScope ["thing"] ["thing"] (defScope s_is_integer) := ⟨rfl, rfl, rfl, by decide +kernel, rfl, by decide +kernel, by decide +kernel⟩
abbrev s_is_within : Stmt := top 3
theorem sc_is_within : FnScope ["thing", "least", "most"] ["thing", "least", "most"] (defScope s_is_within) := ⟨rfl, rfl, rfl, by decide +kernel, rfl, by decide +kernel, by decide +kernel⟩
abbrev s_is_lot : Stmt := top 4
theorem sc_is_lot : FnScope ["thing", "many", "last", "number"] ["thing", "many"] (defScope s_is_lot) := ⟨rfl, rfl, rfl, by decide +kernel, rfl, by decide +kernel, by decide +kernel⟩
abbrev s_is_item : Stmt := top 21
theorem sc_is_item : FnScope ["thing", "letter"] ["thing"] (defScope s_is_item) := ⟨rfl, rfl, rfl, by decide +kernel, rfl, by decide +kernel, by decide +kernel⟩
abbrev s_are_items : Stmt := top 22
theorem sc_are_items : FnScope ["thing", "most", "item"] ["thing", "most"] (defScope s_are_items) := ⟨rfl, rfl, rfl, by decide +kernel, rfl, by decide +kernel, by decide +kernel⟩
abbrev s_Disk___init : Stmt := inClass (top 23) 0
theorem sc_Disk___init : FnScope ["self", "blocks", "block"] ["self", "blocks"] (defScope s_Disk___init) := ⟨rfl, rfl, rfl, by decide +kernel, rfl, by decide +kernel, by decide +kernel⟩
abbrev s_Disk_blocks : Stmt := inClass (top 23) 1
theorem sc_Disk_blocks : FnScope ["self"] ["self"] (defScope s_Disk_blocks) := ⟨rfl, rfl, rfl, by decide +kernel, rfl, by decide +kernel, by decide +kernel⟩
abbrev s_Disk_check_block : Stmt := inClass (top 23) 2
theorem sc_Disk_check_block : FnScope ["self", "block"] ["self", "block"] (defScope s_Disk_check_block) := ⟨rfl, rfl, rfl, by decide +kernel, rfl, by decide +kernel, by decide +kernel⟩
abbrev s_Disk_write : Stmt := inClass (top 23) 3
theorem sc_Disk_write : FnScope ["self", "block", "content"] ["self", "block", "content"] (defScope s_Disk_write) := ⟨rfl, rfl, rfl, by decide +kernel, rfl, by decide +kernel, by decide +kernel⟩
abbrev s_Disk_read : Stmt := inClass (top 23) 4
theorem sc_Disk_read : FnScope ["self", "block"] ["self", "block"] (defScope s_Disk_read) := ⟨rfl, rfl, rfl, by decide +kernel, rfl, by decide +kernel, by decide +kernel⟩
abbrev s_Disk_reach_one : Stmt := inClass (top 23) 5
theorem sc_Disk_reach_one : FnScope ["self", "block", "some"] ["self", "block"] (defScope s_Disk_reach_one) := ⟨rfl, rfl, rfl, by decide +kernel, rfl, by decide +kernel, by decide +kernel⟩
abbrev s_Disk_reach : Stmt := inClass (top 23) 6
theorem sc_Disk_reach : FnScope ["self", "block"] ["self", "block"] (defScope s_Disk_reach) := ⟨rfl, rfl, rfl, by decide +kernel, rfl, by decide +kernel, by decide +kernel⟩
abbrev s_Disk_force : Stmt := inClass (top 23) 7
theorem sc_Disk_force : FnScope ["self", "lot", "block"] ["self", "lot"] (defScope s_Disk_force) := ⟨rfl, rfl, rfl, by decide +kernel, rfl, by decide +kernel, by decide +kernel⟩
abbrev s_Disk_power : Stmt := inClass (top 23) 9
theorem sc_Disk_power : FnScope ["self", "many"] ["self", "many"] (defScope s_Disk_power) := ⟨rfl, rfl, rfl, by decide +kernel, rfl, by decide +kernel, by decide +kernel⟩
abbrev s_Disk_waiting : Stmt := inClass (top 23) 11
theorem sc_Disk_waiting : FnScope ["self", "block", "some"] ["self"] (defScope s_Disk_waiting) := ⟨rfl, rfl, rfl, by decide +kernel, rfl, by decide +kernel, by decide +kernel⟩
abbrev s_Disk_lying : Stmt := inClass (top 23) 12
theorem sc_Disk_lying : FnScope ["self", "block"] ["self", "block"] (defScope s_Disk_lying) := ⟨rfl, rfl, rfl, by decide +kernel, rfl, by decide +kernel, by decide +kernel⟩
abbrev s_Disk_reached : Stmt := inClass (top 23) 13
theorem sc_Disk_reached : FnScope ["self"] ["self"] (defScope s_Disk_reached) := ⟨rfl, rfl, rfl, by decide +kernel, rfl, by decide +kernel, by decide +kernel⟩
abbrev s_L_hand : Stmt := top 25
theorem sc_L_hand : FnScope ["_law_script", "_law_cells", "_law_cell"] ["_law_script"] (defScope s_L_hand) := ⟨rfl, rfl, rfl, by decide +kernel, rfl, by decide +kernel, by decide +kernel⟩
abbrev s_L_draw : Stmt := top 26
theorem sc_L_draw : FnScope ["_law_hand_here", "_law_many", "_law_cell", "_law_digit", "_law_number"] ["_law_hand_here", "_law_many"] (defScope s_L_draw) := ⟨rfl, rfl, rfl, by decide +kernel, rfl, by decide +kernel, by decide +kernel⟩
abbrev s_L_any : Stmt := top 27
theorem sc_L_any : FnScope ["_law_hand_here", "_law_some"] ["_law_hand_here", "_law_some"] (defScope s_L_any) := ⟨rfl, rfl, rfl, by decide +kernel, rfl, by decide +kernel, by decide +kernel⟩
abbrev s_L_is_int : Stmt := top 28
theorem sc_L_is_int : FnScope ["_law_thing", "_law_least", "_law_most"] ["_law_thing", "_law_least", "_law_most"] (defScope s_L_is_int) := ⟨rfl, rfl, rfl, by decide +kernel, rfl, by decide +kernel, by decide +kernel⟩
abbrev s_L_deep : Stmt := top 29
theorem sc_L_deep : FnScope ["_law_hand_here", "_law_thing", "_law_turn"] ["_law_hand_here"] (defScope s_L_deep) := ⟨rfl, rfl, rfl, by decide +kernel, rfl, by decide +kernel, by decide +kernel⟩
abbrev s_L_first : Stmt := top 30
theorem sc_L_first : FnScope ["_law_pairs", "_law_word_here", "_law_is_right"] ["_law_pairs"] (defScope s_L_first) := ⟨rfl, rfl, rfl, by decide +kernel, rfl, by decide +kernel, by decide +kernel⟩
abbrev s_L_is_name : Stmt := top 31
theorem sc_L_is_name : FnScope ["_law_thing", "_law_least", "_law_sign"] ["_law_thing", "_law_least"] (defScope s_L_is_name) := ⟨rfl, rfl, rfl, by decide +kernel, rfl, by decide +kernel, by decide +kernel⟩
abbrev s_L_content : Stmt := top 32
theorem sc_L_content : FnScope ["_law_hand_here", "_law_some", "_law_many", "_law_item"] ["_law_hand_here"] (defScope s_L_content) := ⟨rfl, rfl, rfl, by decide +kernel, rfl, by decide +kernel, by decide +kernel⟩
abbrev s_L_book : Stmt := top 33
theorem sc_L_book : FnScope ["_law_blocks"] ["_law_blocks"] (defScope s_L_book) := ⟨rfl, rfl, rfl, by decide +kernel, rfl, by decide +kernel, by decide +kernel⟩
abbrev s_L_wrote : Stmt := top 34
theorem sc_L_wrote : FnScope ["_law_book_here", "_law_block", "_law_content_here"] ["_law_book_here", "_law_block", "_law_content_here"] (defScope s_L_wrote) := ⟨rfl, rfl, rfl, by decide +kernel, rfl, by decide +kernel, by decide +kernel⟩
abbrev s_L_reached : Stmt := top 35
theorem sc_L_reached : FnScope ["_law_book_here", "_law_block", "_law_row"] ["_law_book_here", "_law_block"] (defScope s_L_reached) := ⟨rfl, rfl, rfl, by decide +kernel, rfl, by decide +kernel, by decide +kernel⟩
abbrev s_L_forced : Stmt := top 36
theorem sc_L_forced : FnScope ["_law_book_here", "_law_lot", "_law_block"] ["_law_book_here", "_law_lot"] (defScope s_L_forced) := ⟨rfl, rfl, rfl, by decide +kernel, rfl, by decide +kernel, by decide +kernel⟩
abbrev s_L_shows : Stmt := top 37
theorem sc_L_shows : FnScope ["_law_disk", "_law_book_here", "_law_some", "_law_block", "_law_row", "_law_due"] ["_law_disk", "_law_book_here", "_law_some"] (defScope s_L_shows) := ⟨rfl, rfl, rfl, by decide +kernel, rfl, by decide +kernel, by decide +kernel⟩
abbrev s_L_word : Stmt := top 38
theorem sc_L_word : FnScope ["_law_call", "_law_word_here", "e", "_law_flags"] ["_law_call"] (defScope s_L_word) := ⟨rfl, rfl, rfl, by decide +kernel, rfl, by decide +kernel, by decide +kernel⟩
abbrev s_L_odd : Stmt := top 39
theorem sc_L_odd : FnScope ["_law_hand_here", "_law_other", "_law_some"] ["_law_hand_here", "_law_other"] (defScope s_L_odd) := ⟨rfl, rfl, rfl, by decide +kernel, rfl, by decide +kernel, by decide +kernel⟩
abbrev s_L_is_content : Stmt := top 40
theorem sc_L_is_content : FnScope ["_law_thing", "_law_item"] ["_law_thing"] (defScope s_L_is_content) := ⟨rfl, rfl, rfl, by decide +kernel, rfl, by decide +kernel, by decide +kernel⟩
abbrev s_L_some_content : Stmt := top 41
theorem sc_L_some_content : FnScope ["_law_hand_here", "_law_other", "_law_found", "_law_at", "_law_odd_here", "_law_some"] ["_law_hand_here", "_law_other"] (defScope s_L_some_content) := ⟨rfl, rfl, rfl, by decide +kernel, rfl, by decide +kernel, by decide +kernel⟩
abbrev s_L_is_lot : Stmt := top 42
theorem sc_L_is_lot : FnScope ["_law_thing", "_law_blocks", "_law_block", "_law_one", "_law_other"] ["_law_thing", "_law_blocks"] (defScope s_L_is_lot) := ⟨rfl, rfl, rfl, by decide +kernel, rfl, by decide +kernel, by decide +kernel⟩
abbrev s_law : Stmt := top 43
theorem sc_law : FnScope ["_law_script", "_law_hand_here", "_law_many", "_law_blocks", "_law_disk", "_law_book_here", "_law_turn", "_law_block", "_law_is_block", "_law_content_here", "_law_due", "_law_some", "_law_lot", "_law_is_lot_here", "_law_power"] ["_law_script"] (defScope s_law) := ⟨rfl, rfl, rfl, by decide +kernel, rfl, by decide +kernel, by decide +kernel⟩
/-- where the classes stand -/
structure CA0 where
  cStoreError : Addr
  cBadDisk : Addr
  cNoBlock : Addr
  cNoContent : Addr
  cNothingWaits : Addr
  cStopped : Addr
  cNoNumber : Addr
  cDisk : Addr
  k_law : Addr
  t_law : Addr
structure CA extends CA0 where
  base : Heap
def CA0.tabs (A : CA0) : List (Addr × Str) := [(A.t_law, (("law" : Str) ++ ".<locals>.") ++ "<lambda>")]
abbrev CA0.T0 (A : CA0) : Addr := A.t_law
theorem CA.in_law (A : CA) : (A.t_law, (("law" : Str) ++ ".<locals>.") ++ "<lambda>") ∈ A.tabs := by unfold CA0.tabs; simp
theorem CA.un_law (A : CA) : ∀ p ∈ A.tabs, p.1 = A.t_law → p.2 = (("law" : Str) ++ ".<locals>.") ++ "<lambda>" := fun p hp _ => by unfold CA0.tabs at hp; rw [List.mem_singleton.mp hp]
/-- what the top has written -/
structure Top (K : PySem.W.Frag) (mg : Str → Option Value) (A : CA) : Prop where
  b_ValueError : mg "ValueError" = none
  b_abs : mg "abs" = none
  b_all : mg "all" = none
  b_bool : mg "bool" = none
  b_dict : mg "dict" = none
  b_int : mg "int" = none
  b_isinstance : mg "isinstance" = none
  b_len : mg "len" = none
  b_list : mg "list" = none
  b_range : mg "range" = none
  b_str : mg "str" = none
  b_tuple : mg "tuple" = none
  b_zip : mg "zip" = none
  c_LEAST_BLOCKS : ∃ t, mg "LEAST_BLOCKS" = some (.int (16) t)
  c_MOST_BLOCKS : ∃ t, mg "MOST_BLOCKS" = some (.int (600) t)
  c_MOST_ITEMS : ∃ t, mg "MOST_ITEMS" = some (.int (40) t)
  c_MOST_INTEGER : ∃ t, mg "MOST_INTEGER" = some (.int (1000000000000000000000000000000) t)
  c_MOST_LETTERS : ∃ t, mg "MOST_LETTERS" = some (.int (12) t)
  c_MOST_POWER : ∃ t, mg "MOST_POWER" = some (.int (1000000) t)
  c_LETTERS : ∃ t, mg "LETTERS" = some (.str "abcdefghijklmnopqrstuvwxyz" t)
  f_is_integer : ∃ f fd, mg "is_integer" = some (.ref f) ∧ Fun K "is_integer" "is_integer" s_is_integer f fd
  f_is_within : ∃ f fd, mg "is_within" = some (.ref f) ∧ Fun K "is_within" "is_within" s_is_within f fd
  f_is_lot : ∃ f fd, mg "is_lot" = some (.ref f) ∧ Fun K "is_lot" "is_lot" s_is_lot f fd
  f_is_item : ∃ f fd, mg "is_item" = some (.ref f) ∧ Fun K "is_item" "is_item" s_is_item f fd
  f_are_items : ∃ f fd, mg "are_items" = some (.ref f) ∧ Fun K "are_items" "are_items" s_are_items f fd
  f_L_hand : ∃ f fd, mg "_law_hand" = some (.ref f) ∧ Fun K "_law_hand" "_law_hand" s_L_hand f fd
  f_L_draw : ∃ f fd, mg "_law_draw" = some (.ref f) ∧ Fun K "_law_draw" "_law_draw" s_L_draw f fd
  f_L_any : ∃ f fd, mg "_law_any" = some (.ref f) ∧ Fun K "_law_any" "_law_any" s_L_any f fd
  f_L_is_int : ∃ f fd, mg "_law_is_int" = some (.ref f) ∧ Fun K "_law_is_int" "_law_is_int" s_L_is_int f fd
  f_L_deep : ∃ f fd, mg "_law_deep" = some (.ref f) ∧ Fun K "_law_deep" "_law_deep" s_L_deep f fd
  f_L_first : ∃ f fd, mg "_law_first" = some (.ref f) ∧ Fun K "_law_first" "_law_first" s_L_first f fd
  f_L_is_name : ∃ f fd, mg "_law_is_name" = some (.ref f) ∧ Fun K "_law_is_name" "_law_is_name" s_L_is_name f fd
  f_L_content : ∃ f fd, mg "_law_content" = some (.ref f) ∧ Fun K "_law_content" "_law_content" s_L_content f fd
  f_L_book : ∃ f fd, mg "_law_book" = some (.ref f) ∧ Fun K "_law_book" "_law_book" s_L_book f fd
  f_L_wrote : ∃ f fd, mg "_law_wrote" = some (.ref f) ∧ Fun K "_law_wrote" "_law_wrote" s_L_wrote f fd
  f_L_reached : ∃ f fd, mg "_law_reached" = some (.ref f) ∧ Fun K "_law_reached" "_law_reached" s_L_reached f fd
  f_L_forced : ∃ f fd, mg "_law_forced" = some (.ref f) ∧ Fun K "_law_forced" "_law_forced" s_L_forced f fd
  f_L_shows : ∃ f fd, mg "_law_shows" = some (.ref f) ∧ Fun K "_law_shows" "_law_shows" s_L_shows f fd
  f_L_word : ∃ f fd, mg "_law_word" = some (.ref f) ∧ Fun K "_law_word" "_law_word" s_L_word f fd
  f_L_odd : ∃ f fd, mg "_law_odd" = some (.ref f) ∧ Fun K "_law_odd" "_law_odd" s_L_odd f fd
  f_L_is_content : ∃ f fd, mg "_law_is_content" = some (.ref f) ∧ Fun K "_law_is_content" "_law_is_content" s_L_is_content f fd
  f_L_some_content : ∃ f fd, mg "_law_some_content" = some (.ref f) ∧ Fun K "_law_some_content" "_law_some_content" s_L_some_content f fd
  f_L_is_lot : ∃ f fd, mg "_law_is_lot" = some (.ref f) ∧ Fun K "_law_is_lot" "_law_is_lot" s_L_is_lot f fd
  f_law : ∃ f fd, mg "law" = some (.ref f) ∧ FunC K "law" "law" s_law f fd A.k_law
  b_law : LamX.TabB A.base mg A.k_law A.t_law
  g_StoreError : mg "StoreError" = some (.ref A.cStoreError)
  xm_BadDisk_StoreError : PySem.W.exmOne K (.ref A.cBadDisk) (.ref A.cStoreError) = some true
  xm_NoBlock_StoreError : PySem.W.exmOne K (.ref A.cNoBlock) (.ref A.cStoreError) = some true
  xm_NoContent_StoreError : PySem.W.exmOne K (.ref A.cNoContent) (.ref A.cStoreError) = some true
  xm_NoNumber_StoreError : PySem.W.exmOne K (.ref A.cNoNumber) (.ref A.cStoreError) = some true
  xm_NothingWaits_StoreError : PySem.W.exmOne K (.ref A.cNothingWaits) (.ref A.cStoreError) = some true
  xm_Stopped_StoreError : PySem.W.exmOne K (.ref A.cStopped) (.ref A.cStoreError) = some true
  g_BadDisk : mg "BadDisk" = some (.ref A.cBadDisk)
  er_BadDisk : Er K mg "BadDisk" A.cBadDisk
  xe_BadDisk : ErrC K A.cBadDisk
  kt_BadDisk_BadDisk : PySem.W.kitOne K (.ref A.cBadDisk) (.ref A.cBadDisk) = some true
  kt_BadDisk_NoBlock : PySem.W.kitOne K (.ref A.cBadDisk) (.ref A.cNoBlock) = some false
  kt_BadDisk_NoContent : PySem.W.kitOne K (.ref A.cBadDisk) (.ref A.cNoContent) = some false
  kt_BadDisk_ValueError : PySem.W.kitOne K (.ref A.cBadDisk) (.type "ValueError") = some true
  kt_BadDisk_NothingWaits : PySem.W.kitOne K (.ref A.cBadDisk) (.ref A.cNothingWaits) = some false
  kt_BadDisk_NoNumber : PySem.W.kitOne K (.ref A.cBadDisk) (.ref A.cNoNumber) = some false
  g_NoBlock : mg "NoBlock" = some (.ref A.cNoBlock)
  er_NoBlock : Er K mg "NoBlock" A.cNoBlock
  xe_NoBlock : ErrC K A.cNoBlock
  kt_NoBlock_BadDisk : PySem.W.kitOne K (.ref A.cNoBlock) (.ref A.cBadDisk) = some false
  kt_NoBlock_NoBlock : PySem.W.kitOne K (.ref A.cNoBlock) (.ref A.cNoBlock) = some true
  kt_NoBlock_NoContent : PySem.W.kitOne K (.ref A.cNoBlock) (.ref A.cNoContent) = some false
  kt_NoBlock_ValueError : PySem.W.kitOne K (.ref A.cNoBlock) (.type "ValueError") = some true
  kt_NoBlock_NothingWaits : PySem.W.kitOne K (.ref A.cNoBlock) (.ref A.cNothingWaits) = some false
  kt_NoBlock_NoNumber : PySem.W.kitOne K (.ref A.cNoBlock) (.ref A.cNoNumber) = some false
  g_NoContent : mg "NoContent" = some (.ref A.cNoContent)
  er_NoContent : Er K mg "NoContent" A.cNoContent
  xe_NoContent : ErrC K A.cNoContent
  kt_NoContent_BadDisk : PySem.W.kitOne K (.ref A.cNoContent) (.ref A.cBadDisk) = some false
  kt_NoContent_NoBlock : PySem.W.kitOne K (.ref A.cNoContent) (.ref A.cNoBlock) = some false
  kt_NoContent_NoContent : PySem.W.kitOne K (.ref A.cNoContent) (.ref A.cNoContent) = some true
  kt_NoContent_ValueError : PySem.W.kitOne K (.ref A.cNoContent) (.type "ValueError") = some true
  kt_NoContent_NothingWaits : PySem.W.kitOne K (.ref A.cNoContent) (.ref A.cNothingWaits) = some false
  kt_NoContent_NoNumber : PySem.W.kitOne K (.ref A.cNoContent) (.ref A.cNoNumber) = some false
  g_NothingWaits : mg "NothingWaits" = some (.ref A.cNothingWaits)
  er_NothingWaits : Er K mg "NothingWaits" A.cNothingWaits
  xe_NothingWaits : ErrC K A.cNothingWaits
  kt_NothingWaits_BadDisk : PySem.W.kitOne K (.ref A.cNothingWaits) (.ref A.cBadDisk) = some false
  kt_NothingWaits_NoBlock : PySem.W.kitOne K (.ref A.cNothingWaits) (.ref A.cNoBlock) = some false
  kt_NothingWaits_NoContent : PySem.W.kitOne K (.ref A.cNothingWaits) (.ref A.cNoContent) = some false
  kt_NothingWaits_ValueError : PySem.W.kitOne K (.ref A.cNothingWaits) (.type "ValueError") = some true
  kt_NothingWaits_NothingWaits : PySem.W.kitOne K (.ref A.cNothingWaits) (.ref A.cNothingWaits) = some true
  kt_NothingWaits_NoNumber : PySem.W.kitOne K (.ref A.cNothingWaits) (.ref A.cNoNumber) = some false
  g_Stopped : mg "Stopped" = some (.ref A.cStopped)
  er_Stopped : Er K mg "Stopped" A.cStopped
  xe_Stopped : ErrC K A.cStopped
  kt_Stopped_BadDisk : PySem.W.kitOne K (.ref A.cStopped) (.ref A.cBadDisk) = some false
  kt_Stopped_NoBlock : PySem.W.kitOne K (.ref A.cStopped) (.ref A.cNoBlock) = some false
  kt_Stopped_NoContent : PySem.W.kitOne K (.ref A.cStopped) (.ref A.cNoContent) = some false
  kt_Stopped_ValueError : PySem.W.kitOne K (.ref A.cStopped) (.type "ValueError") = some true
  kt_Stopped_NothingWaits : PySem.W.kitOne K (.ref A.cStopped) (.ref A.cNothingWaits) = some false
  kt_Stopped_NoNumber : PySem.W.kitOne K (.ref A.cStopped) (.ref A.cNoNumber) = some false
  g_NoNumber : mg "NoNumber" = some (.ref A.cNoNumber)
  er_NoNumber : Er K mg "NoNumber" A.cNoNumber
  xe_NoNumber : ErrC K A.cNoNumber
  kt_NoNumber_BadDisk : PySem.W.kitOne K (.ref A.cNoNumber) (.ref A.cBadDisk) = some false
  kt_NoNumber_NoBlock : PySem.W.kitOne K (.ref A.cNoNumber) (.ref A.cNoBlock) = some false
  kt_NoNumber_NoContent : PySem.W.kitOne K (.ref A.cNoNumber) (.ref A.cNoContent) = some false
  kt_NoNumber_ValueError : PySem.W.kitOne K (.ref A.cNoNumber) (.type "ValueError") = some true
  kt_NoNumber_NothingWaits : PySem.W.kitOne K (.ref A.cNoNumber) (.ref A.cNothingWaits) = some false
  kt_NoNumber_NoNumber : PySem.W.kitOne K (.ref A.cNoNumber) (.ref A.cNoNumber) = some true
  g_Disk : mg "Disk" = some (.ref A.cDisk)
  cl_Disk : Cls K A.cDisk
  ix_Disk : InsX K A.cDisk
  n_Disk_kept_lying : NoAttr K A.cDisk "kept_lying"
  n_Disk_kept_waiting : NoAttr K A.cDisk "kept_waiting"
  n_Disk_kept_power : NoAttr K A.cDisk "kept_power"
  n_Disk_kept_reached : NoAttr K A.cDisk "kept_reached"
  mk_Disk : ∃ f fd, Mk K A.cDisk f ∧ Fun K "__init__" "Disk.__init__" s_Disk___init f fd
  m_Disk_blocks : ∃ f fd, Meth K A.cDisk "blocks" f ∧ Fun K "blocks" "Disk.blocks" s_Disk_blocks f fd
  m_Disk_check_block : ∃ f fd, Meth K A.cDisk "check_block" f ∧ Fun K "check_block" "Disk.check_block" s_Disk_check_block f fd
  m_Disk_write : ∃ f fd, Meth K A.cDisk "write" f ∧ Fun K "write" "Disk.write" s_Disk_write f fd
  m_Disk_read : ∃ f fd, Meth K A.cDisk "read" f ∧ Fun K "read" "Disk.read" s_Disk_read f fd
  m_Disk_reach_one : ∃ f fd, Meth K A.cDisk "reach_one" f ∧ Fun K "reach_one" "Disk.reach_one" s_Disk_reach_one f fd
  m_Disk_reach : ∃ f fd, Meth K A.cDisk "reach" f ∧ Fun K "reach" "Disk.reach" s_Disk_reach f fd
  m_Disk_force : ∃ f fd, Meth K A.cDisk "force" f ∧ Fun K "force" "Disk.force" s_Disk_force f fd
  m_Disk_power : ∃ f fd, Meth K A.cDisk "power" f ∧ Fun K "power" "Disk.power" s_Disk_power f fd
  m_Disk_waiting : ∃ f fd, Meth K A.cDisk "waiting" f ∧ Fun K "waiting" "Disk.waiting" s_Disk_waiting f fd
  m_Disk_lying : ∃ f fd, Meth K A.cDisk "lying" f ∧ Fun K "lying" "Disk.lying" s_Disk_lying f fd
  m_Disk_reached : ∃ f fd, Meth K A.cDisk "reached" f ∧ Fun K "reached" "Disk.reached" s_Disk_reached f fd
end K02

namespace K02
open PySem L2 DP
local macro_rules | `(tactic| walk_at "v") => `(tactic| dsimp only [startD, k_nt, k_nf, k_ta, k_fa, k_to, k_fo, Int.reduceToNat, List.set, wipeD, k_p6, k_p16, k_p17, k_p18, k_p30, Bool.not_true, Bool.not_false, Bool.and_true, Bool.true_and, Bool.and_false, Bool.false_and, Bool.or_true, Bool.true_or, Bool.or_false, Bool.false_or, List.map, fnC_DX, List.length_cons, List.length_nil, k_rv0, k_rv1, k_rv2, k_rbl, k_rint, k_rI2, k_badd, k_bSub, k_bMult, k_bFloorDiv, k_bMod, k_bPow, k_addi, k_addt, k_addf, k_itm, k_ceq, k_cne, k_cis, k_cisn, k_cin, k_cnin, k_ciLt, k_csLt, k_ciLtE, k_csLtE, k_ciGt, k_csGt, k_ciGtE, k_csGtE, k_eqi, k_eqs, k_eqb, k_isn, k_isb, k_keyi, k_keys, k_ins, k_int, k_inf, k_tru0, k_tru1, k_tru2, k_tru3, k_tru4, k_tru5, k_ipa, k_ips, k_cons, k_cons2, k_cons3, k_tup, k_seqf, k_seqt, k_seqs, k_rfl, k_patn, k_patt, k_setN0, k_setN1, k_ixt, k_ixf, k_ixs, k_opt0, k_opt1, k_slt, k_slf, k_sls, k_rev, k_r1, k_r2, k_lent, k_lenf, k_lens, k_abs, k_min, k_max, k_int1, k_lstt, k_lstf, k_lstMt, k_lstMf, k_tupt, k_tupf, k_bls, k_sum, k_rcL, k_rcS, isI_non, isI_bl, isI_int, isI_str, isI_tup, isI_fl, isI_ref, isB_non, isB_bl, isB_int, isB_str, isB_tup, isB_fl, isB_ref, isS_non, isS_bl, isS_int, isS_str, isS_tup, isS_fl, isS_ref, isT_non, isT_bl, isT_int, isT_str, isT_tup, isT_fl, isT_ref, isInt_non, isInt_bl, isInt_int, isInt_str, isInt_tup, isInt_fl, isInt_ref, isNon_non, isNon_bl, isNon_int, isNon_str, isNon_tup, isNon_fl, isNon_ref, isLs_non, isLs_bl, isLs_int, isLs_str, isLs_tup, isLs_fl, isDc_non, isDc_bl, isDc_int, isDc_str, isDc_tup, isDc_fl])
local macro_rules | `(tactic| walk_at "lk") => `(tactic| rfl)
local macro_rules | `(tactic| walk_at "sz") => `(tactic| first | assumption | (simp only [List.length_cons, List.length_nil]; decide) | omega)
local macro_rules | `(tactic| walk_at "at") => `(tactic| first | assumption | exact sup_same | (refine sup_at (by assumption) ?_; walk_at "at"))
local macro_rules | `(tactic| walk_at "sp") => `(tactic| fail)
local macro_rules | `(tactic| walk_at "s") => `(tactic| first
  | (with_reducible refine iteT ?_)
  | (with_reducible refine iteF ?_)
  | ((with_reducible refine And.intro ?_ ?_); (focus (first | with_reducible exact kn_int | with_reducible exact kn_str | with_reducible exact kn_tup | with_reducible exact kn_fl | with_reducible exact kn_bl | with_reducible exact kn_non | with_reducible assumption)))
  | ((with_reducible apply m_ixl); (focus (walk_at "at")); (focus rfl))
  | ((with_reducible apply m_ixl'); (focus (walk_at "at")); (focus (assumption)))
  | ((with_reducible apply m_ixki); (focus (walk_at "at")); (focus (assumption)))
  | ((with_reducible apply m_ixks); (focus (walk_at "at")); (focus (first | assumption | walk_at "lk")))
  | ((with_reducible apply m_stl); (focus (walk_at "at")); (focus rfl))
  | ((with_reducible apply m_stki); (focus (walk_at "at")); (focus (walk_at "sz")))
  | ((with_reducible apply m_stks); (focus (walk_at "at")); (focus (walk_at "sz")))
  | ((with_reducible apply m_itm); (focus (walk_at "at")))
  | ((with_reducible apply m_seq); (focus (walk_at "at")))
  | ((with_reducible apply m_lenl); (focus (walk_at "at")))
  | ((with_reducible apply m_lenk); (focus (walk_at "at")))
  | ((with_reducible apply m_ls); (focus (walk_at "at")))
  | ((with_reducible apply m_dk); (focus (walk_at "at")))
  | ((with_reducible apply m_rcL); (focus (walk_at "at")))
  | ((with_reducible apply m_rcD); (focus (walk_at "at")))
  | ((with_reducible apply m_trul); (focus (walk_at "at")))
  | ((with_reducible apply m_truk); (focus (walk_at "at")))
  | ((with_reducible apply m_inki); (focus (walk_at "at")))
  | ((with_reducible apply m_inks); (focus (walk_at "at")))
  | ((with_reducible apply m_fld); (focus (walk_at "at")); (focus (walk_at "lk")))
  | ((with_reducible apply m_put); (focus (walk_at "at")); (focus (walk_at "sz")))
  | ((with_reducible apply m_get1); (focus (walk_at "at")))
  | ((with_reducible apply m_get2); (focus (walk_at "at")))
  | ((with_reducible apply m_pop1); (focus (walk_at "at")))
  | ((with_reducible apply m_pop2); (focus (walk_at "at")))
  | ((with_reducible show ∃ d, atI _ _ = some d ∧ _); refine ⟨_, rfl, ?_⟩)
  | ((with_reducible show ∃ d, some _ = some d ∧ _); refine ⟨_, rfl, ?_⟩)
  | (with_reducible refine And.intro rfl ?_)
  | walk_at "sp")
local macro_rules | `(tactic| walk_at "g") => `(tactic| repeat (first | walk_at "v" | walk_at "s"))
local macro_rules | `(tactic| walk_at "ar") => `(tactic| first
  | ((with_reducible show IntMulOk _ _ ∧ _); refine And.intro (by first | exact mul_small (by omega) (by omega) | exact mulok_r (by omega) (by omega)) ?_)
  | ((with_reducible show CDivW _ _ ∧ _); refine And.intro (div_small (by omega) (by omega)) ?_)
  | ((with_reducible show CPow _ _ ∧ _); refine And.intro (by unfold CPow; decide) ?_)
  | ((with_reducible show 0 < _ ∧ _); refine And.intro (by omega) ?_)
  | ((with_reducible show (-(2 ^ 62) ≤ _ ∧ _ < 2 ^ 62) ∧ _); refine And.intro ⟨by omega, by omega⟩ ?_)
  | ((with_reducible show (-(2 ^ 62) ≤ _ ∧ _ < 2 ^ 62 ∧ -(2 ^ 62) ≤ _ ∧ _ < 2 ^ 62) ∧ _); refine And.intro ⟨by omega, by omega, by omega, by omega⟩ ?_))
local macro_rules | `(tactic| walk_at "g") => `(tactic| repeat (first | walk_at "v" | walk_at "s" | walk_at "ar"))
local macro_rules | `(tactic| walk_at "fr") => `(tactic| first | exact Fr.refl | assumption | (apply Fr.putr; rotate_left; (focus (simp; done)); walk_at "fr") | (refine Fr.newer ?_ (by assumption); walk_at "fr"))

variable {P : Program} {w : World} {K : PySem.W.Frag} {mg : Str → Option Value} {base : Heap} {A : CA}
local macro_rules | `(tactic| walk_at "s") => `(tactic| ((with_reducible refine And.intro ?_ ?_); (focus (first | with_reducible exact knx_int | with_reducible exact knx_str | with_reducible exact knx_tup | with_reducible exact knx_fl | with_reducible exact knx_bl | with_reducible exact knx_non))))
def sp_is_integer (A : CA) : DSp := fun ds S Q _ => ∃ x, ds = [x] ∧ KnX A.cDisk S x ∧ Q (.bl (isInt x)) S
theorem ok_is_integer (T : Top K mg A) : Fn P w K mg A.base 1 "is_integer" (sp_is_integer A) := by
  obtain ⟨f, fd, hm, F⟩ := T.f_is_integer
  refine fn_mk F hm (F.binds fun _ _ _ _ _ _ us hl => match us, hl with | [_], _ => by kernel_rfl) sc_is_integer (fun ds S Q E h => by repeat (first | (obtain ⟨e, _⟩ := h; subst e; rfl) | (obtain ⟨_, h⟩ := h))) fun cdv A' outer s H E Ed ds S Q hr h => ?_
  have nd : (fnC P w K mg A.base ["thing"] "is_integer" s_is_integer f cdv A' outer s H E Ed).X.N.Nodup := sc_is_integer.nd
  have n0 : Nm (fnC P w K mg A.base ["thing"] "is_integer" s_is_integer f cdv A' outer s H E Ed) 0 "thing" := ⟨rfl, by first | exact .inl rfl | exact .inr rfl, .inl rfl, by decide +kernel, by decide +kernel⟩
  refine qz_go (c := (fnC P w K mg A.base ["thing"] "is_integer" s_is_integer f cdv A' outer s H E Ed)) ?_
  refine ⟨_, (qz_one (qs_ret (q_and (q_isiX T.ix_Disk (by decide) (fun _ x => isI x) (fun _ _ _ => cd_isI) (hzf fun _ => rfl) T.b_isinstance T.b_int bt_int (q_n n0)) (q_one (q_not (q_isiX T.ix_Disk (by decide) (fun _ x => isB x) (fun _ _ _ => cd_isB) (hzf fun _ => rfl) T.b_isinstance T.b_bool bt_bool (q_n n0))))))), ?_⟩
  clear nd n0
  obtain ⟨x, rfl, hk, q⟩ := h
  cases x <;> walk_at "g" <;> exact q

local macro_rules | `(tactic| walk_at "sp") => `(tactic| ((with_reducible show sp_is_integer _ _ _ _ _); refine ⟨_, rfl, by first | exact knx_int | exact knx_str | exact knx_tup | exact knx_fl | exact knx_bl | exact knx_non | assumption, ?_⟩))
def sp_is_within (A : CA) : DSp := fun ds S Q _ => ∃ x a b, ds = [x, .int a, .int b] ∧ KnX A.cDisk S x ∧ Q (.bl (inR x a b)) S
theorem ok_is_within (T : Top K mg A) : Fn P w K mg A.base 2 "is_within" (sp_is_within A) := by
  obtain ⟨f, fd, hm, F⟩ := T.f_is_within
  refine fn_mk F hm (F.binds fun _ _ _ _ _ _ us hl => match us, hl with | [_, _, _], _ => by kernel_rfl) sc_is_within (fun ds S Q E h => by repeat (first | (obtain ⟨e, _⟩ := h; subst e; rfl) | (obtain ⟨_, h⟩ := h))) fun cdv A' outer s H E Ed ds S Q hr h => ?_
  have nd : (fnC P w K mg A.base ["thing", "least", "most"] "is_within" s_is_within f cdv A' outer s H E Ed).X.N.Nodup := sc_is_within.nd
  have n0 : Nm (fnC P w K mg A.base ["thing", "least", "most"] "is_within" s_is_within f cdv A' outer s H E Ed) 0 "thing" := ⟨rfl, by first | exact .inl rfl | exact .inr rfl, .inl rfl, by decide +kernel, by decide +kernel⟩
  have n1 : Nm (fnC P w K mg A.base ["thing", "least", "most"] "is_within" s_is_within f cdv A' outer s H E Ed) 1 "least" := ⟨rfl, by first | exact .inl rfl | exact .inr rfl, .inl rfl, by decide +kernel, by decide +kernel⟩
  have n2 : Nm (fnC P w K mg A.base ["thing", "least", "most"] "is_within" s_is_within f cdv A' outer s H E Ed) 2 "most" := ⟨rfl, by first | exact .inl rfl | exact .inr rfl, .inl rfl, by decide +kernel, by decide +kernel⟩
  have hu : Un (fnC P w K mg A.base ["thing", "least", "most"] "is_within" s_is_within f cdv A' outer s H E Ed) := un_of hr
  refine qz_go (c := (fnC P w K mg A.base ["thing", "least", "most"] "is_within" s_is_within f cdv A' outer s H E Ed)) ?_
  refine ⟨_, (qz_one (qs_ret (q_and (q_call (ok_is_integer T) (hr.mono (by decide)) (qa_cons (q_n n0) qa_nil)) (q_one (q_chain hu (q_n n1) (q_n n0) (q_n n2)))))), ?_⟩
  clear nd hu n0 n1 n2
  obtain ⟨x, a, b, rfl, hk, q⟩ := h
  cases x with
  | int i =>
    have e : inR (.int i) a b = (decide (a ≤ i) && decide (i ≤ b)) := rfl
    rw [e] at q
    walk_at "g"
    refine iteD (fun h1 => ?_) (fun h1 => ?_)
    · rw [decide_eq_true h1, Bool.true_and] at q; walk_at "g"; exact q
    · rw [decide_eq_false h1, Bool.false_and] at q; exact q
  | _ => walk_at "g"; exact q

local macro_rules | `(tactic| walk_at "sp") => `(tactic| ((with_reducible show sp_is_within _ _ _ _ _); refine ⟨_, _, _, rfl, by first | exact knx_int | exact knx_str | exact knx_tup | exact knx_fl | exact knx_bl | exact knx_non | assumption, ?_⟩))
def sp_L_hand (_A : CA) : DSp := fun ds S Q _ => ∃ ns : List Int, ds = [.fl (ns.map D.int)] ∧ ns.length ≤ 63 ∧ ∀ h S', HandAt S' h → S h = none → Fr [] S S' → Q (.ref h) S'
theorem ok_L_hand (T : Top K mg A) : Fn P w K mg A.base 1 "_law_hand" (sp_L_hand A) := by
  obtain ⟨f, fd, hm, F⟩ := T.f_L_hand
  refine fn_mk F hm (F.binds fun _ _ _ _ _ _ us hl => match us, hl with | [_], _ => by kernel_rfl) sc_L_hand (fun ds S Q E h => by repeat (first | (obtain ⟨e, _⟩ := h; subst e; rfl) | (obtain ⟨_, h⟩ := h))) fun cdv A' outer s H E Ed ds S Q hr h => ?_
  have nd : (fnC P w K mg A.base ["_law_script", "_law_cells", "_law_cell"] "_law_hand" s_L_hand f cdv A' outer s H E Ed).X.N.Nodup := sc_L_hand.nd
  have n0 : Nm (fnC P w K mg A.base ["_law_script", "_law_cells", "_law_cell"] "_law_hand" s_L_hand f cdv A' outer s H E Ed) 0 "_law_script" := ⟨rfl, by first | exact .inl rfl | exact .inr rfl, .inl rfl, by decide +kernel, by decide +kernel⟩
  have n1 : Nm (fnC P w K mg A.base ["_law_script", "_law_cells", "_law_cell"] "_law_hand" s_L_hand f cdv A' outer s H E Ed) 1 "_law_cells" := ⟨rfl, by first | exact .inl rfl | exact .inr rfl, .inl rfl, by decide +kernel, by decide +kernel⟩
  have a2 : (fnC P w K mg A.base ["_law_script", "_law_cells", "_law_cell"] "_law_hand" s_L_hand f cdv A' outer s H E Ed).X.N[2]? = some ("_law_cell" : Str) := rfl
  refine qz_go (c := (fnC P w K mg A.base ["_law_script", "_law_cells", "_law_cell"] "_law_hand" s_L_hand f cdv A' outer s H E Ed)) ?_
  refine ⟨_, 
    (qz_cons (qs_setLc (.n 2) [("_law_cell", 2)] n1 rfl nd (qi_seq (q_slice (q_n n0) qo_none (qo_some q_int))) (lcT_n nd a2 (fun _ _ => .inl rfl) (fun _ _ => rfl)) qts_nil ⟨fun _ _ _ _ _ => (q_bi T.b_abs bt_abs (rAbs_ok) (qa_cons (q_bt T.b_int bt_int (rInt1_ok) (qa_cons (q_bn a2 (by first | exact .inl rfl | exact .inr (.inl rfl) | exact .inr (.inr rfl))) qa_nil)) qa_nil))⟩ (sw_comp rfl rfl rfl rfl)) (qz_one (qs_ret (q_lstM (qa_cons (q_n n1) (qa_cons q_int (qa_cons q_int (qa_cons (q_bin q_int (q_bi T.b_len bt_len (rLen_ok) (qa_cons (q_n n1) qa_nil))) (qa_cons q_int qa_nil))))))))), ?_⟩
  clear nd a2 n0 n1
  obtain ⟨ns, rfl, hl, q⟩ := h
  walk_at "g"
  refine rLc.pure (fun _ => true) absD (by rw [cut63 (by rw [List.length_map]; exact hl), List.length_map, sizeLine_eq]; omega) (fun _ _ _ => trivial) (fun d S' hd _ => ?_) fun Dl hn p hp => ?_
  · rw [cut63 (by rw [List.length_map]; exact hl)] at hd
    obtain ⟨i, _, rfl⟩ := List.mem_map.mp hd
    walk_at "g"
    exact ⟨fun Q q => q, fun _ Q q => by walk_at "g"; exact q⟩
  · rw [cut63 (by rw [List.length_map]; exact hl), filt_true, List.map_map]
    refine q p _ ⟨ns.map fun i => if i < 0 then -i else i, 0, 0, 1 + ns.length, 0, ?_, ?_⟩ hp (Fr.new hp)
    · rw [sup_same]
      rw [List.map_map, List.length_map]
      rfl
    · refine ⟨by omega, by omega, by omega, by omega, by omega, fun c hc => ?_⟩
      obtain ⟨i, _, rfl⟩ := List.mem_map.mp hc
      split <;> omega

def sp_L_draw (_A : CA) : DSp := fun ds S Q _ => ∃ h m, ds = [.ref h, .int m] ∧ HandAt S h ∧ 0 < m ∧ m < 18446744073709551616 ∧ ∀ n S', 0 ≤ n → n < m → HandAt S' h → Fr [h] S S' → Q (.int n) S'
theorem ok_L_draw (T : Top K mg A) : Fn P w K mg A.base 1 "_law_draw" (sp_L_draw A) := by
  obtain ⟨f, fd, hm, F⟩ := T.f_L_draw
  refine fn_mk F hm (F.binds fun _ _ _ _ _ _ us hl => match us, hl with | [_, _], _ => by kernel_rfl) sc_L_draw (fun ds S Q E h => by repeat (first | (obtain ⟨e, _⟩ := h; subst e; rfl) | (obtain ⟨_, h⟩ := h))) fun cdv A' outer s H E Ed ds S Q hr h => ?_
  have nd : (fnC P w K mg A.base ["_law_hand_here", "_law_many", "_law_cell", "_law_digit", "_law_number"] "_law_draw" s_L_draw f cdv A' outer s H E Ed).X.N.Nodup := sc_L_draw.nd
  have n0 : Nm (fnC P w K mg A.base ["_law_hand_here", "_law_many", "_law_cell", "_law_digit", "_law_number"] "_law_draw" s_L_draw f cdv A' outer s H E Ed) 0 "_law_hand_here" := ⟨rfl, by first | exact .inl rfl | exact .inr rfl, .inl rfl, by decide +kernel, by decide +kernel⟩
  have n1 : Nm (fnC P w K mg A.base ["_law_hand_here", "_law_many", "_law_cell", "_law_digit", "_law_number"] "_law_draw" s_L_draw f cdv A' outer s H E Ed) 1 "_law_many" := ⟨rfl, by first | exact .inl rfl | exact .inr rfl, .inl rfl, by decide +kernel, by decide +kernel⟩
  have n2 : Nm (fnC P w K mg A.base ["_law_hand_here", "_law_many", "_law_cell", "_law_digit", "_law_number"] "_law_draw" s_L_draw f cdv A' outer s H E Ed) 2 "_law_cell" := ⟨rfl, by first | exact .inl rfl | exact .inr rfl, .inl rfl, by decide +kernel, by decide +kernel⟩
  have n3 : Nm (fnC P w K mg A.base ["_law_hand_here", "_law_many", "_law_cell", "_law_digit", "_law_number"] "_law_draw" s_L_draw f cdv A' outer s H E Ed) 3 "_law_digit" := ⟨rfl, by first | exact .inl rfl | exact .inr rfl, .inl rfl, by decide +kernel, by decide +kernel⟩
  have n4 : Nm (fnC P w K mg A.base ["_law_hand_here", "_law_many", "_law_cell", "_law_digit", "_law_number"] "_law_draw" s_L_draw f cdv A' outer s H E Ed) 4 "_law_number" := ⟨rfl, by first | exact .inl rfl | exact .inr rfl, .inl rfl, by decide +kernel, by decide +kernel⟩
  have hu : Un (fnC P w K mg A.base ["_law_hand_here", "_law_many", "_law_cell", "_law_digit", "_law_number"] "_law_draw" s_L_draw f cdv A' outer s H E Ed) := un_of hr
  refine qz_go (c := (fnC P w K mg A.base ["_law_hand_here", "_law_many", "_law_cell", "_law_digit", "_law_number"] "_law_draw" s_L_draw f cdv A' outer s H E Ed)) ?_
  refine ⟨_, 
    (qz_cons (qs_if (qt_w (qw_and (qt_cmp hu (q_ix hu (q_n n0) q_int) q_int) (qw_and1 (qt_cmp hu (q_ix hu (q_n n0) q_int) (q_bi T.b_len bt_len (rLen_ok) (qa_cons (q_ix hu (q_n n0) q_int) qa_nil)))))) 
    (qz_cons (qs_st n2 nd (q_ix hu (q_ix hu (q_n n0) q_int) (q_ix hu (q_n n0) q_int))) 
    (qz_cons (qs_asg (q_bin (q_ix hu (q_n n0) q_int) q_int) (qg_ix hu (q_n n0) q_int)) 
    (qz_cons (qs_asg (q_bin (q_bt T.b_int bt_int (rInt1_ok) (qa_cons (q_bin (q_bin (q_bin (q_ix hu (q_n n0) q_int) q_int) (q_n n2)) q_int) qa_nil)) q_int) (qg_ix hu (q_n n0) q_int)) (qz_one (qs_if (qt_cmp hu (q_n n2) (q_bin q_int q_int)) (qz_one (qs_asg (q_n n2) (qg_ix hu (q_n n0) q_int))) qz_nil))))) qz_nil) 
    (qz_cons (qs_if (qt_cmp hu (q_ix hu (q_n n0) q_int) q_int) 
    (qz_cons (qs_st n3 nd (q_bin (q_bt T.b_int bt_int (rInt1_ok) (qa_cons (q_ix hu (q_n n0) q_int) qa_nil)) (q_n n1))) 
    (qz_cons (qs_asg (q_bin (q_ix hu (q_n n0) q_int) (q_n n1)) (qg_ix hu (q_n n0) q_int)) (qz_one (qs_ret (q_n n3))))) qz_nil) 
    (qz_cons (qs_asg (q_bin (q_ix hu (q_n n0) q_int) q_int) (qg_ix hu (q_n n0) q_int)) 
    (qz_cons (qs_st n4 nd (q_bin (q_bt T.b_int bt_int (rInt1_ok) (qa_cons (q_bin (q_bt T.b_int bt_int (rInt1_ok) (qa_cons (q_bin (q_ix hu (q_n n0) q_int) (q_bin q_int (q_ix hu (q_n n0) q_int))) qa_nil)) q_int) qa_nil)) q_int)) 
    (qz_cons (qs_st n4 nd (q_bin (q_bt T.b_int bt_int (rInt1_ok) (qa_cons (q_bin (q_n n4) (q_bin (q_bin (q_n n4) q_int) q_int)) qa_nil)) q_int)) 
    (qz_cons (qs_st n4 nd (q_bin (q_bt T.b_int bt_int (rInt1_ok) (qa_cons (q_bin (q_n n4) (q_bin (q_bin (q_n n4) q_int) q_int)) qa_nil)) q_int)) (qz_one (qs_ret (q_bin (q_bt T.b_int bt_int (rInt1_ok) (qa_cons (q_bin (q_n n4) q_int) qa_nil)) (q_n n1)))))))))), ?_⟩
  clear nd hu n0 n1 n2 n3 n4
  obtain ⟨h, m, rfl, ⟨cs, i, big, seed, cnt, eh, h1, h2, h3, h4, h5, h6⟩, hm1, hm2, q⟩ := h
  have q2 : ∀ S1 cs i big seed cnt n, S1 h = some (.lst [.fl (List.map D.int cs), .int i, .int big, .int seed, .int cnt]) → 0 ≤ i → 0 ≤ big → 0 ≤ seed → seed < 2147483647 → 0 ≤ cnt → (∀ c ∈ cs, 0 ≤ c) → Fr [h] S S1 → Q (.int (n % m)) S1 := fun S1 cs i big seed cnt n e a1 a2 a3 a4 a5 a6 f => q _ _ (Int.emod_nonneg _ (by omega)) (Int.emod_lt_of_pos _ hm1) ⟨cs, i, big, seed, cnt, e, a1, a2, a3, a4, a5, a6⟩ f
  walk_at "g"
  refine iteD (fun b1 => ?_) (fun b1 => ?_)
  · walk_at "g"
    refine iteD (fun b2 => ?_) (fun b2 => ?_)
    · obtain ⟨c, hc, ec⟩ := at_int h1 b2
      have h7 := h6 c hc
      walk_at "g"
      refine ⟨_, ec, ?_⟩
      walk_at "g"
      refine iteD (fun b4 => ?_) (fun b4 => ?_)
      · walk_at "g"
        refine iteD (fun b3 => ?_) (fun b3 => ?_) <;> walk_at "g" <;> exact q2 _ _ _ _ _ _ _ sup_same (by omega) (by first | omega | exact Int.ediv_nonneg (by omega) (by omega)) (by omega) (by omega) (by omega) h6 (by walk_at "fr")
      · walk_at "g"
        refine iteD (fun b3 => ?_) (fun b3 => ?_) <;> walk_at "g" <;> exact q2 _ _ _ _ _ _ _ sup_same (by omega) (by first | omega | exact Int.ediv_nonneg (by omega) (by omega)) (by omega) (by omega) (by omega) h6 (by walk_at "fr")
    · walk_at "g"
      refine iteD (fun b3 => ?_) (fun b3 => ?_) <;> walk_at "g" <;> exact q2 _ _ _ _ _ _ _ sup_same (by omega) (by first | omega | exact Int.ediv_nonneg (by omega) (by omega)) (by omega) (by omega) (by omega) h6 (by walk_at "fr")
  · walk_at "g"
    refine iteD (fun b3 => ?_) (fun b3 => ?_) <;> walk_at "g" <;> exact q2 _ _ _ _ _ _ _ sup_same (by omega) (by first | omega | exact Int.ediv_nonneg (by omega) (by omega)) (by omega) (by omega) (by omega) h6 (by walk_at "fr")

local macro_rules | `(tactic| walk_at "sp") => `(tactic| ((with_reducible show sp_L_draw _ _ _ _ _); refine ⟨_, _, rfl, by assumption, by omega, by omega, ?_⟩))
def sp_L_any (_A : CA) : DSp := fun ds S Q _ => ∃ h x xs, ds = [.ref h, x] ∧ IsL S x xs ∧ x ≠ .ref h ∧ xs ≠ [] ∧ xs.length ≤ 1000000 ∧ HandAt S h ∧ ∀ d S', d ∈ xs → HandAt S' h → Fr [h] S S' → Q d S'
theorem ok_L_any (T : Top K mg A) : Fn P w K mg A.base 2 "_law_any" (sp_L_any A) := by
  obtain ⟨f, fd, hm, F⟩ := T.f_L_any
  refine fn_mk F hm (F.binds fun _ _ _ _ _ _ us hl => match us, hl with | [_, _], _ => by kernel_rfl) sc_L_any (fun ds S Q E h => by repeat (first | (obtain ⟨e, _⟩ := h; subst e; rfl) | (obtain ⟨_, h⟩ := h))) fun cdv A' outer s H E Ed ds S Q hr h => ?_
  have nd : (fnC P w K mg A.base ["_law_hand_here", "_law_some"] "_law_any" s_L_any f cdv A' outer s H E Ed).X.N.Nodup := sc_L_any.nd
  have n0 : Nm (fnC P w K mg A.base ["_law_hand_here", "_law_some"] "_law_any" s_L_any f cdv A' outer s H E Ed) 0 "_law_hand_here" := ⟨rfl, by first | exact .inl rfl | exact .inr rfl, .inl rfl, by decide +kernel, by decide +kernel⟩
  have n1 : Nm (fnC P w K mg A.base ["_law_hand_here", "_law_some"] "_law_any" s_L_any f cdv A' outer s H E Ed) 1 "_law_some" := ⟨rfl, by first | exact .inl rfl | exact .inr rfl, .inl rfl, by decide +kernel, by decide +kernel⟩
  have hu : Un (fnC P w K mg A.base ["_law_hand_here", "_law_some"] "_law_any" s_L_any f cdv A' outer s H E Ed) := un_of hr
  refine qz_go (c := (fnC P w K mg A.base ["_law_hand_here", "_law_some"] "_law_any" s_L_any f cdv A' outer s H E Ed)) ?_
  refine ⟨_, (qz_one (qs_ret (q_ix hu (q_n n1) (q_call (ok_L_draw T) (hr.mono (by decide)) (qa_cons (q_n n0) (qa_cons (q_bi T.b_len bt_len (rLen_ok) (qa_cons (q_n n1) qa_nil)) qa_nil)))))), ?_⟩
  clear nd hu n0 n1
  obtain ⟨h, x, xs, rfl, hx, hxh, hne, hlen, hh, q⟩ := h
  have hl : 0 < xs.length := List.length_pos_iff.mpr hne
  rcases hx with rfl | ⟨a, rfl, ea⟩
  · walk_at "g"
    intro n S' n1 n2 hh' f
    obtain ⟨d, hd, hm⟩ := atI_mem (xs := xs) n1 (by omega)
    walk_at "g"
    exact ⟨d, hd, q d S' hm hh' f⟩
  · walk_at "g"
    intro n S' n1 n2 hh' f
    obtain ⟨d, hd, hm⟩ := atI_mem (xs := xs) n1 (by omega)
    have ea' := f.one ea (fun e => hxh (by rw [e]))
    walk_at "g"
    exact q d S' hm hh' f


end K02

namespace K02
open PySem L2 DP
local macro_rules | `(tactic| walk_at "v") => `(tactic| dsimp only [startD, k_nt, k_nf, k_ta, k_fa, k_to, k_fo, Int.reduceToNat, List.set, wipeD, k_p6, k_p16, k_p17, k_p18, k_p30, Bool.not_true, Bool.not_false, Bool.and_true, Bool.true_and, Bool.and_false, Bool.false_and, Bool.or_true, Bool.true_or, Bool.or_false, Bool.false_or, List.map, fnC_DX, List.length_cons, List.length_nil, k_rv0, k_rv1, k_rv2, k_rbl, k_rint, k_rI2, k_badd, k_bSub, k_bMult, k_bFloorDiv, k_bMod, k_bPow, k_addi, k_addt, k_addf, k_itm, k_ceq, k_cne, k_cis, k_cisn, k_cin, k_cnin, k_ciLt, k_csLt, k_ciLtE, k_csLtE, k_ciGt, k_csGt, k_ciGtE, k_csGtE, k_eqi, k_eqs, k_eqb, k_isn, k_isb, k_keyi, k_keys, k_ins, k_int, k_inf, k_tru0, k_tru1, k_tru2, k_tru3, k_tru4, k_tru5, k_ipa, k_ips, k_cons, k_cons2, k_cons3, k_tup, k_seqf, k_seqt, k_seqs, k_rfl, k_patn, k_patt, k_setN0, k_setN1, k_ixt, k_ixf, k_ixs, k_opt0, k_opt1, k_slt, k_slf, k_sls, k_rev, k_r1, k_r2, k_lent, k_lenf, k_lens, k_abs, k_min, k_max, k_int1, k_lstt, k_lstf, k_lstMt, k_lstMf, k_tupt, k_tupf, k_bls, k_sum, k_rcL, k_rcS, isI_non, isI_bl, isI_int, isI_str, isI_tup, isI_fl, isI_ref, isB_non, isB_bl, isB_int, isB_str, isB_tup, isB_fl, isB_ref, isS_non, isS_bl, isS_int, isS_str, isS_tup, isS_fl, isS_ref, isT_non, isT_bl, isT_int, isT_str, isT_tup, isT_fl, isT_ref, isInt_non, isInt_bl, isInt_int, isInt_str, isInt_tup, isInt_fl, isInt_ref, isNon_non, isNon_bl, isNon_int, isNon_str, isNon_tup, isNon_fl, isNon_ref, isLs_non, isLs_bl, isLs_int, isLs_str, isLs_tup, isLs_fl, isDc_non, isDc_bl, isDc_int, isDc_str, isDc_tup, isDc_fl])
local macro_rules | `(tactic| walk_at "lk") => `(tactic| rfl)
local macro_rules | `(tactic| walk_at "sz") => `(tactic| first | assumption | (simp only [List.length_cons, List.length_nil]; decide) | omega)
local macro_rules | `(tactic| walk_at "at") => `(tactic| first | assumption | exact sup_same | (refine sup_at (by assumption) ?_; walk_at "at"))
local macro_rules | `(tactic| walk_at "sp") => `(tactic| fail)
local macro_rules | `(tactic| walk_at "s") => `(tactic| first
  | (with_reducible refine iteT ?_)
  | (with_reducible refine iteF ?_)
  | ((with_reducible refine And.intro ?_ ?_); (focus (first | with_reducible exact kn_int | with_reducible exact kn_str | with_reducible exact kn_tup | with_reducible exact kn_fl | with_reducible exact kn_bl | with_reducible exact kn_non | with_reducible assumption)))
  | ((with_reducible apply m_ixl); (focus (walk_at "at")); (focus rfl))
  | ((with_reducible apply m_ixl'); (focus (walk_at "at")); (focus (assumption)))
  | ((with_reducible apply m_ixki); (focus (walk_at "at")); (focus (assumption)))
  | ((with_reducible apply m_ixks); (focus (walk_at "at")); (focus (first | assumption | walk_at "lk")))
  | ((with_reducible apply m_stl); (focus (walk_at "at")); (focus rfl))
  | ((with_reducible apply m_stki); (focus (walk_at "at")); (focus (walk_at "sz")))
  | ((with_reducible apply m_stks); (focus (walk_at "at")); (focus (walk_at "sz")))
  | ((with_reducible apply m_itm); (focus (walk_at "at")))
  | ((with_reducible apply m_seq); (focus (walk_at "at")))
  | ((with_reducible apply m_lenl); (focus (walk_at "at")))
  | ((with_reducible apply m_lenk); (focus (walk_at "at")))
  | ((with_reducible apply m_ls); (focus (walk_at "at")))
  | ((with_reducible apply m_dk); (focus (walk_at "at")))
  | ((with_reducible apply m_rcL); (focus (walk_at "at")))
  | ((with_reducible apply m_rcD); (focus (walk_at "at")))
  | ((with_reducible apply m_trul); (focus (walk_at "at")))
  | ((with_reducible apply m_truk); (focus (walk_at "at")))
  | ((with_reducible apply m_inki); (focus (walk_at "at")))
  | ((with_reducible apply m_inks); (focus (walk_at "at")))
  | ((with_reducible apply m_fld); (focus (walk_at "at")); (focus (walk_at "lk")))
  | ((with_reducible apply m_put); (focus (walk_at "at")); (focus (walk_at "sz")))
  | ((with_reducible apply m_get1); (focus (walk_at "at")))
  | ((with_reducible apply m_get2); (focus (walk_at "at")))
  | ((with_reducible apply m_pop1); (focus (walk_at "at")))
  | ((with_reducible apply m_pop2); (focus (walk_at "at")))
  | ((with_reducible show ∃ d, atI _ _ = some d ∧ _); refine ⟨_, rfl, ?_⟩)
  | ((with_reducible show ∃ d, some _ = some d ∧ _); refine ⟨_, rfl, ?_⟩)
  | (with_reducible refine And.intro rfl ?_)
  | walk_at "sp")
local macro_rules | `(tactic| walk_at "g") => `(tactic| repeat (first | walk_at "v" | walk_at "s"))
local macro_rules | `(tactic| walk_at "ar") => `(tactic| first
  | ((with_reducible show IntMulOk _ _ ∧ _); refine And.intro (by first | exact mul_small (by omega) (by omega) | exact mulok_r (by omega) (by omega)) ?_)
  | ((with_reducible show CDivW _ _ ∧ _); refine And.intro (div_small (by omega) (by omega)) ?_)
  | ((with_reducible show CPow _ _ ∧ _); refine And.intro (by unfold CPow; decide) ?_)
  | ((with_reducible show 0 < _ ∧ _); refine And.intro (by omega) ?_)
  | ((with_reducible show (-(2 ^ 62) ≤ _ ∧ _ < 2 ^ 62) ∧ _); refine And.intro ⟨by omega, by omega⟩ ?_)
  | ((with_reducible show (-(2 ^ 62) ≤ _ ∧ _ < 2 ^ 62 ∧ -(2 ^ 62) ≤ _ ∧ _ < 2 ^ 62) ∧ _); refine And.intro ⟨by omega, by omega, by omega, by omega⟩ ?_))
local macro_rules | `(tactic| walk_at "g") => `(tactic| repeat (first | walk_at "v" | walk_at "s" | walk_at "ar"))
local macro_rules | `(tactic| walk_at "fr") => `(tactic| first | exact Fr.refl | assumption | (apply Fr.putr; rotate_left; (focus (simp; done)); walk_at "fr") | (refine Fr.newer ?_ (by assumption); walk_at "fr"))

variable {P : Program} {w : World} {K : PySem.W.Frag} {mg : Str → Option Value} {base : Heap} {A : CA}
local macro_rules | `(tactic| walk_at "s") => `(tactic| ((with_reducible refine And.intro ?_ ?_); (focus (first | with_reducible exact knx_int | with_reducible exact knx_str | with_reducible exact knx_tup | with_reducible exact knx_fl | with_reducible exact knx_bl | with_reducible exact knx_non))))
local macro_rules | `(tactic| walk_at "sp") => `(tactic| ((with_reducible show sp_is_integer _ _ _ _ _); refine ⟨_, rfl, by first | exact knx_int | exact knx_str | exact knx_tup | exact knx_fl | exact knx_bl | exact knx_non | assumption, ?_⟩))
local macro_rules | `(tactic| walk_at "sp") => `(tactic| ((with_reducible show sp_is_within _ _ _ _ _); refine ⟨_, _, _, rfl, by first | exact knx_int | exact knx_str | exact knx_tup | exact knx_fl | exact knx_bl | exact knx_non | assumption, ?_⟩))
local macro_rules | `(tactic| walk_at "sp") => `(tactic| ((with_reducible show sp_L_draw _ _ _ _ _); refine ⟨_, _, rfl, by assumption, by omega, by omega, ?_⟩))
local macro_rules | `(tactic| walk_at "lk") => `(tactic| first | exact lk_l | exact lk_w | exact lk_p | exact lk_r | rfl)
theorem m_put_w {S : SS} {a C l w w' : Addr} {po : D} {re : Int} {k : SS → Prop} (h : S a = some (.ins C (fsD l w po re))) (q : k (sup S a (.ins C (fsD l w' po re)))) : rPut C "kept_waiting" (.ref w') (.ref a) S k := ⟨a, _, rfl, h, by show 4 < 1000; decide, by rw [pt_w]; exact q⟩
theorem m_put_p {S : SS} {a C l w : Addr} {po po' : D} {re : Int} {k : SS → Prop} (h : S a = some (.ins C (fsD l w po re))) (q : k (sup S a (.ins C (fsD l w po' re)))) : rPut C "kept_power" po' (.ref a) S k := ⟨a, _, rfl, h, by show 4 < 1000; decide, by rw [pt_p]; exact q⟩
theorem m_put_r {S : SS} {a C l w : Addr} {po : D} {re re' : Int} {k : SS → Prop} (h : S a = some (.ins C (fsD l w po re))) (q : k (sup S a (.ins C (fsD l w po re')))) : rPut C "kept_reached" (.int re') (.ref a) S k := ⟨a, _, rfl, h, by show 4 < 1000; decide, by rw [pt_r]; exact q⟩
local macro_rules | `(tactic| walk_at "sp") => `(tactic| ((with_reducible apply m_put_w); (focus (walk_at "at"))))
local macro_rules | `(tactic| walk_at "sp") => `(tactic| ((with_reducible apply m_put_p); (focus (walk_at "at"))))
local macro_rules | `(tactic| walk_at "sp") => `(tactic| ((with_reducible apply m_put_r); (focus (walk_at "at"))))
theorem m_meth {S : SS} {a C : Addr} {fs : List (Str × D)} {m : Str} {k : Addr → List (Str × D) → Prop} (h : S a = some (.ins C fs)) (e : fs.lookup m = none) (q : k a fs) : ∃ b gs, D.ref a = D.ref b ∧ S b = some (.ins C gs) ∧ gs.lookup m = none ∧ k b gs := ⟨a, fs, rfl, h, e, q⟩
theorem m_aug {S : SS} {a C : Addr} {fs : List (Str × D)} {m : Str} {v : D} {k : Addr → List (Str × D) → D → Prop} (h : S a = some (.ins C fs)) (e : fs.lookup m = some v) (q : k a fs v) : ∃ b gs u, D.ref a = D.ref b ∧ S b = some (.ins C gs) ∧ gs.lookup m = some u ∧ k b gs u := ⟨a, fs, v, rfl, h, e, q⟩
theorem m_aug2 {S : SS} {a C : Addr} {fs : List (Str × D)} {k : List (Str × D) → Prop} (h : S a = some (.ins C fs)) (e : fs.length < 1000) (q : k fs) : ∃ gs, S a = some (.ins C gs) ∧ gs.length < 1000 ∧ k gs := ⟨fs, h, e, q⟩
local macro_rules | `(tactic| walk_at "sz") => `(tactic| (rw [sizeLine_eq]; omega))
theorem m_fdk {S : SS} {a : Addr} {od : Obj} {vs : List (Key × V)} {kvs : List (Key × D)} {k : Addr → Obj → List (Key × V) → List (Key × D) → Prop} (h : S a = some (.fdk od vs kvs)) (q : k a od vs kvs) : rFdk (.ref a) S k := ⟨od, vs, kvs, h, q⟩
local macro_rules | `(tactic| walk_at "sp") => `(tactic| ((with_reducible apply m_fdk); (focus (walk_at "at"))))
local macro_rules | `(tactic| walk_at "sp") => `(tactic| ((with_reducible apply m_meth); (focus (walk_at "at")); (focus (kernel_rfl))))
local macro_rules | `(tactic| walk_at "sp") => `(tactic| ((with_reducible apply m_aug); (focus (walk_at "at")); (focus (walk_at "lk"))))
local macro_rules | `(tactic| walk_at "sp") => `(tactic| ((with_reducible apply m_aug2); (focus (walk_at "at")); (focus (show 4 < 1000; decide))))
local macro_rules | `(tactic| walk_at "sp") => `(tactic| first | rw [pt_p] | rw [pt_w] | rw [pt_r])
def lotX (m : Int) : Int → List D → Bool
  | _, [] => true
  | a, y :: r => inR y (a + 1) (m - 1) && (match y with | .int i => lotX m i r | _ => false)
def lotG (m : Int) (x : D) : Bool := match x with
  | .tup xs => lotX m (-1) xs
  | _ => false
theorem inR_int {x : D} {a b : Int} (h : inR x a b = true) : ∃ i, x = .int i ∧ a ≤ i ∧ i ≤ b := by
  cases x with
  | int i =>
    have h : (decide (a ≤ i) && decide (i ≤ b)) = true := h
    rw [Bool.and_eq_true, decide_eq_true_iff, decide_eq_true_iff] at h
    exact ⟨i, rfl, h⟩
  | _ => cases h
theorem lotX_ints {m : Int} : ∀ {xs : List D} {a : Int}, lotX m a xs = true → ∃ bs : List Int, xs = bs.map D.int ∧ lotB m a bs = true
  | [], _, _ => ⟨[], rfl, rfl⟩
  | y :: r, a, h => by
    unfold lotX at h
    rw [Bool.and_eq_true] at h
    obtain ⟨i, rfl, h1, h2⟩ := inR_int h.1
    obtain ⟨bs, rfl, h3⟩ := lotX_ints (a := i) h.2
    refine ⟨i :: bs, rfl, ?_⟩
    unfold lotB
    rw [decide_eq_true h1, decide_eq_true h2, h3]
    rfl
def sp_is_lot (A : CA) : DSp := fun ds S Q _ => ∃ x m, ds = [x, .int m] ∧ KnX A.cDisk S x ∧ (∀ xs, x = .tup xs → ∀ y ∈ xs, KnX A.cDisk S y) ∧ Q (.bl (lotG m x)) S
theorem ok_is_lot (T : Top K mg A) : Fn P w K mg A.base 3 "is_lot" (sp_is_lot A) := by
  obtain ⟨f, fd, hm, F⟩ := T.f_is_lot
  refine fn_mk F hm (F.binds fun _ _ _ _ _ _ us hl => match us, hl with | [_, _], _ => by kernel_rfl) sc_is_lot (fun ds S Q E h => by repeat (first | (obtain ⟨e, _⟩ := h; subst e; rfl) | (obtain ⟨_, h⟩ := h))) fun cdv A' outer s H E Ed ds S Q hr h => ?_
  have nd : (fnC P w K mg A.base ["thing", "many", "last", "number"] "is_lot" s_is_lot f cdv A' outer s H E Ed).X.N.Nodup := sc_is_lot.nd
  have n0 : Nm (fnC P w K mg A.base ["thing", "many", "last", "number"] "is_lot" s_is_lot f cdv A' outer s H E Ed) 0 "thing" := ⟨rfl, by first | exact .inl rfl | exact .inr rfl, .inl rfl, by decide +kernel, by decide +kernel⟩
  have n1 : Nm (fnC P w K mg A.base ["thing", "many", "last", "number"] "is_lot" s_is_lot f cdv A' outer s H E Ed) 1 "many" := ⟨rfl, by first | exact .inl rfl | exact .inr rfl, .inl rfl, by decide +kernel, by decide +kernel⟩
  have n2 : Nm (fnC P w K mg A.base ["thing", "many", "last", "number"] "is_lot" s_is_lot f cdv A' outer s H E Ed) 2 "last" := ⟨rfl, by first | exact .inl rfl | exact .inr rfl, .inl rfl, by decide +kernel, by decide +kernel⟩
  have n3 : Nm (fnC P w K mg A.base ["thing", "many", "last", "number"] "is_lot" s_is_lot f cdv A' outer s H E Ed) 3 "number" := ⟨rfl, by first | exact .inl rfl | exact .inr rfl, .inl rfl, by decide +kernel, by decide +kernel⟩
  have po := fnC_po (P := P) (w := w) (K := K) (mg := mg) (base := A.base) (N := ["thing", "many", "last", "number"]) (qual := "is_lot") (st := s_is_lot) (f := f) (cdv := cdv) (A := A') (outer := outer) (s := s) (H := H) (E := E) (Ed := Ed)
  refine qz_go (c := (fnC P w K mg A.base ["thing", "many", "last", "number"] "is_lot" s_is_lot f cdv A' outer s H E Ed)) ?_
  refine ⟨_, 
    (qz_cons (qs_if (qt_not (qt_tru (q_isiX T.ix_Disk (by decide) (fun _ x => isT x) (fun _ _ _ => cd_isT) (hzf fun _ => rfl) T.b_isinstance T.b_tuple bt_tuple (q_n n0)))) (qz_one (qs_ret q_bl)) qz_nil) 
    (qz_cons (qs_st n2 nd (q_neg q_int)) 
    (qz_cons (qs_for (qi_seq (q_n n0)) (qg_n n3 nd) 
    (qz_cons (qs_if (qt_not (qt_tru (q_call (ok_is_within T) (hr.mono (by decide)) (qa_cons (q_n n3) (qa_cons (q_bin (q_n n2) q_int) (qa_cons (q_bin (q_n n1) q_int) qa_nil)))))) (qz_one (qs_ret q_bl)) qz_nil) (qz_one (qs_st n2 nd (q_n n3)))) po) (qz_one (qs_ret q_bl))))), ?_⟩
  clear nd po n0 n1 n2 n3
  obtain ⟨x, m, rfl, hk, hx, q⟩ := h
  cases x with
  | tup xs =>
    have hy := hx xs rfl
    have q : Q (.bl (lotX m (-1) xs)) S := q
    walk_at "g"
    refine ⟨fun r ρ' S' => S' = S ∧ (∀ y ∈ r, KnX A.cDisk S y) ∧ ∃ a o, ρ' = [some (.tup xs), some (.int m), some (.int a), o] ∧ Q (.bl (lotX m a r)) S, ⟨rfl, hy, -1, none, rfl, q⟩, fun _ _ _ _ => trivial, ?_, ?_⟩
    · rintro y r ρ' S' ⟨rfl, hr, a, o, rfl, q⟩
      have hy1 := hr y List.mem_cons_self
      unfold lotX at q
      walk_at "g"
      cases hb : inR y (a + 1) (m - 1) with
      | true =>
        obtain ⟨i, rfl, _, _⟩ := inR_int hb
        rw [hb, Bool.true_and] at q
        walk_at "g"
        exact ⟨fun z hz => hr z (List.mem_cons_of_mem _ hz), i, _, rfl, q⟩
      | false =>
        rw [hb, Bool.false_and] at q
        walk_at "g"
        exact q
    · rintro ρ' S' ⟨rfl, hr, a, o, rfl, q⟩
      walk_at "g"
      exact q
  | _ => walk_at "g"; exact q

def OkX (C : Addr) (S : SS) (y : D) : Prop := KnX C S y ∧ ∀ s, y = .str s → s.length ≤ sizeLine
theorem OkX.ext {C : Addr} {S S' : SS} {x : D} (h : OkX C S x) (e : ∀ a o, S a = some o → S' a = some o) : OkX C S' x := ⟨h.1.ext e, h.2⟩
def sp_is_item (A : CA) : DSp := fun ds S Q _ => ∃ x, ds = [x] ∧ OkX A.cDisk S x ∧ Q (.bl (itemB x)) S
theorem ok_is_item (T : Top K mg A) : Fn P w K mg A.base 2 "is_item" (sp_is_item A) := by
  obtain ⟨f, fd, hm, F⟩ := T.f_is_item
  refine fn_mk F hm (F.binds fun _ _ _ _ _ _ us hl => match us, hl with | [_], _ => by kernel_rfl) sc_is_item (fun ds S Q E h => by repeat (first | (obtain ⟨e, _⟩ := h; subst e; rfl) | (obtain ⟨_, h⟩ := h))) fun cdv A' outer s H E Ed ds S Q hr h => ?_
  have nd : (fnC P w K mg A.base ["thing", "letter"] "is_item" s_is_item f cdv A' outer s H E Ed).X.N.Nodup := sc_is_item.nd
  have n0 : Nm (fnC P w K mg A.base ["thing", "letter"] "is_item" s_is_item f cdv A' outer s H E Ed) 0 "thing" := ⟨rfl, by first | exact .inl rfl | exact .inr rfl, .inl rfl, by decide +kernel, by decide +kernel⟩
  have a1 : (fnC P w K mg A.base ["thing", "letter"] "is_item" s_is_item f cdv A' outer s H E Ed).X.N[1]? = some ("letter" : Str) := rfl
  have hu : Un (fnC P w K mg A.base ["thing", "letter"] "is_item" s_is_item f cdv A' outer s H E Ed) := un_of hr
  refine qz_go (c := (fnC P w K mg A.base ["thing", "letter"] "is_item" s_is_item f cdv A' outer s H E Ed)) ?_
  refine ⟨_, 
    (qz_cons (qs_if (qt_tru (q_isiX T.ix_Disk (by decide) (fun _ x => isS x) (fun _ _ _ => cd_isS) (hzf fun _ => rfl) T.b_isinstance T.b_str bt_str (q_n n0))) (qz_one (qs_ret (q_and (q_cmp hu (q_bi T.b_len bt_len (rLen_ok) (qa_cons (q_n n0) qa_nil)) (q_gint T.c_MOST_LETTERS)) (q_one (q_bi T.b_all bt_all (rAll_ok) (qa_cons (q_lc (.n 1) [("letter", 1)] nd (qi_seq (q_n n0)) (lcT_n nd a1 (fun _ _ => .inl rfl) (fun _ _ => rfl)) qts_nil ⟨fun _ _ _ _ _ => (q_cmp hu (q_bn a1 (by first | exact .inl rfl | exact .inr (.inl rfl) | exact .inr (.inr rfl))) (q_gstr T.c_LETTERS))⟩) qa_nil)))))) qz_nil) (qz_one (qs_ret (q_and (q_call (ok_is_integer T) (hr.mono (by decide)) (qa_cons (q_n n0) qa_nil)) (q_one (q_chain hu (q_neg (q_gint T.c_MOST_INTEGER)) (q_n n0) (q_gint T.c_MOST_INTEGER))))))), ?_⟩
  clear nd hu a1 n0
  obtain ⟨x, rfl, hk, q⟩ := h
  have hkn := hk.1
  cases x with
  | str s =>
    have hl := hk.2 s rfl
    have e : itemB (.str s) = (decide ((s.length : Int) ≤ 12) && lowB s) := rfl
    rw [e] at q
    walk_at "g"
    refine iteD (fun h1 => ?_) (fun h1 => ?_)
    · rw [decide_eq_true h1, Bool.true_and] at q
      refine rLc.pure (fun _ => true) (fun d => match d with | .str z => .bl (inS z abc) | d => d) (by unfold signs; rw [List.length_map, sizeLine_eq]; have h9 : s.cps.toList.length = s.length := (by simp [Str.length]); omega) (fun _ _ _ => trivial) (fun d S' hd _ => ?_) fun Dl hn => ?_
      · obtain ⟨c, _, rfl⟩ := List.mem_map.mp hd
        walk_at "g"
        exact ⟨fun Q q => q, fun _ Q q => by walk_at "g"; exact q⟩
      · walk_at "g"
        refine ⟨s.cps.toList.map fun c => inS ⟨#[c]⟩ abc, ?_, ?_⟩
        · rw [filt_true]; unfold signs; rw [List.map_map, List.map_map]; rfl
        · have e3 : (s.cps.toList.map fun c => inS ⟨#[c]⟩ abc).all id = lowB s := by unfold lowB; rw [List.all_map]; rfl
          rw [e3]; exact q
    · rw [decide_eq_false h1, Bool.false_and] at q; exact q
  | int i =>
    have e : itemB (.int i) = (decide (-1000000000000000000000000000000 ≤ i) && decide (i ≤ 1000000000000000000000000000000)) := rfl
    rw [e] at q
    walk_at "g"
    refine iteD (fun h1 => ?_) (fun h1 => ?_)
    · rw [decide_eq_true h1, Bool.true_and] at q; walk_at "g"; exact q
    · rw [decide_eq_false h1, Bool.false_and] at q; exact q
  | _ => walk_at "g"; exact q

local macro_rules | `(tactic| walk_at "sp") => `(tactic| ((with_reducible show sp_is_item _ _ _ _ _); refine ⟨_, rfl, by assumption, ?_⟩))
def sp_are_items (A : CA) : DSp := fun ds S Q _ => ∃ x m, ds = [x, .int m] ∧ KnX A.cDisk S x ∧ (∀ xs, x = .tup xs → xs.length < sizeLine ∧ ∀ y ∈ xs, OkX A.cDisk S y) ∧ Q (.bl (itemsB x m)) S
theorem ok_are_items (T : Top K mg A) : Fn P w K mg A.base 3 "are_items" (sp_are_items A) := by
  obtain ⟨f, fd, hm, F⟩ := T.f_are_items
  refine fn_mk F hm (F.binds fun _ _ _ _ _ _ us hl => match us, hl with | [_, _], _ => by kernel_rfl) sc_are_items (fun ds S Q E h => by repeat (first | (obtain ⟨e, _⟩ := h; subst e; rfl) | (obtain ⟨_, h⟩ := h))) fun cdv A' outer s H E Ed ds S Q hr h => ?_
  have nd : (fnC P w K mg A.base ["thing", "most", "item"] "are_items" s_are_items f cdv A' outer s H E Ed).X.N.Nodup := sc_are_items.nd
  have n0 : Nm (fnC P w K mg A.base ["thing", "most", "item"] "are_items" s_are_items f cdv A' outer s H E Ed) 0 "thing" := ⟨rfl, by first | exact .inl rfl | exact .inr rfl, .inl rfl, by decide +kernel, by decide +kernel⟩
  have n1 : Nm (fnC P w K mg A.base ["thing", "most", "item"] "are_items" s_are_items f cdv A' outer s H E Ed) 1 "most" := ⟨rfl, by first | exact .inl rfl | exact .inr rfl, .inl rfl, by decide +kernel, by decide +kernel⟩
  have a2 : (fnC P w K mg A.base ["thing", "most", "item"] "are_items" s_are_items f cdv A' outer s H E Ed).X.N[2]? = some ("item" : Str) := rfl
  have hu : Un (fnC P w K mg A.base ["thing", "most", "item"] "are_items" s_are_items f cdv A' outer s H E Ed) := un_of hr
  refine qz_go (c := (fnC P w K mg A.base ["thing", "most", "item"] "are_items" s_are_items f cdv A' outer s H E Ed)) ?_
  refine ⟨_, (qz_one (qs_ret (q_and (q_isiX T.ix_Disk (by decide) (fun _ x => isT x) (fun _ _ _ => cd_isT) (hzf fun _ => rfl) T.b_isinstance T.b_tuple bt_tuple (q_n n0)) (q_and (q_cmp hu (q_bi T.b_len bt_len (rLen_ok) (qa_cons (q_n n0) qa_nil)) (q_n n1)) (q_one (q_bi T.b_all bt_all (rAll_ok) (qa_cons (q_lc (.n 2) [("item", 2)] nd (qi_seq (q_n n0)) (lcT_n nd a2 (fun _ _ => .inl rfl) (fun _ _ => rfl)) qts_nil ⟨fun _ _ _ _ _ => (q_callB (ok_is_item T) (hr.mono (by decide)) (qa_cons (q_bn a2 (by first | exact .inl rfl | exact .inr (.inl rfl) | exact .inr (.inr rfl))) qa_nil))⟩) qa_nil))))))), ?_⟩
  clear nd hu a2 n0 n1
  obtain ⟨x, m, rfl, hk, hx, q⟩ := h
  cases x with
  | tup xs =>
    obtain ⟨hl, hy⟩ := hx xs rfl
    have e : itemsB (.tup xs) m = (decide ((xs.length : Int) ≤ m) && xs.all itemB) := rfl
    rw [e] at q
    walk_at "g"
    refine iteD (fun h1 => ?_) (fun h1 => ?_)
    · rw [decide_eq_true h1, Bool.true_and] at q
      walk_at "g"
      refine rLc.pure (fun _ => true) (fun d => .bl (itemB d)) hl (fun _ _ _ => trivial) (fun d S' hd ext => ?_) fun Dl hn => ?_
      · have h3 := (hy d hd).ext ext
        walk_at "g"
        exact ⟨fun Q q => q, fun _ Q q => by walk_at "g"; exact q⟩
      · walk_at "g"
        refine ⟨xs.map itemB, ?_, ?_⟩
        · rw [filt_true, List.map_map]; rfl
        · rw [List.all_map]; exact q
    · rw [decide_eq_false h1, Bool.false_and] at q; exact q
  | _ => walk_at "g"; exact q

local macro_rules | `(tactic| walk_at "sp") => `(tactic| ((with_reducible show sp_are_items _ _ _ _ _); refine ⟨_, _, rfl, by first | exact knx_tup | assumption, by assumption, ?_⟩))
def sp_Disk___init (A : CA) : DSp := fun ds S Q E => ∃ p x, ds = [.ref p, x] ∧ S p = some (.ins A.cDisk []) ∧ KnX A.cDisk S x ∧ (inR x 16 600 = false → E (.ref A.cBadDisk) none S) ∧ (∀ b, x = .int b → 16 ≤ b → b ≤ 600 → ∀ l w S', S l = none → S w = none → DiskAt A.cDisk S' p l w ⟨List.replicate b.toNat (.tup []), [], .non, 0⟩ → Fr [p] S S' → Q .non S')
theorem ok_Disk___init (T : Top K mg A) : Mkn P w K mg A.base 4 "Disk" A.cDisk (sp_Disk___init A) := by
  obtain ⟨f, fd, hm, F⟩ := T.mk_Disk
  refine mkn_mk F T.g_Disk hm (F.binds fun _ _ _ _ _ _ us hl => match us, hl with | [_, _], _ => by kernel_rfl) sc_Disk___init (fun ds S Q E h => by repeat (first | (obtain ⟨e, _⟩ := h; subst e; rfl) | (obtain ⟨_, h⟩ := h))) fun cdv A' outer s H E Ed ds S Q hr h => ?_
  have nd : (fnC P w K mg A.base ["self", "blocks", "block"] "Disk.__init__" s_Disk___init f cdv A' outer s H E Ed).X.N.Nodup := sc_Disk___init.nd
  have n0 : Nm (fnC P w K mg A.base ["self", "blocks", "block"] "Disk.__init__" s_Disk___init f cdv A' outer s H E Ed) 0 "self" := ⟨rfl, by first | exact .inl rfl | exact .inr rfl, .inl rfl, by decide +kernel, by decide +kernel⟩
  have n1 : Nm (fnC P w K mg A.base ["self", "blocks", "block"] "Disk.__init__" s_Disk___init f cdv A' outer s H E Ed) 1 "blocks" := ⟨rfl, by first | exact .inl rfl | exact .inr rfl, .inl rfl, by decide +kernel, by decide +kernel⟩
  have a2 : (fnC P w K mg A.base ["self", "blocks", "block"] "Disk.__init__" s_Disk___init f cdv A' outer s H E Ed).X.N[2]? = some ("block" : Str) := rfl
  refine qz_go (c := (fnC P w K mg A.base ["self", "blocks", "block"] "Disk.__init__" s_Disk___init f cdv A' outer s H E Ed)) ?_
  refine ⟨_, 
    (qz_cons (qs_if (qt_not (qt_tru (q_call (ok_is_within T) (hr.mono (by decide)) (qa_cons (q_n n1) (qa_cons (q_gint T.c_LEAST_BLOCKS) (qa_cons (q_gint T.c_MOST_BLOCKS) qa_nil)))))) (qz_one (qs_raise0 T.er_BadDisk)) qz_nil) 
    (qz_cons (qs_fld T.cl_Disk T.n_Disk_kept_lying (q_n n0) (q_lcM (.n 2) [("block", 2)] nd (qi_range1 T.b_range (q_n n1)) (lcT_n nd a2 (fun _ _ => .inl rfl) (fun _ _ => rfl)) qts_nil ⟨fun _ _ _ _ _ => (q_tup qa_nil)⟩)) 
    (qz_cons (qs_fld T.cl_Disk T.n_Disk_kept_waiting (q_n n0) q_dict0) 
    (qz_cons (qs_fld T.cl_Disk T.n_Disk_kept_power (q_n n0) q_non) (qz_one (qs_fld T.cl_Disk T.n_Disk_kept_reached (q_n n0) q_int)))))), ?_⟩
  clear nd a2 n0 n1
  obtain ⟨p, x, rfl, hp, hkx, qe, q⟩ := h
  cases hb : inR x 16 600 with
  | false =>
    have qe := qe hb
    walk_at "g"
    rw [hb]
    walk_at "g"
    exact qe
  | true =>
  obtain ⟨b, rfl, h1, h2⟩ := inR_int hb
  have q := q b rfl h1 h2
  walk_at "g"
  have e : inR (.int b) 16 600 = true := by show (decide (16 ≤ b) && decide (b ≤ 600)) = true; rw [decide_eq_true h1, decide_eq_true h2]; rfl
  rw [e]
  walk_at "g"
  refine rLc.pure (fun _ => true) (fun _ => .tup []) (by rw [irng_len, sizeLine_eq]; omega) (fun _ _ _ => trivial) (fun d S' hd ext => ?_) fun l hl => ?_
  · walk_at "g"
    exact ⟨fun Q q => q, fun _ Q q => q⟩
  · walk_at "g"
    have n1 := ne_some' hp hl
    refine m_put (sup_at n1.symm hp) (by show 0 < 1000; decide) ?_
    rw [pn1]
    intro w hw
    have n2 : w ≠ p := fun e => by rw [e, sup_same] at hw; cases hw
    rw [sup_ne n2] at hw
    have n3 : w ≠ l := fun e => by rw [e, sup_same] at hw; cases hw
    rw [sup_ne n3] at hw
    refine m_put (sup_at n2.symm sup_same) (by show 1 < 1000; decide) ?_
    rw [pn2]
    refine m_put sup_same (by show 2 < 1000; decide) ?_
    rw [pn3]
    refine m_put sup_same (by show 3 < 1000; decide) ?_
    rw [pn4]
    have n1' := n1.symm
    have n2' := n2.symm
    have n3' := n3.symm
    refine q l w _ hl hw (DiskAt.mk sup_same (by walk_at "at") (by walk_at "at") ?_) (by walk_at "fr")
    rw [filt_true, List.map_const', irng_len]

def sp_Disk_blocks (A : CA) : DSp := fun ds S Q _ => ∃ p l w d, ds = [.ref p] ∧ DiskAt A.cDisk S p l w d ∧ Q (.int d.ly.length) S
theorem ok_Disk_blocks (T : Top K mg A) : Mn P w K mg A.base 1 A.cDisk "blocks" (sp_Disk_blocks A) := by
  obtain ⟨f, fd, hm, F⟩ := T.m_Disk_blocks
  refine mn_mk F hm (F.binds fun _ _ _ _ _ _ us hl => match us, hl with | [_], _ => by kernel_rfl) sc_Disk_blocks (fun ds S Q E h => by repeat (first | (obtain ⟨e, _⟩ := h; subst e; rfl) | (obtain ⟨_, h⟩ := h))) fun cdv A' outer s H E Ed ds S Q hr h => ?_
  have nd : (fnC P w K mg A.base ["self"] "Disk.blocks" s_Disk_blocks f cdv A' outer s H E Ed).X.N.Nodup := sc_Disk_blocks.nd
  have n0 : Nm (fnC P w K mg A.base ["self"] "Disk.blocks" s_Disk_blocks f cdv A' outer s H E Ed) 0 "self" := ⟨rfl, by first | exact .inl rfl | exact .inr rfl, .inl rfl, by decide +kernel, by decide +kernel⟩
  refine qz_go (c := (fnC P w K mg A.base ["self"] "Disk.blocks" s_Disk_blocks f cdv A' outer s H E Ed)) ?_
  refine ⟨_, (qz_one (qs_ret (q_bi T.b_len bt_len (rLen_ok) (qa_cons (q_fld T.cl_Disk T.n_Disk_kept_lying (q_n n0)) qa_nil)))), ?_⟩
  clear nd n0
  obtain ⟨p, l, w, d, rfl, ⟨h1, h2, h3⟩, q⟩ := h
  walk_at "g"
  exact q

def sp_Disk_check_block (A : CA) : DSp := fun ds S Q E => ∃ p l w d x, ds = [.ref p, x] ∧ DiskAt A.cDisk S p l w d ∧ KnX A.cDisk S x ∧ (inR x 0 (d.ly.length - 1) = false → E (.ref A.cNoBlock) none S) ∧ (inR x 0 (d.ly.length - 1) = true → Q .non S)
theorem ok_Disk_check_block (T : Top K mg A) : Mn P w K mg A.base 3 A.cDisk "check_block" (sp_Disk_check_block A) := by
  obtain ⟨f, fd, hm, F⟩ := T.m_Disk_check_block
  refine mn_mk F hm (F.binds fun _ _ _ _ _ _ us hl => match us, hl with | [_, _], _ => by kernel_rfl) sc_Disk_check_block (fun ds S Q E h => by repeat (first | (obtain ⟨e, _⟩ := h; subst e; rfl) | (obtain ⟨_, h⟩ := h))) fun cdv A' outer s H E Ed ds S Q hr h => ?_
  have nd : (fnC P w K mg A.base ["self", "block"] "Disk.check_block" s_Disk_check_block f cdv A' outer s H E Ed).X.N.Nodup := sc_Disk_check_block.nd
  have n0 : Nm (fnC P w K mg A.base ["self", "block"] "Disk.check_block" s_Disk_check_block f cdv A' outer s H E Ed) 0 "self" := ⟨rfl, by first | exact .inl rfl | exact .inr rfl, .inl rfl, by decide +kernel, by decide +kernel⟩
  have n1 : Nm (fnC P w K mg A.base ["self", "block"] "Disk.check_block" s_Disk_check_block f cdv A' outer s H E Ed) 1 "block" := ⟨rfl, by first | exact .inl rfl | exact .inr rfl, .inl rfl, by decide +kernel, by decide +kernel⟩
  refine qz_go (c := (fnC P w K mg A.base ["self", "block"] "Disk.check_block" s_Disk_check_block f cdv A' outer s H E Ed)) ?_
  refine ⟨_, (qz_one (qs_if (qt_not (qt_tru (q_call (ok_is_within T) (hr.mono (by decide)) (qa_cons (q_n n1) (qa_cons q_int (qa_cons (q_bin (q_bi T.b_len bt_len (rLen_ok) (qa_cons (q_fld T.cl_Disk T.n_Disk_kept_lying (q_n n0)) qa_nil)) q_int) qa_nil)))))) (qz_one (qs_raise0 T.er_NoBlock)) qz_nil)), ?_⟩
  clear nd n0 n1
  obtain ⟨p, l, w, d, x, rfl, ⟨h1, h2, h3⟩, hkx, qe, q⟩ := h
  walk_at "g"
  cases hb : inR x 0 ((d.ly.length : Int) - 1) with
  | false =>
    have qe := qe hb
    walk_at "g"
    exact qe
  | true =>
    walk_at "g"
    exact q hb

local macro_rules | `(tactic| walk_at "sp") => `(tactic| ((with_reducible show sp_Disk_check_block _ _ _ _ _); refine ⟨_, _, _, _, _, rfl, by assumption, by assumption, ?_, ?_⟩))
local macro_rules | `(tactic| walk_at "sp") => `(tactic| ((with_reducible show sp_are_items _ _ _ _ _); refine ⟨_, _, rfl, by assumption, by assumption, ?_⟩))
def sp_Disk_write (A : CA) : DSp := fun ds S Q E => ∃ p l w d y x, ds = [.ref p, y, x] ∧ DiskAt A.cDisk S p l w d ∧ WOk d ∧ KnX A.cDisk S y ∧ KnX A.cDisk S x ∧ (∀ xs, x = .tup xs → xs.length < sizeLine ∧ ∀ y ∈ xs, OkX A.cDisk S y) ∧ pendL d.wa < 100000 ∧ (inR y 0 (d.ly.length - 1) = false → E (.ref A.cNoBlock) none S) ∧ (inR y 0 (d.ly.length - 1) = true → itemsB x 40 = false → E (.ref A.cNoContent) none S) ∧ (∀ b, y = .int b → inR y 0 (d.ly.length - 1) = true → itemsB x 40 = true → ∀ S', DiskAt A.cDisk S' p l w (d.write b x) → Fr [p, l, w] S S' → Q .non S')
theorem ok_Disk_write (T : Top K mg A) : Mn P w K mg A.base 5 A.cDisk "write" (sp_Disk_write A) := by
  obtain ⟨f, fd, hm, F⟩ := T.m_Disk_write
  refine mn_mk F hm (F.binds fun _ _ _ _ _ _ us hl => match us, hl with | [_, _, _], _ => by kernel_rfl) sc_Disk_write (fun ds S Q E h => by repeat (first | (obtain ⟨e, _⟩ := h; subst e; rfl) | (obtain ⟨_, h⟩ := h))) fun cdv A' outer s H E Ed ds S Q hr h => ?_
  have nd : (fnC P w K mg A.base ["self", "block", "content"] "Disk.write" s_Disk_write f cdv A' outer s H E Ed).X.N.Nodup := sc_Disk_write.nd
  have n0 : Nm (fnC P w K mg A.base ["self", "block", "content"] "Disk.write" s_Disk_write f cdv A' outer s H E Ed) 0 "self" := ⟨rfl, by first | exact .inl rfl | exact .inr rfl, .inl rfl, by decide +kernel, by decide +kernel⟩
  have n1 : Nm (fnC P w K mg A.base ["self", "block", "content"] "Disk.write" s_Disk_write f cdv A' outer s H E Ed) 1 "block" := ⟨rfl, by first | exact .inl rfl | exact .inr rfl, .inl rfl, by decide +kernel, by decide +kernel⟩
  have n2 : Nm (fnC P w K mg A.base ["self", "block", "content"] "Disk.write" s_Disk_write f cdv A' outer s H E Ed) 2 "content" := ⟨rfl, by first | exact .inl rfl | exact .inr rfl, .inl rfl, by decide +kernel, by decide +kernel⟩
  have hu : Un (fnC P w K mg A.base ["self", "block", "content"] "Disk.write" s_Disk_write f cdv A' outer s H E Ed) := un_of hr
  refine qz_go (c := (fnC P w K mg A.base ["self", "block", "content"] "Disk.write" s_Disk_write f cdv A' outer s H E Ed)) ?_
  refine ⟨_, 
    (qz_cons (qs_expr (q_meth (ok_Disk_check_block T) T.cl_Disk (hr.mono (by decide)) (q_n n0) (qa_cons (q_n n1) qa_nil))) 
    (qz_cons (qs_if (qt_not (qt_tru (q_call (ok_are_items T) (hr.mono (by decide)) (qa_cons (q_n n2) (qa_cons (q_gint T.c_MOST_ITEMS) qa_nil))))) (qz_one (qs_raise0 T.er_NoContent)) qz_nil) (qz_one (qs_asg (q_bin (q_m_get2 hu (q_fld T.cl_Disk T.n_Disk_kept_waiting (q_n n0)) (q_n n1) (q_lst qa_nil)) (q_lst (qa_cons (q_n n2) qa_nil))) (qg_ix hu (q_fld T.cl_Disk T.n_Disk_kept_waiting (q_n n0)) (q_n n1)))))), ?_⟩
  clear nd hu n0 n1 n2
  obtain ⟨p, l, w, d, y, x, rfl, hd, hk, ky, kx, hx, hpe, q1, q2, q⟩ := h
  have h1 := hd.1
  have h3 := hd.2.2
  walk_at "g"
  · exact q1
  · intro hb
    obtain ⟨b, rfl, hb1, hb2⟩ := inR_int hb
    walk_at "g"
    cases hi : itemsB x 40 with
    | false =>
      have q2 := q2 hb hi
      walk_at "g"
      exact q2
    | true =>
      have q := q b rfl hb hi
      walk_at "g"
      have hr := row_len (b := b) hk
      have hl := keys_len hk
      rw [getK_row hk]
      walk_at "g"
      refine ⟨by rw [sizeLine_eq]; show (rowOf d b).length + 1 ≤ _; omega, ?_⟩
      walk_at "g"
      exact q _ hd.w (by walk_at "fr")

local macro_rules | `(tactic| walk_at "s") => `(tactic| ((with_reducible show ∃ d, atI _ (-1) = some d ∧ _); refine ⟨_, atI_last (by first | assumption | simp), ?_⟩))
local macro_rules | `(tactic| walk_at "s") => `(tactic| ((with_reducible show ∃ d, atI (_ :: _) 0 = some d ∧ _); refine ⟨_, atI_zero, ?_⟩))
local macro_rules | `(tactic| walk_at "s") => `(tactic| ((with_reducible show ∃ v, getK _ _ = some v ∧ _); refine ⟨_, (by assumption), ?_⟩))
local macro_rules | `(tactic| walk_at "s") => `(tactic| ((with_reducible apply m_stl); (focus (walk_at "at")); (focus (assumption))))
def sp_Disk_read (A : CA) : DSp := fun ds S Q E => ∃ p l w d y, ds = [.ref p, y] ∧ DiskAt A.cDisk S p l w d ∧ WOk d ∧ KnX A.cDisk S y ∧ (inR y 0 (d.ly.length - 1) = false → E (.ref A.cNoBlock) none S) ∧ (∀ b, y = .int b → inR y 0 (d.ly.length - 1) = true → Q (d.read b) S)
theorem ok_Disk_read (T : Top K mg A) : Mn P w K mg A.base 4 A.cDisk "read" (sp_Disk_read A) := by
  obtain ⟨f, fd, hm, F⟩ := T.m_Disk_read
  refine mn_mk F hm (F.binds fun _ _ _ _ _ _ us hl => match us, hl with | [_, _], _ => by kernel_rfl) sc_Disk_read (fun ds S Q E h => by repeat (first | (obtain ⟨e, _⟩ := h; subst e; rfl) | (obtain ⟨_, h⟩ := h))) fun cdv A' outer s H E Ed ds S Q hr h => ?_
  have nd : (fnC P w K mg A.base ["self", "block"] "Disk.read" s_Disk_read f cdv A' outer s H E Ed).X.N.Nodup := sc_Disk_read.nd
  have n0 : Nm (fnC P w K mg A.base ["self", "block"] "Disk.read" s_Disk_read f cdv A' outer s H E Ed) 0 "self" := ⟨rfl, by first | exact .inl rfl | exact .inr rfl, .inl rfl, by decide +kernel, by decide +kernel⟩
  have n1 : Nm (fnC P w K mg A.base ["self", "block"] "Disk.read" s_Disk_read f cdv A' outer s H E Ed) 1 "block" := ⟨rfl, by first | exact .inl rfl | exact .inr rfl, .inl rfl, by decide +kernel, by decide +kernel⟩
  have hu : Un (fnC P w K mg A.base ["self", "block"] "Disk.read" s_Disk_read f cdv A' outer s H E Ed) := un_of hr
  refine qz_go (c := (fnC P w K mg A.base ["self", "block"] "Disk.read" s_Disk_read f cdv A' outer s H E Ed)) ?_
  refine ⟨_, 
    (qz_cons (qs_expr (q_meth (ok_Disk_check_block T) T.cl_Disk (hr.mono (by decide)) (q_n n0) (qa_cons (q_n n1) qa_nil))) 
    (qz_cons (qs_if (qt_cmp hu (q_n n1) (q_fld T.cl_Disk T.n_Disk_kept_waiting (q_n n0))) (qz_one (qs_ret (q_ix hu (q_ix hu (q_fld T.cl_Disk T.n_Disk_kept_waiting (q_n n0)) (q_n n1)) (q_neg q_int)))) qz_nil) (qz_one (qs_ret (q_ix hu (q_fld T.cl_Disk T.n_Disk_kept_lying (q_n n0)) (q_n n1)))))), ?_⟩
  clear nd hu n0 n1
  obtain ⟨p, l, w, d, y, rfl, hd, hk, ky, qe, q⟩ := h
  have h1 := hd.1
  have h2 := hd.2.1
  have h3 := hd.2.2
  walk_at "g"
  · exact qe
  · intro hb
    obtain ⟨b, rfl, hb1, hb2⟩ := inR_int hb
    have q := q b rfl hb
    have hb2 : b < (d.ly.length : Int) := by omega
    walk_at "g"
    refine ite2' (fun h => ?_) (fun h => ?_)
    · obtain ⟨x, xs, e1, e2, _, _, _⟩ := hk.row h
      walk_at "g"
      have e : d.read b = (x :: xs).getLastD .non := by unfold DM.read; rw [if_pos h, e2]
      rw [e] at q; exact q
    · have e1 := atI_ly hb1 hb2
      walk_at "g"
      have e : d.read b = (d.ly[b.toNat]?).getD .non := by unfold DM.read; rw [if_neg (by rw [h]; exact Bool.false_ne_true)]
      rw [e] at q; exact q

def sp_Disk_reach_one (A : CA) : DSp := fun ds S Q E => ∃ p l w d b, ds = [.ref p, .int b] ∧ DiskAt A.cDisk S p l w d ∧ WOk d ∧ hasK d.wa (.inl b) = true ∧ (stuckB d = true → E (.ref A.cStopped) none S) ∧ (stuckB d = false → ∀ S', DiskAt A.cDisk S' p l w (d.step b) → Fr [p, l, w] S S' → Q .non S')
theorem ok_Disk_reach_one (T : Top K mg A) : Mn P w K mg A.base 4 A.cDisk "reach_one" (sp_Disk_reach_one A) := by
  obtain ⟨f, fd, hm, F⟩ := T.m_Disk_reach_one
  refine mn_mk F hm (F.binds fun _ _ _ _ _ _ us hl => match us, hl with | [_, _], _ => by kernel_rfl) sc_Disk_reach_one (fun ds S Q E h => by repeat (first | (obtain ⟨e, _⟩ := h; subst e; rfl) | (obtain ⟨_, h⟩ := h))) fun cdv A' outer s H E Ed ds S Q hr h => ?_
  have nd : (fnC P w K mg A.base ["self", "block", "some"] "Disk.reach_one" s_Disk_reach_one f cdv A' outer s H E Ed).X.N.Nodup := sc_Disk_reach_one.nd
  have n0 : Nm (fnC P w K mg A.base ["self", "block", "some"] "Disk.reach_one" s_Disk_reach_one f cdv A' outer s H E Ed) 0 "self" := ⟨rfl, by first | exact .inl rfl | exact .inr rfl, .inl rfl, by decide +kernel, by decide +kernel⟩
  have n1 : Nm (fnC P w K mg A.base ["self", "block", "some"] "Disk.reach_one" s_Disk_reach_one f cdv A' outer s H E Ed) 1 "block" := ⟨rfl, by first | exact .inl rfl | exact .inr rfl, .inl rfl, by decide +kernel, by decide +kernel⟩
  have n2 : Nm (fnC P w K mg A.base ["self", "block", "some"] "Disk.reach_one" s_Disk_reach_one f cdv A' outer s H E Ed) 2 "some" := ⟨rfl, by first | exact .inl rfl | exact .inr rfl, .inl rfl, by decide +kernel, by decide +kernel⟩
  have hu : Un (fnC P w K mg A.base ["self", "block", "some"] "Disk.reach_one" s_Disk_reach_one f cdv A' outer s H E Ed) := un_of hr
  refine qz_go (c := (fnC P w K mg A.base ["self", "block", "some"] "Disk.reach_one" s_Disk_reach_one f cdv A' outer s H E Ed)) ?_
  refine ⟨_, 
    (qz_cons (qs_if (qt_cmp hu (q_fld T.cl_Disk T.n_Disk_kept_power (q_n n0)) q_non) 
    (qz_cons (qs_if (qt_cmp hu (q_fld T.cl_Disk T.n_Disk_kept_power (q_n n0)) q_int) (qz_one (qs_raise0 T.er_Stopped)) qz_nil) (qz_one (qs_fldaug T.cl_Disk T.n_Disk_kept_power (q_n n0) q_int))) qz_nil) 
    (qz_cons (qs_st n2 nd (q_m_pop1 (q_fld T.cl_Disk T.n_Disk_kept_waiting (q_n n0)) (q_n n1))) 
    (qz_cons (qs_asg (q_ix hu (q_n n2) q_int) (qg_ix hu (q_fld T.cl_Disk T.n_Disk_kept_lying (q_n n0)) (q_n n1))) 
    (qz_cons (qs_fldaug T.cl_Disk T.n_Disk_kept_reached (q_n n0) q_int) (qz_one (qs_if (qt_cmp hu (q_bi T.b_len bt_len (rLen_ok) (qa_cons (q_n n2) qa_nil)) q_int) (qz_one (qs_asg (q_slice (q_n n2) (qo_some q_int) qo_none) (qg_ix hu (q_fld T.cl_Disk T.n_Disk_kept_waiting (q_n n0)) (q_n n1)))) qz_nil)))))), ?_⟩
  clear nd hu n0 n1 n2
  obtain ⟨p, l, w, d, b, rfl, hd, hk, hh, qx, q⟩ := h
  have h2 := hd.2.1
  have h3 := hd.2.2
  obtain ⟨x, xs, e1, e2, _, hb1, hb2⟩ := hk.row hh
  obtain ⟨⟨n1, n2, n3⟩, n4, n5, n6⟩ := hd.ne
  have e3 := ixN_in hb1 hb2
  have es : d.step b = ⟨d.ly.set b.toNat x, if xs = [] then delK d.wa (.inl b) else putD (delK d.wa (.inl b)) (.inl b) (.fl xs), lessP d.po, d.re + 1⟩ := by unfold DM.step; rw [e2]
  rw [es] at q
  have hkl := keys_len hk
  have hsm := hk.sm
  have hdl : (delK d.wa (.inl b)).length ≤ d.wa.length := List.length_filter_le _ _
  rcases hk.pw with e | ⟨k, e, k0⟩
  · have h1 : S p = some (.ins A.cDisk (fsD l w .non d.re)) := by rw [← e]; exact hd.1
    have hs : stuckB d = false := by unfold stuckB; rw [e]
    rw [e] at q
    walk_at "g"
    refine iteD (fun hx => ?_) (fun hx => ?_)
    · walk_at "g"
      rw [if_neg (fun z => by subst z; exact absurd hx (by simp)), ← cut1 (x := x) (xs := xs)] at q
      exact q hs _ (DiskAt.mk (by walk_at "at") (by walk_at "at") (by walk_at "at") rfl) (by walk_at "fr")
    · have hx : xs = [] := by cases xs with
        | nil => rfl
        | cons y ys => exact absurd (by simp only [List.length_cons]; omega) hx
      rw [if_pos hx] at q
      exact q hs _ (DiskAt.mk (by walk_at "at") (by walk_at "at") (by walk_at "at") rfl) (by walk_at "fr")
  · have h1 : S p = some (.ins A.cDisk (fsD l w (.int k) d.re)) := by rw [← e]; exact hd.1
    have hs : stuckB d = decide (k = 0) := by unfold stuckB; rw [e]
    rw [e] at q
    walk_at "g"
    refine iteD (fun h0 => ?_) (fun h0 => ?_)
    · exact qx (hs.trans (decide_eq_true h0))
    · walk_at "g"
      have hs : stuckB d = false := hs.trans (decide_eq_false h0)
      refine iteD (fun hx => ?_) (fun hx => ?_)
      · walk_at "g"
        rw [if_neg (fun z => by subst z; exact absurd hx (by simp)), ← cut1 (x := x) (xs := xs)] at q
        exact q hs _ (DiskAt.mk (by walk_at "at") (by walk_at "at") (by walk_at "at") rfl) (by walk_at "fr")
      · have hx : xs = [] := by cases xs with
          | nil => rfl
          | cons y ys => exact absurd (by simp only [List.length_cons]; omega) hx
        rw [if_pos hx] at q
        exact q hs _ (DiskAt.mk (by walk_at "at") (by walk_at "at") (by walk_at "at") rfl) (by walk_at "fr")

local macro_rules | `(tactic| walk_at "sp") => `(tactic| ((with_reducible show sp_Disk_reach_one _ _ _ _ _); refine ⟨_, _, _, _, _, rfl, by assumption, by assumption, by assumption, ?_, ?_⟩))
def sp_Disk_reach (A : CA) : DSp := fun ds S Q E => ∃ p l w d y, ds = [.ref p, y] ∧ DiskAt A.cDisk S p l w d ∧ WOk d ∧ stuckB d = false ∧ KnX A.cDisk S y ∧ (inR y 0 (d.ly.length - 1) = false → E (.ref A.cNoBlock) none S) ∧ (∀ b, y = .int b → inR y 0 (d.ly.length - 1) = true → (hasK d.wa (.inl b) = false → E (.ref A.cNothingWaits) none S) ∧ (hasK d.wa (.inl b) = true → ∀ S', DiskAt A.cDisk S' p l w (d.step b) → Fr [p, l, w] S S' → Q .non S'))
theorem ok_Disk_reach (T : Top K mg A) : Mn P w K mg A.base 5 A.cDisk "reach" (sp_Disk_reach A) := by
  obtain ⟨f, fd, hm, F⟩ := T.m_Disk_reach
  refine mn_mk F hm (F.binds fun _ _ _ _ _ _ us hl => match us, hl with | [_, _], _ => by kernel_rfl) sc_Disk_reach (fun ds S Q E h => by repeat (first | (obtain ⟨e, _⟩ := h; subst e; rfl) | (obtain ⟨_, h⟩ := h))) fun cdv A' outer s H E Ed ds S Q hr h => ?_
  have nd : (fnC P w K mg A.base ["self", "block"] "Disk.reach" s_Disk_reach f cdv A' outer s H E Ed).X.N.Nodup := sc_Disk_reach.nd
  have n0 : Nm (fnC P w K mg A.base ["self", "block"] "Disk.reach" s_Disk_reach f cdv A' outer s H E Ed) 0 "self" := ⟨rfl, by first | exact .inl rfl | exact .inr rfl, .inl rfl, by decide +kernel, by decide +kernel⟩
  have n1 : Nm (fnC P w K mg A.base ["self", "block"] "Disk.reach" s_Disk_reach f cdv A' outer s H E Ed) 1 "block" := ⟨rfl, by first | exact .inl rfl | exact .inr rfl, .inl rfl, by decide +kernel, by decide +kernel⟩
  have hu : Un (fnC P w K mg A.base ["self", "block"] "Disk.reach" s_Disk_reach f cdv A' outer s H E Ed) := un_of hr
  refine qz_go (c := (fnC P w K mg A.base ["self", "block"] "Disk.reach" s_Disk_reach f cdv A' outer s H E Ed)) ?_
  refine ⟨_, 
    (qz_cons (qs_expr (q_meth (ok_Disk_check_block T) T.cl_Disk (hr.mono (by decide)) (q_n n0) (qa_cons (q_n n1) qa_nil))) 
    (qz_cons (qs_if (qt_cmp hu (q_n n1) (q_fld T.cl_Disk T.n_Disk_kept_waiting (q_n n0))) (qz_one (qs_raise0 T.er_NothingWaits)) qz_nil) (qz_one (qs_expr (q_meth (ok_Disk_reach_one T) T.cl_Disk (hr.mono (by decide)) (q_n n0) (qa_cons (q_n n1) qa_nil)))))), ?_⟩
  clear nd hu n0 n1
  obtain ⟨p, l, w, d, y, rfl, hd, hk, hst, ky, qe, q⟩ := h
  have h1 := hd.1
  have h3 := hd.2.2
  walk_at "g"
  · exact qe
  · intro hb
    obtain ⟨b, rfl, hb1, hb2⟩ := inR_int hb
    obtain ⟨hn, hy⟩ := q b rfl hb
    walk_at "g"
    cases hh : hasK d.wa (.inl b) with
    | false =>
      have q := hn hh
      walk_at "g"
      exact q
    | true =>
      have q := hy hh
      walk_at "g"
      · intro z; rw [hst] at z; cases z
      · exact fun _ => q

local macro_rules | `(tactic| walk_at "sp") => `(tactic| ((with_reducible show sp_is_lot _ _ _ _ _); refine ⟨_, _, rfl, by assumption, by assumption, ?_⟩))
def sp_Disk_force (A : CA) : DSp := fun ds S Q E => ∃ p l w d x, ds = [.ref p, x] ∧ DiskAt A.cDisk S p l w d ∧ WOk d ∧ KnX A.cDisk S x ∧ (∀ xs, x = .tup xs → ∀ y ∈ xs, KnX A.cDisk S y) ∧ (lotG d.ly.length x = false → E (.ref A.cNoBlock) none S) ∧ (∀ bs, x = .tup (bs.map D.int) → lotB d.ly.length (-1) bs = true → ((forceM d bs).1 = false → ∀ S', DiskAt A.cDisk S' p l w (forceM d bs).2 → Fr [p, l, w] S S' → E (.ref A.cStopped) none S') ∧ ((forceM d bs).1 = true → ∀ S', DiskAt A.cDisk S' p l w (forceM d bs).2 → Fr [p, l, w] S S' → Q .non S'))
theorem ok_Disk_force (T : Top K mg A) : Mn P w K mg A.base 6 A.cDisk "force" (sp_Disk_force A) := by
  obtain ⟨f, fd, hm, F⟩ := T.m_Disk_force
  refine mn_mk F hm (F.binds fun _ _ _ _ _ _ us hl => match us, hl with | [_, _], _ => by kernel_rfl) sc_Disk_force (fun ds S Q E h => by repeat (first | (obtain ⟨e, _⟩ := h; subst e; rfl) | (obtain ⟨_, h⟩ := h))) fun cdv A' outer s H E Ed ds S Q hr h => ?_
  have nd : (fnC P w K mg A.base ["self", "lot", "block"] "Disk.force" s_Disk_force f cdv A' outer s H E Ed).X.N.Nodup := sc_Disk_force.nd
  have n0 : Nm (fnC P w K mg A.base ["self", "lot", "block"] "Disk.force" s_Disk_force f cdv A' outer s H E Ed) 0 "self" := ⟨rfl, by first | exact .inl rfl | exact .inr rfl, .inl rfl, by decide +kernel, by decide +kernel⟩
  have n1 : Nm (fnC P w K mg A.base ["self", "lot", "block"] "Disk.force" s_Disk_force f cdv A' outer s H E Ed) 1 "lot" := ⟨rfl, by first | exact .inl rfl | exact .inr rfl, .inl rfl, by decide +kernel, by decide +kernel⟩
  have n2 : Nm (fnC P w K mg A.base ["self", "lot", "block"] "Disk.force" s_Disk_force f cdv A' outer s H E Ed) 2 "block" := ⟨rfl, by first | exact .inl rfl | exact .inr rfl, .inl rfl, by decide +kernel, by decide +kernel⟩
  have hu : Un (fnC P w K mg A.base ["self", "lot", "block"] "Disk.force" s_Disk_force f cdv A' outer s H E Ed) := un_of hr
  have po := fnC_po (P := P) (w := w) (K := K) (mg := mg) (base := A.base) (N := ["self", "lot", "block"]) (qual := "Disk.force") (st := s_Disk_force) (f := f) (cdv := cdv) (A := A') (outer := outer) (s := s) (H := H) (E := E) (Ed := Ed)
  refine qz_go (c := (fnC P w K mg A.base ["self", "lot", "block"] "Disk.force" s_Disk_force f cdv A' outer s H E Ed)) ?_
  refine ⟨_, 
    (qz_cons (qs_if (qt_not (qt_tru (q_call (ok_is_lot T) (hr.mono (by decide)) (qa_cons (q_n n1) (qa_cons (q_bi T.b_len bt_len (rLen_ok) (qa_cons (q_fld T.cl_Disk T.n_Disk_kept_lying (q_n n0)) qa_nil)) qa_nil))))) (qz_one (qs_raise0 T.er_NoBlock)) qz_nil) (qz_one (qs_for (qi_seq (q_n n1)) (qg_n n2 nd) (qz_one (qs_while (qt_cmp hu (q_n n2) (q_fld T.cl_Disk T.n_Disk_kept_waiting (q_n n0))) (qz_one (qs_expr (q_meth (ok_Disk_reach_one T) T.cl_Disk (hr.mono (by decide)) (q_n n0) (qa_cons (q_n n2) qa_nil)))) po)) po))), ?_⟩
  clear nd hu po n0 n1 n2
  obtain ⟨p, l, w, d, x, rfl, hd, hk, kx, kxs, qe, qq⟩ := h
  have h1 := hd.1
  have h2 := hd.2.1
  walk_at "g"
  cases hg : lotG d.ly.length x with
  | false =>
    have qe := qe hg
    walk_at "g"
    exact qe
  | true =>
    have key : ∃ bs : List Int, x = .tup (bs.map D.int) ∧ lotB d.ly.length (-1) bs = true := by
      cases x with
      | tup xs => obtain ⟨bs, rfl, e⟩ := lotX_ints hg; exact ⟨bs, rfl, e⟩
      | _ => cases hg
    obtain ⟨bs, rfl, hl⟩ := key
    obtain ⟨qx, q⟩ := qq bs rfl hl
    walk_at "g"
    refine ⟨fun r ρ' S' => ∃ cs d' o, r = cs.map D.int ∧ ρ' = [some (.ref p), some (.tup (bs.map D.int)), o] ∧ DiskAt A.cDisk S' p l w d' ∧ WOk d' ∧ Fr [p, l, w] S S' ∧ forceM d' cs = forceM d bs, ⟨bs, d, none, rfl, rfl, hd, hk, Fr.refl, rfl⟩, fun _ _ _ _ => trivial, ?_, ?_⟩
    · rintro x r ρ' S' ⟨cs, d', o, e, rfl, hd', hk', fr, ef⟩
      cases cs with
      | nil => cases e
      | cons b cs =>
        cases e
        have eb : forceM d' (b :: cs) = if (runB (pendL d'.wa) d' b).1 = true then forceM (runB (pendL d'.wa) d' b).2 cs else (false, (runB (pendL d'.wa) d' b).2) := rfl
        rw [eb] at ef
        refine ⟨fun n ρ2 S2 => ∃ d2, ρ2 = [some (.ref p), some (.tup (bs.map D.int)), some (.int b)] ∧ DiskAt A.cDisk S2 p l w d2 ∧ WOk d2 ∧ Fr [p, l, w] S S2 ∧ n = pendL d2.wa ∧ runB (pendL d2.wa) d2 b = runB (pendL d'.wa) d' b, ⟨_, d', rfl, hd', hk', fr, rfl, rfl⟩, ?_⟩
        rintro n ρ2 S2 ⟨d2, rfl, hd2, hk2, fr2, rfl, e2⟩
        have h1 := hd2.1
        have h3 := hd2.2.2
        walk_at "g"
        refine ite2' (fun hh => ?_) (fun hh => ?_)
        · walk_at "g"
          · intro hs
            rw [runB_stuck hk2 hh hs] at e2
            rw [← e2, if_neg Bool.false_ne_true] at ef
            rw [← ef] at qx
            exact qx rfl S2 hd2 fr2
          · intro hs S3 hd3 fr3
            obtain ⟨k1, k2, k3⟩ := hk2.step hh hs
            exact ⟨_, by omega, _, rfl, hd3, k1, fr2.trans fr3, rfl, by rw [← runB_more hk2 hh hs]; exact e2⟩
        · rw [runB_end (by rw [hh]; exact Bool.false_ne_true)] at e2
          rw [← e2, if_pos rfl] at ef
          exact ⟨cs, d2, some (.int b), rfl, rfl, hd2, hk2, fr2, ef⟩
    · rintro ρ' S' ⟨cs, d', o, e, rfl, hd', hk', fr, ef⟩
      cases cs with
      | cons b cs => cases e
      | nil =>
        have ef : (true, d') = forceM d bs := ef
        rw [← ef] at q
        exact q rfl S' hd' fr

def sp_Disk_waiting (A : CA) : DSp := fun ds S Q _ => ∃ p l w d, ds = [.ref p] ∧ DiskAt A.cDisk S p l w d ∧ WOk d ∧ ∀ r S', S r = none → S' r = some (.dk (d.wa.map fun p => (p.1, .int (lenV p.2)))) → Fr [] S S' → Q (.ref r) S'
theorem ok_Disk_waiting (T : Top K mg A) : Mn P w K mg A.base 2 A.cDisk "waiting" (sp_Disk_waiting A) := by
  obtain ⟨f, fd, hm, F⟩ := T.m_Disk_waiting
  refine mn_mk F hm (F.binds fun _ _ _ _ _ _ us hl => match us, hl with | [_], _ => by kernel_rfl) sc_Disk_waiting (fun ds S Q E h => by repeat (first | (obtain ⟨e, _⟩ := h; subst e; rfl) | (obtain ⟨_, h⟩ := h))) fun cdv A' outer s H E Ed ds S Q hr h => ?_
  have nd : (fnC P w K mg A.base ["self", "block", "some"] "Disk.waiting" s_Disk_waiting f cdv A' outer s H E Ed).X.N.Nodup := sc_Disk_waiting.nd
  have n0 : Nm (fnC P w K mg A.base ["self", "block", "some"] "Disk.waiting" s_Disk_waiting f cdv A' outer s H E Ed) 0 "self" := ⟨rfl, by first | exact .inl rfl | exact .inr rfl, .inl rfl, by decide +kernel, by decide +kernel⟩
  have a1 : (fnC P w K mg A.base ["self", "block", "some"] "Disk.waiting" s_Disk_waiting f cdv A' outer s H E Ed).X.N[1]? = some ("block" : Str) := rfl
  have a2 : (fnC P w K mg A.base ["self", "block", "some"] "Disk.waiting" s_Disk_waiting f cdv A' outer s H E Ed).X.N[2]? = some ("some" : Str) := rfl
  refine qz_go (c := (fnC P w K mg A.base ["self", "block", "some"] "Disk.waiting" s_Disk_waiting f cdv A' outer s H E Ed)) ?_
  refine ⟨_, (qz_one (qs_ret (q_lock (q_dc (.t [1, 2]) [("block", 1), ("some", 2)] nd (qi_items (q_fld T.cl_Disk T.n_Disk_kept_waiting (q_n n0))) (lcT_2 nd rfl a1 a2 (fun _ _ => .inl rfl) (fun _ _ => rfl) (fun _ _ => .inl rfl) (fun _ _ => rfl)) qts_nil ⟨fun _ _ _ _ _ => (q_bn a1 (by first | exact .inl rfl | exact .inr (.inl rfl) | exact .inr (.inr rfl)))⟩ ⟨fun _ _ _ _ _ => (q_bi T.b_len bt_len (rLen_ok) (qa_cons (q_bn a2 (by first | exact .inl rfl | exact .inr (.inl rfl) | exact .inr (.inr rfl))) qa_nil))⟩)))), ?_⟩
  clear nd a1 a2 n0
  obtain ⟨p, l, w, d, rfl, hd, hk, q⟩ := h
  have h1 := hd.1
  have h3 := hd.2.2
  obtain ⟨⟨n1, n2, n3⟩, n4, n5, n6⟩ := hd.ne
  refine ⟨w, d.wa, h3, fun od vs => ?_⟩
  walk_at "g"
  have hkl := keys_len hk
  have hsm := hk.sm
  refine ⟨fun r acc S' => S' = sup S w (.fdk od vs d.wa) ∧ ∃ pre rest, d.wa = pre ++ rest ∧ r = itemsD rest ∧ acc = pre.map (fun p => (p.1, D.int (lenV p.2))), ⟨rfl, [], d.wa, rfl, rfl, rfl⟩, by unfold itemsD; rw [List.length_map, sizeLine_eq]; omega, ?_, ?_, ?_⟩
  · rintro r acc S' Dl hn ⟨rfl, pre, rest, e, rfl, rfl⟩
    have n7 : w ≠ Dl := fun z => by rw [← z, sup_same] at hn; cases hn
    exact ⟨by walk_at "at", by unfold itemsD; rw [List.length_map, List.length_map, List.length_map, e, List.length_append]; omega⟩
  · rintro Dl x r acc S' hn ⟨rfl, pre, rest, e, e2, rfl⟩
    cases rest with
    | nil => cases e2
    | cons y rest =>
      cases e2
      obtain ⟨b, z, zs, ey, hb1, hb2⟩ := hk.va y (by rw [e]; simp)
      subst ey
      walk_at "g"
      have hnd : (Sum.inl b : Key) ∉ (pre.map fun p => (p.1, D.int (lenV p.2))).map (·.1) := by
        rw [List.map_map]
        have h9 := hk.nd
        rw [e, List.map_append] at h9
        intro hm
        exact (List.nodup_append.mp h9).2.2 _ hm _ List.mem_cons_self rfl
      refine ⟨.inl b, rfl, sup_same, ?_, pre ++ [(.inl b, .fl (z :: zs))], rest, by rw [e]; simp, rfl, ?_⟩
      · exact sdel_sup hn
      · rw [putD_new hnd, List.map_append]; rfl
  · rintro acc S' Dl hn ⟨rfl, pre, rest, e, e2, rfl⟩
    cases rest with
    | cons y rest => cases e2
    | nil =>
      rw [List.append_nil] at e
      have n7 : w ≠ Dl := fun z => by rw [← z, sup_same] at hn; cases hn
      rw [sup_ne n7.symm] at hn
      have n8 := n7.symm
      refine ⟨by walk_at "at", q Dl _ hn (by rw [e]; walk_at "at") (Fr.back (by walk_at "fr") h3)⟩

def sp_Disk_power (A : CA) : DSp := fun ds S Q E => ∃ p l w d y, ds = [.ref p, y] ∧ DiskAt A.cDisk S p l w d ∧ KnX A.cDisk S y ∧ (y ≠ .non → inR y 0 1000000 = false → E (.ref A.cNoNumber) none S) ∧ ((y = .non ∨ inR y 0 1000000 = true) → ∀ S', DiskAt A.cDisk S' p l w ⟨d.ly, d.wa, y, d.re⟩ → Fr [p] S S' → Q .non S')
theorem ok_Disk_power (T : Top K mg A) : Mn P w K mg A.base 4 A.cDisk "power" (sp_Disk_power A) := by
  obtain ⟨f, fd, hm, F⟩ := T.m_Disk_power
  refine mn_mk F hm (F.binds fun _ _ _ _ _ _ us hl => match us, hl with | [_, _], _ => by kernel_rfl) sc_Disk_power (fun ds S Q E h => by repeat (first | (obtain ⟨e, _⟩ := h; subst e; rfl) | (obtain ⟨_, h⟩ := h))) fun cdv A' outer s H E Ed ds S Q hr h => ?_
  have nd : (fnC P w K mg A.base ["self", "many"] "Disk.power" s_Disk_power f cdv A' outer s H E Ed).X.N.Nodup := sc_Disk_power.nd
  have n0 : Nm (fnC P w K mg A.base ["self", "many"] "Disk.power" s_Disk_power f cdv A' outer s H E Ed) 0 "self" := ⟨rfl, by first | exact .inl rfl | exact .inr rfl, .inl rfl, by decide +kernel, by decide +kernel⟩
  have n1 : Nm (fnC P w K mg A.base ["self", "many"] "Disk.power" s_Disk_power f cdv A' outer s H E Ed) 1 "many" := ⟨rfl, by first | exact .inl rfl | exact .inr rfl, .inl rfl, by decide +kernel, by decide +kernel⟩
  have hu : Un (fnC P w K mg A.base ["self", "many"] "Disk.power" s_Disk_power f cdv A' outer s H E Ed) := un_of hr
  refine qz_go (c := (fnC P w K mg A.base ["self", "many"] "Disk.power" s_Disk_power f cdv A' outer s H E Ed)) ?_
  refine ⟨_, 
    (qz_cons (qs_if (qt_w (qw_and (qt_cmp hu (q_n n1) q_non) (qw_and1 (qt_not (qt_tru (q_call (ok_is_within T) (hr.mono (by decide)) (qa_cons (q_n n1) (qa_cons q_int (qa_cons (q_gint T.c_MOST_POWER) qa_nil))))))))) (qz_one (qs_raise0 T.er_NoNumber)) qz_nil) (qz_one (qs_fld T.cl_Disk T.n_Disk_kept_power (q_n n0) (q_n n1)))), ?_⟩
  clear nd hu n0 n1
  obtain ⟨p, l, w, d, y, rfl, hd, ky, qe, q⟩ := h
  have h1 := hd.1
  cases hb : inR y 0 1000000 with
  | true =>
    obtain ⟨k, rfl, _, _⟩ := inR_int hb
    walk_at "g"
    rw [hb]
    walk_at "g"
    exact q (.inr hb) _ hd.p (by walk_at "fr")
  | false =>
    cases y with
    | non =>
      walk_at "g"
      exact q (.inl rfl) _ hd.p (by walk_at "fr")
    | _ =>
      have qe := qe (fun e => by cases e) hb
      walk_at "g"
      rw [hb]
      walk_at "g"
      exact qe

def sp_Disk_lying (A : CA) : DSp := fun ds S Q E => ∃ p l w d y, ds = [.ref p, y] ∧ DiskAt A.cDisk S p l w d ∧ KnX A.cDisk S y ∧ (inR y 0 (d.ly.length - 1) = false → E (.ref A.cNoBlock) none S) ∧ (∀ b, y = .int b → inR y 0 (d.ly.length - 1) = true → Q ((d.ly[b.toNat]?).getD .non) S)
theorem ok_Disk_lying (T : Top K mg A) : Mn P w K mg A.base 4 A.cDisk "lying" (sp_Disk_lying A) := by
  obtain ⟨f, fd, hm, F⟩ := T.m_Disk_lying
  refine mn_mk F hm (F.binds fun _ _ _ _ _ _ us hl => match us, hl with | [_, _], _ => by kernel_rfl) sc_Disk_lying (fun ds S Q E h => by repeat (first | (obtain ⟨e, _⟩ := h; subst e; rfl) | (obtain ⟨_, h⟩ := h))) fun cdv A' outer s H E Ed ds S Q hr h => ?_
  have nd : (fnC P w K mg A.base ["self", "block"] "Disk.lying" s_Disk_lying f cdv A' outer s H E Ed).X.N.Nodup := sc_Disk_lying.nd
  have n0 : Nm (fnC P w K mg A.base ["self", "block"] "Disk.lying" s_Disk_lying f cdv A' outer s H E Ed) 0 "self" := ⟨rfl, by first | exact .inl rfl | exact .inr rfl, .inl rfl, by decide +kernel, by decide +kernel⟩
  have n1 : Nm (fnC P w K mg A.base ["self", "block"] "Disk.lying" s_Disk_lying f cdv A' outer s H E Ed) 1 "block" := ⟨rfl, by first | exact .inl rfl | exact .inr rfl, .inl rfl, by decide +kernel, by decide +kernel⟩
  have hu : Un (fnC P w K mg A.base ["self", "block"] "Disk.lying" s_Disk_lying f cdv A' outer s H E Ed) := un_of hr
  refine qz_go (c := (fnC P w K mg A.base ["self", "block"] "Disk.lying" s_Disk_lying f cdv A' outer s H E Ed)) ?_
  refine ⟨_, 
    (qz_cons (qs_expr (q_meth (ok_Disk_check_block T) T.cl_Disk (hr.mono (by decide)) (q_n n0) (qa_cons (q_n n1) qa_nil))) (qz_one (qs_ret (q_ix hu (q_fld T.cl_Disk T.n_Disk_kept_lying (q_n n0)) (q_n n1))))), ?_⟩
  clear nd hu n0 n1
  obtain ⟨p, l, w, d, y, rfl, hd, ky, qe, q⟩ := h
  have h1 := hd.1
  have h2 := hd.2.1
  walk_at "g"
  · exact qe
  · intro hb
    obtain ⟨b, rfl, hb1, hb2⟩ := inR_int hb
    have q := q b rfl hb
    have hb3 : b < (d.ly.length : Int) := by omega
    have e1 := atI_ly hb1 hb3
    walk_at "g"
    exact q

def sp_Disk_reached (A : CA) : DSp := fun ds S Q _ => ∃ p l w d, ds = [.ref p] ∧ DiskAt A.cDisk S p l w d ∧ Q (.int d.re) S
theorem ok_Disk_reached (T : Top K mg A) : Mn P w K mg A.base 1 A.cDisk "reached" (sp_Disk_reached A) := by
  obtain ⟨f, fd, hm, F⟩ := T.m_Disk_reached
  refine mn_mk F hm (F.binds fun _ _ _ _ _ _ us hl => match us, hl with | [_], _ => by kernel_rfl) sc_Disk_reached (fun ds S Q E h => by repeat (first | (obtain ⟨e, _⟩ := h; subst e; rfl) | (obtain ⟨_, h⟩ := h))) fun cdv A' outer s H E Ed ds S Q hr h => ?_
  have nd : (fnC P w K mg A.base ["self"] "Disk.reached" s_Disk_reached f cdv A' outer s H E Ed).X.N.Nodup := sc_Disk_reached.nd
  have n0 : Nm (fnC P w K mg A.base ["self"] "Disk.reached" s_Disk_reached f cdv A' outer s H E Ed) 0 "self" := ⟨rfl, by first | exact .inl rfl | exact .inr rfl, .inl rfl, by decide +kernel, by decide +kernel⟩
  refine qz_go (c := (fnC P w K mg A.base ["self"] "Disk.reached" s_Disk_reached f cdv A' outer s H E Ed)) ?_
  refine ⟨_, (qz_one (qs_ret (q_fld T.cl_Disk T.n_Disk_kept_reached (q_n n0)))), ?_⟩
  clear nd n0
  obtain ⟨p, l, w, d, rfl, hd, q⟩ := h
  have h1 := hd.1
  walk_at "g"
  exact q

end K02

namespace K02
open PySem L2 DP
local macro_rules | `(tactic| walk_at "v") => `(tactic| dsimp only [startD, k_nt, k_nf, k_ta, k_fa, k_to, k_fo, Int.reduceToNat, List.set, wipeD, k_p6, k_p16, k_p17, k_p18, k_p30, Bool.not_true, Bool.not_false, Bool.and_true, Bool.true_and, Bool.and_false, Bool.false_and, Bool.or_true, Bool.true_or, Bool.or_false, Bool.false_or, List.map, fnC_DX, List.length_cons, List.length_nil, k_rv0, k_rv1, k_rv2, k_rbl, k_rint, k_rI2, k_badd, k_bSub, k_bMult, k_bFloorDiv, k_bMod, k_bPow, k_addi, k_addt, k_addf, k_itm, k_ceq, k_cne, k_cis, k_cisn, k_cin, k_cnin, k_ciLt, k_csLt, k_ciLtE, k_csLtE, k_ciGt, k_csGt, k_ciGtE, k_csGtE, k_eqi, k_eqs, k_eqb, k_isn, k_isb, k_keyi, k_keys, k_ins, k_int, k_inf, k_tru0, k_tru1, k_tru2, k_tru3, k_tru4, k_tru5, k_ipa, k_ips, k_cons, k_cons2, k_cons3, k_tup, k_seqf, k_seqt, k_seqs, k_rfl, k_patn, k_patt, k_setN0, k_setN1, k_ixt, k_ixf, k_ixs, k_opt0, k_opt1, k_slt, k_slf, k_sls, k_rev, k_r1, k_r2, k_lent, k_lenf, k_lens, k_abs, k_min, k_max, k_int1, k_lstt, k_lstf, k_lstMt, k_lstMf, k_tupt, k_tupf, k_bls, k_sum, k_rcL, k_rcS, isI_non, isI_bl, isI_int, isI_str, isI_tup, isI_fl, isI_ref, isB_non, isB_bl, isB_int, isB_str, isB_tup, isB_fl, isB_ref, isS_non, isS_bl, isS_int, isS_str, isS_tup, isS_fl, isS_ref, isT_non, isT_bl, isT_int, isT_str, isT_tup, isT_fl, isT_ref, isInt_non, isInt_bl, isInt_int, isInt_str, isInt_tup, isInt_fl, isInt_ref, isNon_non, isNon_bl, isNon_int, isNon_str, isNon_tup, isNon_fl, isNon_ref, isLs_non, isLs_bl, isLs_int, isLs_str, isLs_tup, isLs_fl, isDc_non, isDc_bl, isDc_int, isDc_str, isDc_tup, isDc_fl])
local macro_rules | `(tactic| walk_at "lk") => `(tactic| rfl)
local macro_rules | `(tactic| walk_at "sz") => `(tactic| first | assumption | (simp only [List.length_cons, List.length_nil]; decide) | omega)
local macro_rules | `(tactic| walk_at "at") => `(tactic| first | assumption | exact sup_same | (refine sup_at (by assumption) ?_; walk_at "at"))
local macro_rules | `(tactic| walk_at "sp") => `(tactic| fail)
local macro_rules | `(tactic| walk_at "s") => `(tactic| first
  | (with_reducible refine iteT ?_)
  | (with_reducible refine iteF ?_)
  | ((with_reducible refine And.intro ?_ ?_); (focus (first | with_reducible exact kn_int | with_reducible exact kn_str | with_reducible exact kn_tup | with_reducible exact kn_fl | with_reducible exact kn_bl | with_reducible exact kn_non | with_reducible assumption)))
  | ((with_reducible apply m_ixl); (focus (walk_at "at")); (focus rfl))
  | ((with_reducible apply m_ixl'); (focus (walk_at "at")); (focus (assumption)))
  | ((with_reducible apply m_ixki); (focus (walk_at "at")); (focus (assumption)))
  | ((with_reducible apply m_ixks); (focus (walk_at "at")); (focus (first | assumption | walk_at "lk")))
  | ((with_reducible apply m_stl); (focus (walk_at "at")); (focus rfl))
  | ((with_reducible apply m_stki); (focus (walk_at "at")); (focus (walk_at "sz")))
  | ((with_reducible apply m_stks); (focus (walk_at "at")); (focus (walk_at "sz")))
  | ((with_reducible apply m_itm); (focus (walk_at "at")))
  | ((with_reducible apply m_seq); (focus (walk_at "at")))
  | ((with_reducible apply m_lenl); (focus (walk_at "at")))
  | ((with_reducible apply m_lenk); (focus (walk_at "at")))
  | ((with_reducible apply m_ls); (focus (walk_at "at")))
  | ((with_reducible apply m_dk); (focus (walk_at "at")))
  | ((with_reducible apply m_rcL); (focus (walk_at "at")))
  | ((with_reducible apply m_rcD); (focus (walk_at "at")))
  | ((with_reducible apply m_trul); (focus (walk_at "at")))
  | ((with_reducible apply m_truk); (focus (walk_at "at")))
  | ((with_reducible apply m_inki); (focus (walk_at "at")))
  | ((with_reducible apply m_inks); (focus (walk_at "at")))
  | ((with_reducible apply m_fld); (focus (walk_at "at")); (focus (walk_at "lk")))
  | ((with_reducible apply m_put); (focus (walk_at "at")); (focus (walk_at "sz")))
  | ((with_reducible apply m_get1); (focus (walk_at "at")))
  | ((with_reducible apply m_get2); (focus (walk_at "at")))
  | ((with_reducible apply m_pop1); (focus (walk_at "at")))
  | ((with_reducible apply m_pop2); (focus (walk_at "at")))
  | ((with_reducible show ∃ d, atI _ _ = some d ∧ _); refine ⟨_, rfl, ?_⟩)
  | ((with_reducible show ∃ d, some _ = some d ∧ _); refine ⟨_, rfl, ?_⟩)
  | (with_reducible refine And.intro rfl ?_)
  | walk_at "sp")
local macro_rules | `(tactic| walk_at "g") => `(tactic| repeat (first | walk_at "v" | walk_at "s"))
local macro_rules | `(tactic| walk_at "ar") => `(tactic| first
  | ((with_reducible show IntMulOk _ _ ∧ _); refine And.intro (by first | exact mul_small (by omega) (by omega) | exact mulok_r (by omega) (by omega)) ?_)
  | ((with_reducible show CDivW _ _ ∧ _); refine And.intro (div_small (by omega) (by omega)) ?_)
  | ((with_reducible show CPow _ _ ∧ _); refine And.intro (by unfold CPow; decide) ?_)
  | ((with_reducible show 0 < _ ∧ _); refine And.intro (by omega) ?_)
  | ((with_reducible show (-(2 ^ 62) ≤ _ ∧ _ < 2 ^ 62) ∧ _); refine And.intro ⟨by omega, by omega⟩ ?_)
  | ((with_reducible show (-(2 ^ 62) ≤ _ ∧ _ < 2 ^ 62 ∧ -(2 ^ 62) ≤ _ ∧ _ < 2 ^ 62) ∧ _); refine And.intro ⟨by omega, by omega, by omega, by omega⟩ ?_))
local macro_rules | `(tactic| walk_at "g") => `(tactic| repeat (first | walk_at "v" | walk_at "s" | walk_at "ar"))
local macro_rules | `(tactic| walk_at "fr") => `(tactic| first | exact Fr.refl | assumption | (apply Fr.putr; rotate_left; (focus (simp; done)); walk_at "fr") | (refine Fr.newer ?_ (by assumption); walk_at "fr"))

variable {P : Program} {w : World} {K : PySem.W.Frag} {mg : Str → Option Value} {base : Heap} {A : CA}
local macro_rules | `(tactic| walk_at "s") => `(tactic| ((with_reducible refine And.intro ?_ ?_); (focus (first | with_reducible exact knx_int | with_reducible exact knx_str | with_reducible exact knx_tup | with_reducible exact knx_fl | with_reducible exact knx_bl | with_reducible exact knx_non))))
local macro_rules | `(tactic| walk_at "sp") => `(tactic| ((with_reducible show sp_is_integer _ _ _ _ _); refine ⟨_, rfl, by first | exact knx_int | exact knx_str | exact knx_tup | exact knx_fl | exact knx_bl | exact knx_non | assumption, ?_⟩))
local macro_rules | `(tactic| walk_at "sp") => `(tactic| ((with_reducible show sp_is_within _ _ _ _ _); refine ⟨_, _, _, rfl, by first | exact knx_int | exact knx_str | exact knx_tup | exact knx_fl | exact knx_bl | exact knx_non | assumption, ?_⟩))
local macro_rules | `(tactic| walk_at "sp") => `(tactic| ((with_reducible show sp_L_draw _ _ _ _ _); refine ⟨_, _, rfl, by assumption, by omega, by omega, ?_⟩))
local macro_rules | `(tactic| walk_at "lk") => `(tactic| first | exact lk_l | exact lk_w | exact lk_p | exact lk_r | rfl)
local macro_rules | `(tactic| walk_at "sp") => `(tactic| ((with_reducible apply m_put_w); (focus (walk_at "at"))))
local macro_rules | `(tactic| walk_at "sp") => `(tactic| ((with_reducible apply m_put_p); (focus (walk_at "at"))))
local macro_rules | `(tactic| walk_at "sp") => `(tactic| ((with_reducible apply m_put_r); (focus (walk_at "at"))))
local macro_rules | `(tactic| walk_at "sz") => `(tactic| (rw [sizeLine_eq]; omega))
local macro_rules | `(tactic| walk_at "sp") => `(tactic| ((with_reducible apply m_fdk); (focus (walk_at "at"))))
local macro_rules | `(tactic| walk_at "sp") => `(tactic| ((with_reducible apply m_meth); (focus (walk_at "at")); (focus (kernel_rfl))))
local macro_rules | `(tactic| walk_at "sp") => `(tactic| ((with_reducible apply m_aug); (focus (walk_at "at")); (focus (walk_at "lk"))))
local macro_rules | `(tactic| walk_at "sp") => `(tactic| ((with_reducible apply m_aug2); (focus (walk_at "at")); (focus (show 4 < 1000; decide))))
local macro_rules | `(tactic| walk_at "sp") => `(tactic| first | rw [pt_p] | rw [pt_w] | rw [pt_r])
local macro_rules | `(tactic| walk_at "sp") => `(tactic| ((with_reducible show sp_is_item _ _ _ _ _); refine ⟨_, rfl, by assumption, ?_⟩))
local macro_rules | `(tactic| walk_at "sp") => `(tactic| ((with_reducible show sp_are_items _ _ _ _ _); refine ⟨_, _, rfl, by first | exact knx_tup | assumption, by assumption, ?_⟩))
local macro_rules | `(tactic| walk_at "sp") => `(tactic| ((with_reducible show sp_Disk_check_block _ _ _ _ _); refine ⟨_, _, _, _, _, rfl, by assumption, by assumption, ?_, ?_⟩))
local macro_rules | `(tactic| walk_at "sp") => `(tactic| ((with_reducible show sp_are_items _ _ _ _ _); refine ⟨_, _, rfl, by assumption, by assumption, ?_⟩))
local macro_rules | `(tactic| walk_at "s") => `(tactic| ((with_reducible show ∃ d, atI _ (-1) = some d ∧ _); refine ⟨_, atI_last (by first | assumption | simp), ?_⟩))
local macro_rules | `(tactic| walk_at "s") => `(tactic| ((with_reducible show ∃ d, atI (_ :: _) 0 = some d ∧ _); refine ⟨_, atI_zero, ?_⟩))
local macro_rules | `(tactic| walk_at "s") => `(tactic| ((with_reducible show ∃ v, getK _ _ = some v ∧ _); refine ⟨_, (by assumption), ?_⟩))
local macro_rules | `(tactic| walk_at "s") => `(tactic| ((with_reducible apply m_stl); (focus (walk_at "at")); (focus (assumption))))
local macro_rules | `(tactic| walk_at "sp") => `(tactic| ((with_reducible show sp_Disk_reach_one _ _ _ _ _); refine ⟨_, _, _, _, _, rfl, by assumption, by assumption, by assumption, ?_, ?_⟩))
local macro_rules | `(tactic| walk_at "sp") => `(tactic| ((with_reducible show sp_is_lot _ _ _ _ _); refine ⟨_, _, rfl, by assumption, by assumption, ?_⟩))
local macro_rules | `(tactic| walk_at "sp") => `(tactic| ((with_reducible show sp_L_any _ _ _ _ _); refine ⟨_, _, _, rfl, by first | exact IsL.fl | assumption, by first | assumption | (intro e; cases e; done), by first | assumption | simp, by first | omega | (simp only [List.length_cons, List.length_nil]; omega), by assumption, ?_⟩))
local macro_rules | `(tactic| walk_at "lk") => `(tactic| first | exact gk_l | exact gk_w | exact gk_p | exact gk_r)
theorem m_bput_w {S : SS} {p l w w' : Addr} {po : D} {re : Int} {Q : SS → Prop} (h : S p = some (.dk (bkD l w po re))) (q : Q (sup S p (.dk (bkD l w' po re)))) : rSetIx S (.ref p) (.str "waits") (.ref w') Q := .inr ⟨_, h, by show 4 < sizeLine; rw [sizeLine_eq]; decide, by show Q (sup S p (.dk (putD _ (.inr ("waits" : Str)) _))); rw [pk_w]; exact q⟩
theorem m_bput_p {S : SS} {p l w : Addr} {po po' : D} {re : Int} {Q : SS → Prop} (h : S p = some (.dk (bkD l w po re))) (q : Q (sup S p (.dk (bkD l w po' re)))) : rSetIx S (.ref p) (.str "power") po' Q := .inr ⟨_, h, by show 4 < sizeLine; rw [sizeLine_eq]; decide, by show Q (sup S p (.dk (putD _ (.inr ("power" : Str)) _))); rw [pk_p]; exact q⟩
theorem m_bput_r {S : SS} {p l w : Addr} {po : D} {re re' : Int} {Q : SS → Prop} (h : S p = some (.dk (bkD l w po re))) (q : Q (sup S p (.dk (bkD l w po re')))) : rSetIx S (.ref p) (.str "reached") (.int re') Q := .inr ⟨_, h, by show 4 < sizeLine; rw [sizeLine_eq]; decide, by show Q (sup S p (.dk (putD _ (.inr ("reached" : Str)) _))); rw [pk_r]; exact q⟩
local macro_rules | `(tactic| walk_at "s") => `(tactic| ((with_reducible apply m_bput_w); (focus (walk_at "at"))))
local macro_rules | `(tactic| walk_at "s") => `(tactic| ((with_reducible apply m_bput_p); (focus (walk_at "at"))))
local macro_rules | `(tactic| walk_at "s") => `(tactic| ((with_reducible apply m_bput_r); (focus (walk_at "at"))))
def sp_L_content (_A : CA) : DSp := fun ds S Q _ => ∃ h, ds = [.ref h] ∧ HandAt S h ∧ ∀ x S', Cnt x → HandAt S' h → Fr [h] S S' → Q x S'
theorem ok_L_content (T : Top K mg A) : Fn P w K mg A.base 3 "_law_content" (sp_L_content A) := by
  obtain ⟨f, fd, hm, F⟩ := T.f_L_content
  refine fn_mk F hm (F.binds fun _ _ _ _ _ _ us hl => match us, hl with | [_], _ => by kernel_rfl) sc_L_content (fun ds S Q E h => by repeat (first | (obtain ⟨e, _⟩ := h; subst e; rfl) | (obtain ⟨_, h⟩ := h))) fun cdv A' outer s H E Ed ds S Q hr h => ?_
  have nd : (fnC P w K mg A.base ["_law_hand_here", "_law_some", "_law_many", "_law_item"] "_law_content" s_L_content f cdv A' outer s H E Ed).X.N.Nodup := sc_L_content.nd
  have a0 : (fnC P w K mg A.base ["_law_hand_here", "_law_some", "_law_many", "_law_item"] "_law_content" s_L_content f cdv A' outer s H E Ed).X.N[0]? = some ("_law_hand_here" : Str) := rfl
  have n0 : Nm (fnC P w K mg A.base ["_law_hand_here", "_law_some", "_law_many", "_law_item"] "_law_content" s_L_content f cdv A' outer s H E Ed) 0 "_law_hand_here" := ⟨rfl, by first | exact .inl rfl | exact .inr rfl, .inl rfl, by decide +kernel, by decide +kernel⟩
  have a1 : (fnC P w K mg A.base ["_law_hand_here", "_law_some", "_law_many", "_law_item"] "_law_content" s_L_content f cdv A' outer s H E Ed).X.N[1]? = some ("_law_some" : Str) := rfl
  have n1 : Nm (fnC P w K mg A.base ["_law_hand_here", "_law_some", "_law_many", "_law_item"] "_law_content" s_L_content f cdv A' outer s H E Ed) 1 "_law_some" := ⟨rfl, by first | exact .inl rfl | exact .inr rfl, .inl rfl, by decide +kernel, by decide +kernel⟩
  have n2 : Nm (fnC P w K mg A.base ["_law_hand_here", "_law_some", "_law_many", "_law_item"] "_law_content" s_L_content f cdv A' outer s H E Ed) 2 "_law_many" := ⟨rfl, by first | exact .inl rfl | exact .inr rfl, .inl rfl, by decide +kernel, by decide +kernel⟩
  have a3 : (fnC P w K mg A.base ["_law_hand_here", "_law_some", "_law_many", "_law_item"] "_law_content" s_L_content f cdv A' outer s H E Ed).X.N[3]? = some ("_law_item" : Str) := rfl
  refine qz_go (c := (fnC P w K mg A.base ["_law_hand_here", "_law_some", "_law_many", "_law_item"] "_law_content" s_L_content f cdv A' outer s H E Ed)) ?_
  refine ⟨_, 
    (qz_cons (qs_st n1 nd (q_lst (qa_cons q_int (qa_cons q_int (qa_cons (q_neg q_int) (qa_cons (q_bin q_int q_int) (qa_cons (q_neg (q_bin q_int q_int)) (qa_cons q_str (qa_cons q_str (qa_cons q_str (qa_cons (q_call (ok_L_draw T) (hr.mono (by decide)) (qa_cons (q_n n0) (qa_cons q_int qa_nil))) qa_nil))))))))))) 
    (qz_cons (qs_st n2 nd (q_call (ok_L_any T) (hr.mono (by decide)) (qa_cons (q_n n0) (qa_cons (q_lst (qa_cons q_int (qa_cons q_int (qa_cons q_int (qa_cons q_int (qa_cons q_int (qa_cons q_int qa_nil))))))) qa_nil)))) (qz_one (qs_ret (q_bt T.b_tuple bt_tuple (rTuple_ok) (qa_cons (q_lc (.n 3) [("_law_item", 3)] nd (qi_range1 T.b_range (q_n n2)) (lcT_n nd a3 (fun _ _ => .inl rfl) (fun _ _ => rfl)) qts_nil ⟨fun _ _ _ _ _ => (q_callB (ok_L_any T) (hr.mono (by decide)) (qa_cons (q_bn a0 (by first | exact .inl rfl | exact .inr (.inl rfl) | exact .inr (.inr rfl))) (qa_cons (q_bn a1 (by first | exact .inl rfl | exact .inr (.inl rfl) | exact .inr (.inr rfl))) qa_nil)))⟩) qa_nil)))))), ?_⟩
  clear nd a0 a1 a3 n0 n1 n2
  obtain ⟨h, rfl, hh, q⟩ := h
  walk_at "g"
  intro n S1 n1 n2 hh1 f1
  walk_at "g"
  intro d S2 hd hh2 f2
  obtain ⟨k, rfl, k1, k2⟩ : ∃ k : Int, d = .int k ∧ 0 ≤ k ∧ k ≤ 40 := by
    simp only [List.mem_cons, List.not_mem_nil, or_false] at hd
    rcases hd with rfl | rfl | rfl | rfl | rfl | rfl <;> exact ⟨_, rfl, by omega, by omega⟩
  walk_at "g"
  refine ⟨fun r acc S' => HandAt S' h ∧ Fr [h] S S' ∧ (∀ y ∈ acc, CItem y) ∧ acc.length + r.length = k.toNat, ⟨hh2, f1.trans f2, by simp, by rw [irng_len]; simp⟩, by rw [irng_len, sizeLine_eq]; omega, ?_, ?_, ?_⟩
  · rintro r acc S' Dl hn ⟨a1, a2, a3, a4⟩
    exact ⟨trivial, by rw [irng_len]; omega⟩
  · rintro Dl x r acc S' hn ⟨a1, a2, a3, a4⟩
    obtain ⟨hh3, hne⟩ := a1.new (o := .lst acc) hn
    walk_at "g"
    intro y S3 hy hh4 f4
    walk_at "g"
    refine ⟨f4 Dl _ sup_same (by simpa using hne.symm), hh4.under hne, a2.trans (f4.under hn), ?_, by simp only [List.length_append, List.length_cons, List.length_nil] at a4 ⊢; omega⟩
    intro z hz
    rcases List.mem_append.mp hz with hz | hz
    · exact a3 z hz
    · rw [List.mem_singleton] at hz
      subst hz
      simp only [List.mem_cons, List.not_mem_nil, or_false] at hy
      rcases hy with rfl | rfl | rfl | rfl | rfl | rfl | rfl | rfl | rfl
      · exact .inl ⟨_, rfl, by omega, by omega⟩
      · exact .inl ⟨_, rfl, by omega, by omega⟩
      · exact .inl ⟨_, rfl, by omega, by omega⟩
      · exact .inl ⟨_, rfl, by omega, by omega⟩
      · exact .inl ⟨_, rfl, by omega, by omega⟩
      · exact .inr (.inl rfl)
      · exact .inr (.inr (.inl rfl))
      · exact .inr (.inr (.inr rfl))
      · exact .inl ⟨_, rfl, by omega, by omega⟩
  · rintro acc S' Dl hn ⟨a1, a2, a3, a4⟩
    exact q _ S' ⟨acc, rfl, by simp only [List.length_nil] at a4; omega, a3⟩ a1 a2

def sp_L_book (_A : CA) : DSp := fun ds S Q _ => ∃ k, ds = [.int k] ∧ 0 ≤ k ∧ k ≤ 600 ∧ ∀ p l w S', S p = none → S l = none → S w = none → BookAt S' p l w ⟨List.replicate k.toNat (.tup []), [], .non, 0⟩ → Fr [] S S' → Q (.ref p) S'
theorem ok_L_book (T : Top K mg A) : Fn P w K mg A.base 1 "_law_book" (sp_L_book A) := by
  obtain ⟨f, fd, hm, F⟩ := T.f_L_book
  refine fn_mk F hm (F.binds fun _ _ _ _ _ _ us hl => match us, hl with | [_], _ => by kernel_rfl) sc_L_book (fun ds S Q E h => by repeat (first | (obtain ⟨e, _⟩ := h; subst e; rfl) | (obtain ⟨_, h⟩ := h))) fun cdv A' outer s H E Ed ds S Q hr h => ?_
  have nd : (fnC P w K mg A.base ["_law_blocks"] "_law_book" s_L_book f cdv A' outer s H E Ed).X.N.Nodup := sc_L_book.nd
  have n0 : Nm (fnC P w K mg A.base ["_law_blocks"] "_law_book" s_L_book f cdv A' outer s H E Ed) 0 "_law_blocks" := ⟨rfl, by first | exact .inl rfl | exact .inr rfl, .inl rfl, by decide +kernel, by decide +kernel⟩
  refine qz_go (c := (fnC P w K mg A.base ["_law_blocks"] "_law_book" s_L_book f cdv A' outer s H E Ed)) ?_
  refine ⟨_, (qz_one (qs_ret (q_dict (qps_cons q_str (q_repM (qa_cons (q_tup qa_nil) qa_nil) (q_n n0)) (qps_cons q_str q_dict0 (qps_cons q_str q_non (qps_cons q_str q_int qps_nil))))))), ?_⟩
  clear nd n0
  obtain ⟨k, rfl, h1, h2, q⟩ := h
  walk_at "g"
  intro p hp
  refine ⟨⟨by omega, by omega, by rw [sizeLine_eq]; omega⟩, fun l hl w hw => ?_⟩
  have n1 : l ≠ p := fun e => by rw [e, sup_same] at hl; cases hl
  rw [sup_ne n1] at hl
  have n2 : w ≠ l := fun e => by rw [e, sup_same] at hw; cases hw
  rw [sup_ne n2] at hw
  have n3 : w ≠ p := fun e => by rw [e, sup_same] at hw; cases hw
  rw [sup_ne n3] at hw
  have n4 := n1.symm
  have n5 := n2.symm
  have n6 := n3.symm
  refine ⟨by walk_at "at", by decide +kernel, q p l w _ hp hl hw (BookAt.mk sup_same (by walk_at "at") (by walk_at "at") n6 ?_) (by walk_at "fr")⟩
  have e : ∀ n : Nat, (List.replicate n [D.tup []]).flatten = List.replicate n (D.tup []) := fun n => by
    induction n with
    | zero => rfl
    | succ n ih => rw [List.replicate_succ, List.flatten_cons, ih]; rfl
  rw [e]

def sp_L_wrote (_A : CA) : DSp := fun ds S Q _ => ∃ p l w d b x, ds = [.ref p, .int b, x] ∧ BookAt S p l w d ∧ WOk d ∧ pendL d.wa < 100000 ∧ ∀ S', BookAt S' p l w (d.write b x) → Fr [w] S S' → Q .non S'
theorem ok_L_wrote (T : Top K mg A) : Fn P w K mg A.base 1 "_law_wrote" (sp_L_wrote A) := by
  obtain ⟨f, fd, hm, F⟩ := T.f_L_wrote
  refine fn_mk F hm (F.binds fun _ _ _ _ _ _ us hl => match us, hl with | [_, _, _], _ => by kernel_rfl) sc_L_wrote (fun ds S Q E h => by repeat (first | (obtain ⟨e, _⟩ := h; subst e; rfl) | (obtain ⟨_, h⟩ := h))) fun cdv A' outer s H E Ed ds S Q hr h => ?_
  have nd : (fnC P w K mg A.base ["_law_book_here", "_law_block", "_law_content_here"] "_law_wrote" s_L_wrote f cdv A' outer s H E Ed).X.N.Nodup := sc_L_wrote.nd
  have n0 : Nm (fnC P w K mg A.base ["_law_book_here", "_law_block", "_law_content_here"] "_law_wrote" s_L_wrote f cdv A' outer s H E Ed) 0 "_law_book_here" := ⟨rfl, by first | exact .inl rfl | exact .inr rfl, .inl rfl, by decide +kernel, by decide +kernel⟩
  have n1 : Nm (fnC P w K mg A.base ["_law_book_here", "_law_block", "_law_content_here"] "_law_wrote" s_L_wrote f cdv A' outer s H E Ed) 1 "_law_block" := ⟨rfl, by first | exact .inl rfl | exact .inr rfl, .inl rfl, by decide +kernel, by decide +kernel⟩
  have n2 : Nm (fnC P w K mg A.base ["_law_book_here", "_law_block", "_law_content_here"] "_law_wrote" s_L_wrote f cdv A' outer s H E Ed) 2 "_law_content_here" := ⟨rfl, by first | exact .inl rfl | exact .inr rfl, .inl rfl, by decide +kernel, by decide +kernel⟩
  have hu : Un (fnC P w K mg A.base ["_law_book_here", "_law_block", "_law_content_here"] "_law_wrote" s_L_wrote f cdv A' outer s H E Ed) := un_of hr
  refine qz_go (c := (fnC P w K mg A.base ["_law_book_here", "_law_block", "_law_content_here"] "_law_wrote" s_L_wrote f cdv A' outer s H E Ed)) ?_
  refine ⟨_, (qz_one (qs_asg (q_bin (q_m_get2 hu (q_ix hu (q_n n0) q_str) (q_n n1) (q_lst qa_nil)) (q_lst (qa_cons (q_n n2) qa_nil))) (qg_ix hu (q_ix hu (q_n n0) q_str) (q_n n1)))), ?_⟩
  clear nd hu n0 n1 n2
  obtain ⟨p, l, w, d, b, x, rfl, hd, hk, hpe, q⟩ := h
  have h1 := hd.1
  have h3 := hd.2.2.1
  have hr := row_len (b := b) hk
  have hl := keys_len hk
  walk_at "g"
  rw [getK_row hk]
  walk_at "g"
  refine ⟨by rw [sizeLine_eq]; show (rowOf d b).length + 1 ≤ _; omega, ?_⟩
  walk_at "g"
  exact q _ hd.sw (by walk_at "fr")

def sp_L_reached (_A : CA) : DSp := fun ds S Q _ => ∃ p l w d b, ds = [.ref p, .int b] ∧ BookAt S p l w d ∧ WOk d ∧ hasK d.wa (.inl b) = true ∧ (stuckB d = true → Q (.bl false) S) ∧ (stuckB d = false → ∀ S', BookAt S' p l w (d.step b) → Fr [p, l, w] S S' → Q (.bl true) S')
theorem ok_L_reached (T : Top K mg A) : Fn P w K mg A.base 1 "_law_reached" (sp_L_reached A) := by
  obtain ⟨f, fd, hm, F⟩ := T.f_L_reached
  refine fn_mk F hm (F.binds fun _ _ _ _ _ _ us hl => match us, hl with | [_, _], _ => by kernel_rfl) sc_L_reached (fun ds S Q E h => by repeat (first | (obtain ⟨e, _⟩ := h; subst e; rfl) | (obtain ⟨_, h⟩ := h))) fun cdv A' outer s H E Ed ds S Q hr h => ?_
  have nd : (fnC P w K mg A.base ["_law_book_here", "_law_block", "_law_row"] "_law_reached" s_L_reached f cdv A' outer s H E Ed).X.N.Nodup := sc_L_reached.nd
  have n0 : Nm (fnC P w K mg A.base ["_law_book_here", "_law_block", "_law_row"] "_law_reached" s_L_reached f cdv A' outer s H E Ed) 0 "_law_book_here" := ⟨rfl, by first | exact .inl rfl | exact .inr rfl, .inl rfl, by decide +kernel, by decide +kernel⟩
  have n1 : Nm (fnC P w K mg A.base ["_law_book_here", "_law_block", "_law_row"] "_law_reached" s_L_reached f cdv A' outer s H E Ed) 1 "_law_block" := ⟨rfl, by first | exact .inl rfl | exact .inr rfl, .inl rfl, by decide +kernel, by decide +kernel⟩
  have n2 : Nm (fnC P w K mg A.base ["_law_book_here", "_law_block", "_law_row"] "_law_reached" s_L_reached f cdv A' outer s H E Ed) 2 "_law_row" := ⟨rfl, by first | exact .inl rfl | exact .inr rfl, .inl rfl, by decide +kernel, by decide +kernel⟩
  have hu : Un (fnC P w K mg A.base ["_law_book_here", "_law_block", "_law_row"] "_law_reached" s_L_reached f cdv A' outer s H E Ed) := un_of hr
  refine qz_go (c := (fnC P w K mg A.base ["_law_book_here", "_law_block", "_law_row"] "_law_reached" s_L_reached f cdv A' outer s H E Ed)) ?_
  refine ⟨_, 
    (qz_cons (qs_if (qt_cmp hu (q_ix hu (q_n n0) q_str) q_int) (qz_one (qs_ret q_bl)) qz_nil) 
    (qz_cons (qs_if (qt_cmp hu (q_ix hu (q_n n0) q_str) q_non) (qz_one (qs_asg (q_bin (q_ix hu (q_n n0) q_str) q_int) (qg_ix hu (q_n n0) q_str))) qz_nil) 
    (qz_cons (qs_st n2 nd (q_m_pop1 (q_ix hu (q_n n0) q_str) (q_n n1))) 
    (qz_cons (qs_asg (q_ix hu (q_n n2) q_int) (qg_ix hu (q_ix hu (q_n n0) q_str) (q_n n1))) 
    (qz_cons (qs_asg (q_bin (q_ix hu (q_n n0) q_str) q_int) (qg_ix hu (q_n n0) q_str)) 
    (qz_cons (qs_if (qt_cmp hu (q_bi T.b_len bt_len (rLen_ok) (qa_cons (q_n n2) qa_nil)) q_int) (qz_one (qs_asg (q_slice (q_n n2) (qo_some q_int) qo_none) (qg_ix hu (q_ix hu (q_n n0) q_str) (q_n n1)))) qz_nil) (qz_one (qs_ret q_bl)))))))), ?_⟩
  clear nd hu n0 n1 n2
  obtain ⟨p, l, w, d, b, rfl, hd, hk, hh, qx, q⟩ := h
  have h2 := hd.2.1
  have h3 := hd.2.2.1
  obtain ⟨x, xs, e1, e2, _, hb1, hb2⟩ := hk.row hh
  obtain ⟨⟨n1, n2, n3⟩, n4, n5, n6⟩ := hd.ne
  have e3 := ixN_in hb1 hb2
  have es : d.step b = ⟨d.ly.set b.toNat x, if xs = [] then delK d.wa (.inl b) else putD (delK d.wa (.inl b)) (.inl b) (.fl xs), lessP d.po, d.re + 1⟩ := by unfold DM.step; rw [e2]
  rw [es] at q
  have hkl := keys_len hk
  have hsm := hk.sm
  have hdl : (delK d.wa (.inl b)).length ≤ d.wa.length := List.length_filter_le _ _
  rcases hk.pw with e | ⟨k, e, k0⟩
  · have h1 : S p = some (.dk (bkD l w .non d.re)) := by rw [← e]; exact hd.1
    have hs : stuckB d = false := by unfold stuckB; rw [e]
    rw [e] at q
    walk_at "g"
    refine m_eqn0 ?_
    walk_at "g"
    refine iteD (fun hx => ?_) (fun hx => ?_)
    · walk_at "g"
      rw [if_neg (fun z => by subst z; exact absurd hx (by simp)), ← cut1 (x := x) (xs := xs)] at q
      exact q hs _ (BookAt.mk (by walk_at "at") (by walk_at "at") (by walk_at "at") n2 rfl) (by walk_at "fr")
    · have hx : xs = [] := by cases xs with
        | nil => rfl
        | cons y ys => exact absurd (by simp only [List.length_cons]; omega) hx
      rw [if_pos hx] at q
      exact q hs _ (BookAt.mk (by walk_at "at") (by walk_at "at") (by walk_at "at") n2 rfl) (by walk_at "fr")
  · have h1 : S p = some (.dk (bkD l w (.int k) d.re)) := by rw [← e]; exact hd.1
    have hs : stuckB d = decide (k = 0) := by unfold stuckB; rw [e]
    rw [e] at q
    walk_at "g"
    refine iteD (fun h0 => ?_) (fun h0 => ?_)
    · exact qx (hs.trans (decide_eq_true h0))
    · walk_at "g"
      have hs : stuckB d = false := hs.trans (decide_eq_false h0)
      refine iteD (fun hx => ?_) (fun hx => ?_)
      · walk_at "g"
        rw [if_neg (fun z => by subst z; exact absurd hx (by simp)), ← cut1 (x := x) (xs := xs)] at q
        exact q hs _ (BookAt.mk (by walk_at "at") (by walk_at "at") (by walk_at "at") n2 rfl) (by walk_at "fr")
      · have hx : xs = [] := by cases xs with
          | nil => rfl
          | cons y ys => exact absurd (by simp only [List.length_cons]; omega) hx
        rw [if_pos hx] at q
        exact q hs _ (BookAt.mk (by walk_at "at") (by walk_at "at") (by walk_at "at") n2 rfl) (by walk_at "fr")

local macro_rules | `(tactic| walk_at "sp") => `(tactic| ((with_reducible show sp_L_reached _ _ _ _ _); refine ⟨_, _, _, _, _, rfl, by assumption, by assumption, by assumption, ?_, ?_⟩))
def sp_L_forced (_A : CA) : DSp := fun ds S Q _ => ∃ p l w d x bs, ds = [.ref p, x] ∧ (x = .tup (bs.map D.int) ∨ x = .fl (bs.map D.int)) ∧ BookAt S p l w d ∧ WOk d ∧ ∀ S', BookAt S' p l w (forceM d bs).2 → Fr [p, l, w] S S' → Q (.bl (forceM d bs).1) S'
theorem ok_L_forced (T : Top K mg A) : Fn P w K mg A.base 2 "_law_forced" (sp_L_forced A) := by
  obtain ⟨f, fd, hm, F⟩ := T.f_L_forced
  refine fn_mk F hm (F.binds fun _ _ _ _ _ _ us hl => match us, hl with | [_, _], _ => by kernel_rfl) sc_L_forced (fun ds S Q E h => by repeat (first | (obtain ⟨e, _⟩ := h; subst e; rfl) | (obtain ⟨_, h⟩ := h))) fun cdv A' outer s H E Ed ds S Q hr h => ?_
  have nd : (fnC P w K mg A.base ["_law_book_here", "_law_lot", "_law_block"] "_law_forced" s_L_forced f cdv A' outer s H E Ed).X.N.Nodup := sc_L_forced.nd
  have n0 : Nm (fnC P w K mg A.base ["_law_book_here", "_law_lot", "_law_block"] "_law_forced" s_L_forced f cdv A' outer s H E Ed) 0 "_law_book_here" := ⟨rfl, by first | exact .inl rfl | exact .inr rfl, .inl rfl, by decide +kernel, by decide +kernel⟩
  have n1 : Nm (fnC P w K mg A.base ["_law_book_here", "_law_lot", "_law_block"] "_law_forced" s_L_forced f cdv A' outer s H E Ed) 1 "_law_lot" := ⟨rfl, by first | exact .inl rfl | exact .inr rfl, .inl rfl, by decide +kernel, by decide +kernel⟩
  have n2 : Nm (fnC P w K mg A.base ["_law_book_here", "_law_lot", "_law_block"] "_law_forced" s_L_forced f cdv A' outer s H E Ed) 2 "_law_block" := ⟨rfl, by first | exact .inl rfl | exact .inr rfl, .inl rfl, by decide +kernel, by decide +kernel⟩
  have hu : Un (fnC P w K mg A.base ["_law_book_here", "_law_lot", "_law_block"] "_law_forced" s_L_forced f cdv A' outer s H E Ed) := un_of hr
  have po := fnC_po (P := P) (w := w) (K := K) (mg := mg) (base := A.base) (N := ["_law_book_here", "_law_lot", "_law_block"]) (qual := "_law_forced") (st := s_L_forced) (f := f) (cdv := cdv) (A := A') (outer := outer) (s := s) (H := H) (E := E) (Ed := Ed)
  refine qz_go (c := (fnC P w K mg A.base ["_law_book_here", "_law_lot", "_law_block"] "_law_forced" s_L_forced f cdv A' outer s H E Ed)) ?_
  refine ⟨_, 
    (qz_cons (qs_for (qi_seq (q_n n1)) (qg_n n2 nd) (qz_one (qs_while (qt_cmp hu (q_n n2) (q_ix hu (q_n n0) q_str)) (qz_one (qs_if (qt_not (qt_tru (q_call (ok_L_reached T) (hr.mono (by decide)) (qa_cons (q_n n0) (qa_cons (q_n n2) qa_nil))))) (qz_one (qs_ret q_bl)) qz_nil)) po)) po) (qz_one (qs_ret q_bl))), ?_⟩
  clear nd hu po n0 n1 n2
  obtain ⟨p, l, w, d, x, bs, rfl, hx, hd, hk, q⟩ := h
  have key : ∀ {Y : IK}, Y (bs.map D.int) (fun _ => True) S → rSeq S x Y := fun {Y} h => by
    rcases hx with rfl | rfl
    · exact h
    · exact h
  walk_at "g"
  refine key ?_
  walk_at "v"
  refine ⟨fun r ρ' S' => ∃ cs d' o, r = cs.map D.int ∧ ρ' = [some (.ref p), some x, o] ∧ BookAt S' p l w d' ∧ WOk d' ∧ Fr [p, l, w] S S' ∧ forceM d' cs = forceM d bs, ⟨bs, d, none, rfl, rfl, hd, hk, Fr.refl, rfl⟩, fun _ _ _ _ => trivial, ?_, ?_⟩
  · rintro y r ρ' S' ⟨cs, d', o, e, rfl, hd', hk', fr, ef⟩
    cases cs with
    | nil => cases e
    | cons b cs =>
      cases e
      have eb : forceM d' (b :: cs) = if (runB (pendL d'.wa) d' b).1 = true then forceM (runB (pendL d'.wa) d' b).2 cs else (false, (runB (pendL d'.wa) d' b).2) := rfl
      rw [eb] at ef
      refine ⟨fun n ρ2 S2 => ∃ d2, ρ2 = [some (.ref p), some x, some (.int b)] ∧ BookAt S2 p l w d2 ∧ WOk d2 ∧ Fr [p, l, w] S S2 ∧ n = pendL d2.wa ∧ runB (pendL d2.wa) d2 b = runB (pendL d'.wa) d' b, ⟨_, d', rfl, hd', hk', fr, rfl, rfl⟩, ?_⟩
      rintro n ρ2 S2 ⟨d2, rfl, hd2, hk2, fr2, rfl, e2⟩
      have h1 := hd2.1
      have h3 := hd2.2.2.1
      walk_at "g"
      refine ite2' (fun hh => ?_) (fun hh => ?_)
      · walk_at "g"
        · intro hs
          rw [runB_stuck hk2 hh hs] at e2
          rw [← e2, if_neg Bool.false_ne_true] at ef
          rw [← ef] at q
          walk_at "g"
          exact q S2 hd2 fr2
        · intro hs S3 hd3 fr3
          obtain ⟨k1, k2, k3⟩ := hk2.step hh hs
          walk_at "g"
          exact ⟨_, by omega, _, rfl, hd3, k1, fr2.trans fr3, rfl, by rw [← runB_more hk2 hh hs]; exact e2⟩
      · rw [runB_end (by rw [hh]; exact Bool.false_ne_true)] at e2
        rw [← e2, if_pos rfl] at ef
        exact ⟨cs, d2, some (.int b), rfl, rfl, hd2, hk2, fr2, ef⟩
  · rintro ρ' S' ⟨cs, d', o, e, rfl, hd', hk', fr, ef⟩
    cases cs with
    | cons b cs => cases e
    | nil =>
      have ef : (true, d') = forceM d bs := ef
      rw [← ef] at q
      exact q S' hd' fr

end K02

namespace K02
open PySem L2 DP
local macro_rules | `(tactic| walk_at "v") => `(tactic| dsimp only [startD, k_nt, k_nf, k_ta, k_fa, k_to, k_fo, Int.reduceToNat, List.set, wipeD, k_p6, k_p16, k_p17, k_p18, k_p30, Bool.not_true, Bool.not_false, Bool.and_true, Bool.true_and, Bool.and_false, Bool.false_and, Bool.or_true, Bool.true_or, Bool.or_false, Bool.false_or, List.map, fnC_DX, List.length_cons, List.length_nil, k_rv0, k_rv1, k_rv2, k_rbl, k_rint, k_rI2, k_badd, k_bSub, k_bMult, k_bFloorDiv, k_bMod, k_bPow, k_addi, k_addt, k_addf, k_itm, k_ceq, k_cne, k_cis, k_cisn, k_cin, k_cnin, k_ciLt, k_csLt, k_ciLtE, k_csLtE, k_ciGt, k_csGt, k_ciGtE, k_csGtE, k_eqi, k_eqs, k_eqb, k_isn, k_isb, k_keyi, k_keys, k_ins, k_int, k_inf, k_tru0, k_tru1, k_tru2, k_tru3, k_tru4, k_tru5, k_ipa, k_ips, k_cons, k_cons2, k_cons3, k_tup, k_seqf, k_seqt, k_seqs, k_rfl, k_patn, k_patt, k_setN0, k_setN1, k_ixt, k_ixf, k_ixs, k_opt0, k_opt1, k_slt, k_slf, k_sls, k_rev, k_r1, k_r2, k_lent, k_lenf, k_lens, k_abs, k_min, k_max, k_int1, k_lstt, k_lstf, k_lstMt, k_lstMf, k_tupt, k_tupf, k_bls, k_sum, k_rcL, k_rcS, isI_non, isI_bl, isI_int, isI_str, isI_tup, isI_fl, isI_ref, isB_non, isB_bl, isB_int, isB_str, isB_tup, isB_fl, isB_ref, isS_non, isS_bl, isS_int, isS_str, isS_tup, isS_fl, isS_ref, isT_non, isT_bl, isT_int, isT_str, isT_tup, isT_fl, isT_ref, isInt_non, isInt_bl, isInt_int, isInt_str, isInt_tup, isInt_fl, isInt_ref, isNon_non, isNon_bl, isNon_int, isNon_str, isNon_tup, isNon_fl, isNon_ref, isLs_non, isLs_bl, isLs_int, isLs_str, isLs_tup, isLs_fl, isDc_non, isDc_bl, isDc_int, isDc_str, isDc_tup, isDc_fl])
local macro_rules | `(tactic| walk_at "lk") => `(tactic| rfl)
local macro_rules | `(tactic| walk_at "sz") => `(tactic| first | assumption | (simp only [List.length_cons, List.length_nil]; decide) | omega)
local macro_rules | `(tactic| walk_at "at") => `(tactic| first | assumption | exact sup_same | (refine sup_at (by assumption) ?_; walk_at "at"))
local macro_rules | `(tactic| walk_at "sp") => `(tactic| fail)
local macro_rules | `(tactic| walk_at "s") => `(tactic| first
  | (with_reducible refine iteT ?_)
  | (with_reducible refine iteF ?_)
  | ((with_reducible refine And.intro ?_ ?_); (focus (first | with_reducible exact kn_int | with_reducible exact kn_str | with_reducible exact kn_tup | with_reducible exact kn_fl | with_reducible exact kn_bl | with_reducible exact kn_non | with_reducible assumption)))
  | ((with_reducible apply m_ixl); (focus (walk_at "at")); (focus rfl))
  | ((with_reducible apply m_ixl'); (focus (walk_at "at")); (focus (assumption)))
  | ((with_reducible apply m_ixki); (focus (walk_at "at")); (focus (assumption)))
  | ((with_reducible apply m_ixks); (focus (walk_at "at")); (focus (first | assumption | walk_at "lk")))
  | ((with_reducible apply m_stl); (focus (walk_at "at")); (focus rfl))
  | ((with_reducible apply m_stki); (focus (walk_at "at")); (focus (walk_at "sz")))
  | ((with_reducible apply m_stks); (focus (walk_at "at")); (focus (walk_at "sz")))
  | ((with_reducible apply m_itm); (focus (walk_at "at")))
  | ((with_reducible apply m_seq); (focus (walk_at "at")))
  | ((with_reducible apply m_lenl); (focus (walk_at "at")))
  | ((with_reducible apply m_lenk); (focus (walk_at "at")))
  | ((with_reducible apply m_ls); (focus (walk_at "at")))
  | ((with_reducible apply m_dk); (focus (walk_at "at")))
  | ((with_reducible apply m_rcL); (focus (walk_at "at")))
  | ((with_reducible apply m_rcD); (focus (walk_at "at")))
  | ((with_reducible apply m_trul); (focus (walk_at "at")))
  | ((with_reducible apply m_truk); (focus (walk_at "at")))
  | ((with_reducible apply m_inki); (focus (walk_at "at")))
  | ((with_reducible apply m_inks); (focus (walk_at "at")))
  | ((with_reducible apply m_fld); (focus (walk_at "at")); (focus (walk_at "lk")))
  | ((with_reducible apply m_put); (focus (walk_at "at")); (focus (walk_at "sz")))
  | ((with_reducible apply m_get1); (focus (walk_at "at")))
  | ((with_reducible apply m_get2); (focus (walk_at "at")))
  | ((with_reducible apply m_pop1); (focus (walk_at "at")))
  | ((with_reducible apply m_pop2); (focus (walk_at "at")))
  | ((with_reducible show ∃ d, atI _ _ = some d ∧ _); refine ⟨_, rfl, ?_⟩)
  | ((with_reducible show ∃ d, some _ = some d ∧ _); refine ⟨_, rfl, ?_⟩)
  | (with_reducible refine And.intro rfl ?_)
  | walk_at "sp")
local macro_rules | `(tactic| walk_at "g") => `(tactic| repeat (first | walk_at "v" | walk_at "s"))
local macro_rules | `(tactic| walk_at "ar") => `(tactic| first
  | ((with_reducible show IntMulOk _ _ ∧ _); refine And.intro (by first | exact mul_small (by omega) (by omega) | exact mulok_r (by omega) (by omega)) ?_)
  | ((with_reducible show CDivW _ _ ∧ _); refine And.intro (div_small (by omega) (by omega)) ?_)
  | ((with_reducible show CPow _ _ ∧ _); refine And.intro (by unfold CPow; decide) ?_)
  | ((with_reducible show 0 < _ ∧ _); refine And.intro (by omega) ?_)
  | ((with_reducible show (-(2 ^ 62) ≤ _ ∧ _ < 2 ^ 62) ∧ _); refine And.intro ⟨by omega, by omega⟩ ?_)
  | ((with_reducible show (-(2 ^ 62) ≤ _ ∧ _ < 2 ^ 62 ∧ -(2 ^ 62) ≤ _ ∧ _ < 2 ^ 62) ∧ _); refine And.intro ⟨by omega, by omega, by omega, by omega⟩ ?_))
local macro_rules | `(tactic| walk_at "g") => `(tactic| repeat (first | walk_at "v" | walk_at "s" | walk_at "ar"))
local macro_rules | `(tactic| walk_at "fr") => `(tactic| first | exact Fr.refl | assumption | (apply Fr.putr; rotate_left; (focus (simp; done)); walk_at "fr") | (refine Fr.newer ?_ (by assumption); walk_at "fr"))

variable {P : Program} {w : World} {K : PySem.W.Frag} {mg : Str → Option Value} {base : Heap} {A : CA}
local macro_rules | `(tactic| walk_at "s") => `(tactic| ((with_reducible refine And.intro ?_ ?_); (focus (first | with_reducible exact knx_int | with_reducible exact knx_str | with_reducible exact knx_tup | with_reducible exact knx_fl | with_reducible exact knx_bl | with_reducible exact knx_non))))
local macro_rules | `(tactic| walk_at "sp") => `(tactic| ((with_reducible show sp_is_integer _ _ _ _ _); refine ⟨_, rfl, by first | exact knx_int | exact knx_str | exact knx_tup | exact knx_fl | exact knx_bl | exact knx_non | assumption, ?_⟩))
local macro_rules | `(tactic| walk_at "sp") => `(tactic| ((with_reducible show sp_is_within _ _ _ _ _); refine ⟨_, _, _, rfl, by first | exact knx_int | exact knx_str | exact knx_tup | exact knx_fl | exact knx_bl | exact knx_non | assumption, ?_⟩))
local macro_rules | `(tactic| walk_at "sp") => `(tactic| ((with_reducible show sp_L_draw _ _ _ _ _); refine ⟨_, _, rfl, by assumption, by omega, by omega, ?_⟩))
local macro_rules | `(tactic| walk_at "lk") => `(tactic| first | exact lk_l | exact lk_w | exact lk_p | exact lk_r | rfl)
local macro_rules | `(tactic| walk_at "sp") => `(tactic| ((with_reducible apply m_put_w); (focus (walk_at "at"))))
local macro_rules | `(tactic| walk_at "sp") => `(tactic| ((with_reducible apply m_put_p); (focus (walk_at "at"))))
local macro_rules | `(tactic| walk_at "sp") => `(tactic| ((with_reducible apply m_put_r); (focus (walk_at "at"))))
local macro_rules | `(tactic| walk_at "sz") => `(tactic| (rw [sizeLine_eq]; omega))
local macro_rules | `(tactic| walk_at "sp") => `(tactic| ((with_reducible apply m_fdk); (focus (walk_at "at"))))
local macro_rules | `(tactic| walk_at "sp") => `(tactic| ((with_reducible apply m_meth); (focus (walk_at "at")); (focus (kernel_rfl))))
local macro_rules | `(tactic| walk_at "sp") => `(tactic| ((with_reducible apply m_aug); (focus (walk_at "at")); (focus (walk_at "lk"))))
local macro_rules | `(tactic| walk_at "sp") => `(tactic| ((with_reducible apply m_aug2); (focus (walk_at "at")); (focus (show 4 < 1000; decide))))
local macro_rules | `(tactic| walk_at "sp") => `(tactic| first | rw [pt_p] | rw [pt_w] | rw [pt_r])
local macro_rules | `(tactic| walk_at "sp") => `(tactic| ((with_reducible show sp_is_item _ _ _ _ _); refine ⟨_, rfl, by assumption, ?_⟩))
local macro_rules | `(tactic| walk_at "sp") => `(tactic| ((with_reducible show sp_are_items _ _ _ _ _); refine ⟨_, _, rfl, by first | exact knx_tup | assumption, by assumption, ?_⟩))
local macro_rules | `(tactic| walk_at "sp") => `(tactic| ((with_reducible show sp_Disk_check_block _ _ _ _ _); refine ⟨_, _, _, _, _, rfl, by assumption, by assumption, ?_, ?_⟩))
local macro_rules | `(tactic| walk_at "sp") => `(tactic| ((with_reducible show sp_are_items _ _ _ _ _); refine ⟨_, _, rfl, by assumption, by assumption, ?_⟩))
local macro_rules | `(tactic| walk_at "s") => `(tactic| ((with_reducible show ∃ d, atI _ (-1) = some d ∧ _); refine ⟨_, atI_last (by first | assumption | simp), ?_⟩))
local macro_rules | `(tactic| walk_at "s") => `(tactic| ((with_reducible show ∃ d, atI (_ :: _) 0 = some d ∧ _); refine ⟨_, atI_zero, ?_⟩))
local macro_rules | `(tactic| walk_at "s") => `(tactic| ((with_reducible show ∃ v, getK _ _ = some v ∧ _); refine ⟨_, (by assumption), ?_⟩))
local macro_rules | `(tactic| walk_at "s") => `(tactic| ((with_reducible apply m_stl); (focus (walk_at "at")); (focus (assumption))))
local macro_rules | `(tactic| walk_at "sp") => `(tactic| ((with_reducible show sp_Disk_reach_one _ _ _ _ _); refine ⟨_, _, _, _, _, rfl, by assumption, by assumption, by assumption, ?_, ?_⟩))
local macro_rules | `(tactic| walk_at "sp") => `(tactic| ((with_reducible show sp_is_lot _ _ _ _ _); refine ⟨_, _, rfl, by assumption, by assumption, ?_⟩))
local macro_rules | `(tactic| walk_at "sp") => `(tactic| ((with_reducible show sp_L_any _ _ _ _ _); refine ⟨_, _, _, rfl, by first | exact IsL.fl | assumption, by first | assumption | (intro e; cases e; done), by first | assumption | simp, by first | omega | (simp only [List.length_cons, List.length_nil]; omega), by assumption, ?_⟩))
local macro_rules | `(tactic| walk_at "lk") => `(tactic| first | exact gk_l | exact gk_w | exact gk_p | exact gk_r)
local macro_rules | `(tactic| walk_at "s") => `(tactic| ((with_reducible apply m_bput_w); (focus (walk_at "at"))))
local macro_rules | `(tactic| walk_at "s") => `(tactic| ((with_reducible apply m_bput_p); (focus (walk_at "at"))))
local macro_rules | `(tactic| walk_at "s") => `(tactic| ((with_reducible apply m_bput_r); (focus (walk_at "at"))))
local macro_rules | `(tactic| walk_at "sp") => `(tactic| ((with_reducible show sp_L_reached _ _ _ _ _); refine ⟨_, _, _, _, _, rfl, by assumption, by assumption, by assumption, ?_, ?_⟩))
theorem inR_i {b n : Int} (h1 : 0 ≤ b) (h2 : b < n) : inR (.int b) 0 (n - 1) = true := by
  show (decide (0 ≤ b) && decide (b ≤ n - 1)) = true
  rw [decide_eq_true h1, decide_eq_true (by omega)]; rfl
theorem rd_i {p l w : Addr} {d : DM} {b : Int} {S : SS} {Q : D → SS → Prop} {E : Value → Option Addr → SS → Prop} (hd : DiskAt A.cDisk S p l w d) (hk : WOk d) (h1 : 0 ≤ b) (h2 : b < d.ly.length) (q : Q (d.read b) S) : sp_Disk_read A [.ref p, .int b] S Q E :=
  ⟨p, l, w, d, .int b, rfl, hd, hk, knx_int, fun e => absurd e (by rw [inR_i h1 h2]; decide), fun b' e _ => by cases e; exact q⟩
theorem ly_i {p l w : Addr} {d : DM} {b : Int} {S : SS} {Q : D → SS → Prop} {E : Value → Option Addr → SS → Prop} (hd : DiskAt A.cDisk S p l w d) (h1 : 0 ≤ b) (h2 : b < d.ly.length) (q : Q ((d.ly[b.toNat]?).getD .non) S) : sp_Disk_lying A [.ref p, .int b] S Q E :=
  ⟨p, l, w, d, .int b, rfl, hd, knx_int, fun e => absurd e (by rw [inR_i h1 h2]; decide), fun b' e _ => by cases e; exact q⟩
local macro_rules | `(tactic| walk_at "sp") => `(tactic| ((with_reducible show sp_Disk_blocks _ _ _ _ _); refine ⟨_, _, _, _, rfl, by assumption, ?_⟩))
local macro_rules | `(tactic| walk_at "sp") => `(tactic| ((with_reducible show sp_Disk_reached _ _ _ _ _); refine ⟨_, _, _, _, rfl, by assumption, ?_⟩))
local macro_rules | `(tactic| walk_at "sp") => `(tactic| ((with_reducible show sp_Disk_waiting _ _ _ _ _); refine ⟨_, _, _, _, rfl, by assumption, by assumption, ?_⟩))
local macro_rules | `(tactic| walk_at "sp") => `(tactic| ((with_reducible show sp_Disk_read _ _ _ _ _); refine rd_i (by assumption) (by assumption) (by assumption) (by assumption) ?_))
local macro_rules | `(tactic| walk_at "sp") => `(tactic| ((with_reducible show sp_Disk_lying _ _ _ _ _); refine ly_i (by assumption) (by assumption) (by assumption) ?_))
theorem k_selfi {i : Int} : decide (i = i) = true := decide_eq_true rfl
local macro_rules | `(tactic| walk_at "sp") => `(tactic| rw [k_selfi])
local macro_rules | `(tactic| walk_at "s") => `(tactic| ((with_reducible apply m_eqc); (focus (assumption))))
def sp_L_shows (A : CA) : DSp := fun ds S Q _ => ∃ p l w q l2 w2 d k, ∃ ns : List Int, ds = [.ref p, .ref q, .fl (ns.map D.int)] ∧ DiskAt A.cDisk S p l w d ∧ BookAt S q l2 w2 ⟨d.ly, d.wa, k, d.re⟩ ∧ DOk d ∧ (∀ n ∈ ns, 0 ≤ n ∧ n < d.ly.length) ∧ ns.length < 1000 ∧ ∀ S', Fr [] S S' → Q (.bl true) S'
theorem ok_L_shows (T : Top K mg A) : Fn P w K mg A.base 5 "_law_shows" (sp_L_shows A) := by
  obtain ⟨f, fd, hm, F⟩ := T.f_L_shows
  refine fn_mk F hm (F.binds fun _ _ _ _ _ _ us hl => match us, hl with | [_, _, _], _ => by kernel_rfl) sc_L_shows (fun ds S Q E h => by repeat (first | (obtain ⟨e, _⟩ := h; subst e; rfl) | (obtain ⟨_, h⟩ := h))) fun cdv A' outer s H E Ed ds S Q hr h => ?_
  have nd : (fnC P w K mg A.base ["_law_disk", "_law_book_here", "_law_some", "_law_block", "_law_row", "_law_due"] "_law_shows" s_L_shows f cdv A' outer s H E Ed).X.N.Nodup := sc_L_shows.nd
  have n0 : Nm (fnC P w K mg A.base ["_law_disk", "_law_book_here", "_law_some", "_law_block", "_law_row", "_law_due"] "_law_shows" s_L_shows f cdv A' outer s H E Ed) 0 "_law_disk" := ⟨rfl, by first | exact .inl rfl | exact .inr rfl, .inl rfl, by decide +kernel, by decide +kernel⟩
  have n1 : Nm (fnC P w K mg A.base ["_law_disk", "_law_book_here", "_law_some", "_law_block", "_law_row", "_law_due"] "_law_shows" s_L_shows f cdv A' outer s H E Ed) 1 "_law_book_here" := ⟨rfl, by first | exact .inl rfl | exact .inr rfl, .inl rfl, by decide +kernel, by decide +kernel⟩
  have n2 : Nm (fnC P w K mg A.base ["_law_disk", "_law_book_here", "_law_some", "_law_block", "_law_row", "_law_due"] "_law_shows" s_L_shows f cdv A' outer s H E Ed) 2 "_law_some" := ⟨rfl, by first | exact .inl rfl | exact .inr rfl, .inl rfl, by decide +kernel, by decide +kernel⟩
  have a3 : (fnC P w K mg A.base ["_law_disk", "_law_book_here", "_law_some", "_law_block", "_law_row", "_law_due"] "_law_shows" s_L_shows f cdv A' outer s H E Ed).X.N[3]? = some ("_law_block" : Str) := rfl
  have n3 : Nm (fnC P w K mg A.base ["_law_disk", "_law_book_here", "_law_some", "_law_block", "_law_row", "_law_due"] "_law_shows" s_L_shows f cdv A' outer s H E Ed) 3 "_law_block" := ⟨rfl, by first | exact .inl rfl | exact .inr rfl, .inl rfl, by decide +kernel, by decide +kernel⟩
  have a4 : (fnC P w K mg A.base ["_law_disk", "_law_book_here", "_law_some", "_law_block", "_law_row", "_law_due"] "_law_shows" s_L_shows f cdv A' outer s H E Ed).X.N[4]? = some ("_law_row" : Str) := rfl
  have n5 : Nm (fnC P w K mg A.base ["_law_disk", "_law_book_here", "_law_some", "_law_block", "_law_row", "_law_due"] "_law_shows" s_L_shows f cdv A' outer s H E Ed) 5 "_law_due" := ⟨rfl, by first | exact .inl rfl | exact .inr rfl, .inl rfl, by decide +kernel, by decide +kernel⟩
  have hu : Un (fnC P w K mg A.base ["_law_disk", "_law_book_here", "_law_some", "_law_block", "_law_row", "_law_due"] "_law_shows" s_L_shows f cdv A' outer s H E Ed) := un_of hr
  have po := fnC_po (P := P) (w := w) (K := K) (mg := mg) (base := A.base) (N := ["_law_disk", "_law_book_here", "_law_some", "_law_block", "_law_row", "_law_due"]) (qual := "_law_shows") (st := s_L_shows) (f := f) (cdv := cdv) (A := A') (outer := outer) (s := s) (H := H) (E := E) (Ed := Ed)
  refine qz_go (c := (fnC P w K mg A.base ["_law_disk", "_law_book_here", "_law_some", "_law_block", "_law_row", "_law_due"] "_law_shows" s_L_shows f cdv A' outer s H E Ed)) ?_
  refine ⟨_, 
    (qz_cons (qs_if (qt_w (qw_or (qt_cmp hu (q_meth0 (ok_Disk_blocks T) T.cl_Disk (hr.mono (by decide)) (q_n n0)) (q_bi T.b_len bt_len (rLen_ok) (qa_cons (q_ix hu (q_n n1) q_str) qa_nil))) (qw_or1 (qt_cmp hu (q_meth0 (ok_Disk_reached T) T.cl_Disk (hr.mono (by decide)) (q_n n0)) (q_ix hu (q_n n1) q_str))))) (qz_one (qs_ret q_bl)) qz_nil) 
    (qz_cons (qs_if (qt_cmp hu (q_meth0 (ok_Disk_waiting T) T.cl_Disk (hr.mono (by decide)) (q_n n0)) (q_bt T.b_dict bt_dict (rDict_ok) (qa_cons (q_lock (q_lc (.t [3, 4]) [("_law_block", 3), ("_law_row", 4)] nd (qi_items (q_ix hu (q_n n1) q_str)) (lcT_2 nd rfl a3 a4 (fun _ _ => .inl rfl) (fun _ _ => rfl) (fun _ _ => .inl rfl) (fun _ _ => rfl)) qts_nil ⟨fun _ _ _ _ _ => (q_tup (qa_cons (q_bn a3 (by first | exact .inl rfl | exact .inr (.inl rfl) | exact .inr (.inr rfl))) (qa_cons (q_bi T.b_len bt_len (rLen_ok) (qa_cons (q_bn a4 (by first | exact .inl rfl | exact .inr (.inl rfl) | exact .inr (.inr rfl))) qa_nil)) qa_nil)))⟩)) qa_nil))) (qz_one (qs_ret q_bl)) qz_nil) 
    (qz_cons (qs_for (qi_seq (q_n n2)) (qg_n n3 nd) 
    (qz_cons (qs_st n5 nd (q_ife (qt_cmp hu (q_n n3) (q_ix hu (q_n n1) q_str)) (q_ix hu (q_ix hu (q_ix hu (q_n n1) q_str) (q_n n3)) (q_neg q_int)) (q_ix hu (q_ix hu (q_n n1) q_str) (q_n n3)))) (qz_one (qs_if (qt_w (qw_or (qt_cmp hu (q_meth (ok_Disk_read T) T.cl_Disk (hr.mono (by decide)) (q_n n0) (qa_cons (q_n n3) qa_nil)) (q_n n5)) (qw_or1 (qt_cmp hu (q_meth (ok_Disk_lying T) T.cl_Disk (hr.mono (by decide)) (q_n n0) (qa_cons (q_n n3) qa_nil)) (q_ix hu (q_ix hu (q_n n1) q_str) (q_n n3)))))) (qz_one (qs_ret q_bl)) qz_nil))) po) (qz_one (qs_ret q_bl))))), ?_⟩
  clear nd hu po a3 a4 n0 n1 n2 n3 n5
  obtain ⟨p, l, w, q, l2, w2, d, k, ns, rfl, hd, hb, hk, hn, hl, qq⟩ := h
  have hw := hk.w
  have a1 := hd.1
  have b1 : _ = some (MO.dk (bkD l2 w2 k d.re)) := hb.1
  have b2 : _ = some (MO.lst d.ly) := hb.2.1
  have b3 : _ = some (MO.dk d.wa) := hb.2.2.1
  walk_at "g"
  intro r S1 hr e1 f1
  have c1 := f1 _ _ b1 (by simp)
  have c3 := f1 _ _ b3 (by simp)
  obtain ⟨⟨n1, n2, n3⟩, n4, n5, n6⟩ := hb.ne
  refine ⟨w2, d.wa, c3, fun od vs => ?_⟩
  walk_at "g"
  have hkl := keys_len hw
  have hsm := hw.sm
  refine rLc.pure (fun _ => true) (fun d => match d with | .tup [k, .fl xs] => .tup [k, .int xs.length] | d => d) (by unfold itemsD; rw [List.length_map, sizeLine_eq]; omega) (fun Dl acc hDl => by rw [sup_ne (fun e => by rw [← e, sup_same] at hDl; cases hDl)]; exact sup_same) (fun x S' hx ext => ?_) fun Dl hDl => ?_
  · obtain ⟨y, hy, rfl⟩ := List.mem_map.mp hx
    obtain ⟨b, z, zs, rfl, _, _⟩ := hw.va y hy
    walk_at "g"
    exact ⟨fun Q q => q, fun _ Q q => by walk_at "g"; exact q⟩
  · have e4 : ((itemsD d.wa).filter fun _ => true).map (fun d => match d with | .tup [k, .fl xs] => .tup [k, .int xs.length] | d => d) = itemsD (d.wa.map fun p => (p.1, D.int (lenV p.2))) := by
      rw [filt_true]
      unfold itemsD
      rw [List.map_map, List.map_map]
      refine List.map_congr_left fun y hy => ?_
      obtain ⟨b, z, zs, rfl, _, _⟩ := hw.va y hy
      rfl
    have nd : ((d.wa.map fun p => (p.1, D.int (lenV p.2))).map (·.1)).Nodup := by rw [List.map_map]; exact hw.nd
    rw [e4]
    refine ⟨sup_same, .inr ⟨_, .inl rfl, nd, fun r2 hr2 => ?_⟩⟩
    have m1 : r2 ≠ w2 := fun e => by rw [e, sup_same] at hr2; cases hr2
    rw [sup_ne m1, sup_ne m1] at hr2
    have m2 : r ≠ r2 := fun e => by rw [← e, e1] at hr2; cases hr2
    have m3 : r ≠ w2 := fun e => by rw [e, b3] at hr; cases hr
    refine .inr ⟨_, r2, _, rfl, by walk_at "at", sup_same, rfl, fun y hy => ⟨getK_of_mem nd hy, by obtain ⟨z, hz, rfl⟩ := List.mem_map.mp hy; rfl⟩, ?_⟩
    walk_at "g"
    have f2 : Fr [] S (sup (sup (sup S1 w2 (.fdk od vs d.wa)) w2 (.dk d.wa)) r2 (.dk (d.wa.map fun p => (p.1, D.int (lenV p.2))))) := f1.trans (Fr.newer (Fr.back (by walk_at "fr") c3) hr2)
    generalize sup (sup (sup S1 w2 (.fdk od vs d.wa)) w2 (.dk d.wa)) r2 (.dk (d.wa.map fun p => (p.1, D.int (lenV p.2)))) = S2 at f2 ⊢
    clear e1 f1 c1 c3 hDl hr2
    have hd := hd.fr f2 (by simp) (by simp) (by simp)
    have hb := hb.fr f2 (by simp) (by simp) (by simp)
    have a1 := hd.1
    have b1 : _ = some (MO.dk (bkD l2 w2 k d.re)) := hb.1
    have b2 : _ = some (MO.lst d.ly) := hb.2.1
    have b3 : _ = some (MO.dk d.wa) := hb.2.2.1
    refine ⟨fun r ρ' S' => S' = S2 ∧ ∃ ms : List Int, ∃ o3 o5 : Option D, r = ms.map D.int ∧ (∀ n : Int, n ∈ ms → 0 ≤ n ∧ n < d.ly.length) ∧ ρ' = [some (.ref p), some (.ref q), some (.fl (ns.map D.int)), o3, none, o5], ⟨rfl, ns, none, none, rfl, hn, rfl⟩, fun _ _ _ _ => trivial, ?_, ?_⟩
    · rintro x r' ρ' S' ⟨rfl, ms, o3, o5, e, hm, rfl⟩
      cases ms with
      | nil => cases e
      | cons n ms =>
        cases e
        obtain ⟨h1, h2⟩ := hm n List.mem_cons_self
        have k1 := hk.v.read hw h1 h2
        have k2 := hk.v.lyAt h1 h2
        have k3 := atI_ly h1 h2
        have fin : ∀ o : Option D, ∃ ms' : List Int, ∃ o3 o5 : Option D, ms.map D.int = ms'.map D.int ∧ (∀ n : Int, n ∈ ms' → 0 ≤ n ∧ n < d.ly.length) ∧ [some (.ref p), some (.ref q), some (.fl (ns.map D.int)), some (.int n), none, o] = [some (.ref p), some (.ref q), some (.fl (ns.map D.int)), o3, none, o5] := fun o => ⟨ms, _, _, rfl, fun n hn => hm n (List.mem_cons_of_mem _ hn), rfl⟩
        walk_at "g"
        refine ite2' (fun h => ?_) (fun h => ?_)
        · obtain ⟨y, ys, g1, g2, _, _, _⟩ := hw.row h
          have er : (y :: ys).getLastD .non = d.read n := by unfold DM.read; rw [if_pos h, g2]
          walk_at "g"
          rw [er]
          walk_at "g"
          exact fin _
        · have er : (d.ly[n.toNat]?).getD .non = d.read n := by unfold DM.read; rw [if_neg (by rw [h]; exact Bool.false_ne_true)]
          walk_at "g"
          rw [er]
          walk_at "g"
          exact fin _
    · rintro ρ' S' ⟨rfl, ms, o3, o5, e, hm, rfl⟩
      cases ms with
      | cons n ms => cases e
      | nil => exact qq _ f2

end K02

namespace K02
open PySem L2 DP
local macro_rules | `(tactic| walk_at "v") => `(tactic| dsimp only [startD, k_nt, k_nf, k_ta, k_fa, k_to, k_fo, Int.reduceToNat, List.set, wipeD, k_p6, k_p16, k_p17, k_p18, k_p30, Bool.not_true, Bool.not_false, Bool.and_true, Bool.true_and, Bool.and_false, Bool.false_and, Bool.or_true, Bool.true_or, Bool.or_false, Bool.false_or, List.map, fnC_DX, List.length_cons, List.length_nil, k_rv0, k_rv1, k_rv2, k_rbl, k_rint, k_rI2, k_badd, k_bSub, k_bMult, k_bFloorDiv, k_bMod, k_bPow, k_addi, k_addt, k_addf, k_itm, k_ceq, k_cne, k_cis, k_cisn, k_cin, k_cnin, k_ciLt, k_csLt, k_ciLtE, k_csLtE, k_ciGt, k_csGt, k_ciGtE, k_csGtE, k_eqi, k_eqs, k_eqb, k_isn, k_isb, k_keyi, k_keys, k_ins, k_int, k_inf, k_tru0, k_tru1, k_tru2, k_tru3, k_tru4, k_tru5, k_ipa, k_ips, k_cons, k_cons2, k_cons3, k_tup, k_seqf, k_seqt, k_seqs, k_rfl, k_patn, k_patt, k_setN0, k_setN1, k_ixt, k_ixf, k_ixs, k_opt0, k_opt1, k_slt, k_slf, k_sls, k_rev, k_r1, k_r2, k_lent, k_lenf, k_lens, k_abs, k_min, k_max, k_int1, k_lstt, k_lstf, k_lstMt, k_lstMf, k_tupt, k_tupf, k_bls, k_sum, k_rcL, k_rcS, isI_non, isI_bl, isI_int, isI_str, isI_tup, isI_fl, isI_ref, isB_non, isB_bl, isB_int, isB_str, isB_tup, isB_fl, isB_ref, isS_non, isS_bl, isS_int, isS_str, isS_tup, isS_fl, isS_ref, isT_non, isT_bl, isT_int, isT_str, isT_tup, isT_fl, isT_ref, isInt_non, isInt_bl, isInt_int, isInt_str, isInt_tup, isInt_fl, isInt_ref, isNon_non, isNon_bl, isNon_int, isNon_str, isNon_tup, isNon_fl, isNon_ref, isLs_non, isLs_bl, isLs_int, isLs_str, isLs_tup, isLs_fl, isDc_non, isDc_bl, isDc_int, isDc_str, isDc_tup, isDc_fl])
local macro_rules | `(tactic| walk_at "lk") => `(tactic| rfl)
local macro_rules | `(tactic| walk_at "sz") => `(tactic| first | assumption | (simp only [List.length_cons, List.length_nil]; decide) | omega)
local macro_rules | `(tactic| walk_at "at") => `(tactic| first | assumption | exact sup_same | (refine sup_at (by assumption) ?_; walk_at "at"))
local macro_rules | `(tactic| walk_at "sp") => `(tactic| fail)
local macro_rules | `(tactic| walk_at "s") => `(tactic| first
  | (with_reducible refine iteT ?_)
  | (with_reducible refine iteF ?_)
  | ((with_reducible refine And.intro ?_ ?_); (focus (first | with_reducible exact kn_int | with_reducible exact kn_str | with_reducible exact kn_tup | with_reducible exact kn_fl | with_reducible exact kn_bl | with_reducible exact kn_non | with_reducible assumption)))
  | ((with_reducible apply m_ixl); (focus (walk_at "at")); (focus rfl))
  | ((with_reducible apply m_ixl'); (focus (walk_at "at")); (focus (assumption)))
  | ((with_reducible apply m_ixki); (focus (walk_at "at")); (focus (assumption)))
  | ((with_reducible apply m_ixks); (focus (walk_at "at")); (focus (first | assumption | walk_at "lk")))
  | ((with_reducible apply m_stl); (focus (walk_at "at")); (focus rfl))
  | ((with_reducible apply m_stki); (focus (walk_at "at")); (focus (walk_at "sz")))
  | ((with_reducible apply m_stks); (focus (walk_at "at")); (focus (walk_at "sz")))
  | ((with_reducible apply m_itm); (focus (walk_at "at")))
  | ((with_reducible apply m_seq); (focus (walk_at "at")))
  | ((with_reducible apply m_lenl); (focus (walk_at "at")))
  | ((with_reducible apply m_lenk); (focus (walk_at "at")))
  | ((with_reducible apply m_ls); (focus (walk_at "at")))
  | ((with_reducible apply m_dk); (focus (walk_at "at")))
  | ((with_reducible apply m_rcL); (focus (walk_at "at")))
  | ((with_reducible apply m_rcD); (focus (walk_at "at")))
  | ((with_reducible apply m_trul); (focus (walk_at "at")))
  | ((with_reducible apply m_truk); (focus (walk_at "at")))
  | ((with_reducible apply m_inki); (focus (walk_at "at")))
  | ((with_reducible apply m_inks); (focus (walk_at "at")))
  | ((with_reducible apply m_fld); (focus (walk_at "at")); (focus (walk_at "lk")))
  | ((with_reducible apply m_put); (focus (walk_at "at")); (focus (walk_at "sz")))
  | ((with_reducible apply m_get1); (focus (walk_at "at")))
  | ((with_reducible apply m_get2); (focus (walk_at "at")))
  | ((with_reducible apply m_pop1); (focus (walk_at "at")))
  | ((with_reducible apply m_pop2); (focus (walk_at "at")))
  | ((with_reducible show ∃ d, atI _ _ = some d ∧ _); refine ⟨_, rfl, ?_⟩)
  | ((with_reducible show ∃ d, some _ = some d ∧ _); refine ⟨_, rfl, ?_⟩)
  | (with_reducible refine And.intro rfl ?_)
  | walk_at "sp")
local macro_rules | `(tactic| walk_at "g") => `(tactic| repeat (first | walk_at "v" | walk_at "s"))
local macro_rules | `(tactic| walk_at "ar") => `(tactic| first
  | ((with_reducible show IntMulOk _ _ ∧ _); refine And.intro (by first | exact mul_small (by omega) (by omega) | exact mulok_r (by omega) (by omega)) ?_)
  | ((with_reducible show CDivW _ _ ∧ _); refine And.intro (div_small (by omega) (by omega)) ?_)
  | ((with_reducible show CPow _ _ ∧ _); refine And.intro (by unfold CPow; decide) ?_)
  | ((with_reducible show 0 < _ ∧ _); refine And.intro (by omega) ?_)
  | ((with_reducible show (-(2 ^ 62) ≤ _ ∧ _ < 2 ^ 62) ∧ _); refine And.intro ⟨by omega, by omega⟩ ?_)
  | ((with_reducible show (-(2 ^ 62) ≤ _ ∧ _ < 2 ^ 62 ∧ -(2 ^ 62) ≤ _ ∧ _ < 2 ^ 62) ∧ _); refine And.intro ⟨by omega, by omega, by omega, by omega⟩ ?_))
local macro_rules | `(tactic| walk_at "g") => `(tactic| repeat (first | walk_at "v" | walk_at "s" | walk_at "ar"))
local macro_rules | `(tactic| walk_at "fr") => `(tactic| first | exact Fr.refl | assumption | (apply Fr.putr; rotate_left; (focus (simp; done)); walk_at "fr") | (refine Fr.newer ?_ (by assumption); walk_at "fr"))

variable {P : Program} {w : World} {K : PySem.W.Frag} {mg : Str → Option Value} {base : Heap} {A : CA}
local macro_rules | `(tactic| walk_at "s") => `(tactic| ((with_reducible refine And.intro ?_ ?_); (focus (first | with_reducible exact knx_int | with_reducible exact knx_str | with_reducible exact knx_tup | with_reducible exact knx_fl | with_reducible exact knx_bl | with_reducible exact knx_non))))
local macro_rules | `(tactic| walk_at "sp") => `(tactic| ((with_reducible show sp_is_integer _ _ _ _ _); refine ⟨_, rfl, by first | exact knx_int | exact knx_str | exact knx_tup | exact knx_fl | exact knx_bl | exact knx_non | assumption, ?_⟩))
local macro_rules | `(tactic| walk_at "sp") => `(tactic| ((with_reducible show sp_is_within _ _ _ _ _); refine ⟨_, _, _, rfl, by first | exact knx_int | exact knx_str | exact knx_tup | exact knx_fl | exact knx_bl | exact knx_non | assumption, ?_⟩))
local macro_rules | `(tactic| walk_at "sp") => `(tactic| ((with_reducible show sp_L_draw _ _ _ _ _); refine ⟨_, _, rfl, by assumption, by omega, by omega, ?_⟩))
local macro_rules | `(tactic| walk_at "lk") => `(tactic| first | exact lk_l | exact lk_w | exact lk_p | exact lk_r | rfl)
local macro_rules | `(tactic| walk_at "sp") => `(tactic| ((with_reducible apply m_put_w); (focus (walk_at "at"))))
local macro_rules | `(tactic| walk_at "sp") => `(tactic| ((with_reducible apply m_put_p); (focus (walk_at "at"))))
local macro_rules | `(tactic| walk_at "sp") => `(tactic| ((with_reducible apply m_put_r); (focus (walk_at "at"))))
local macro_rules | `(tactic| walk_at "sz") => `(tactic| (rw [sizeLine_eq]; omega))
local macro_rules | `(tactic| walk_at "sp") => `(tactic| ((with_reducible apply m_fdk); (focus (walk_at "at"))))
local macro_rules | `(tactic| walk_at "sp") => `(tactic| ((with_reducible apply m_meth); (focus (walk_at "at")); (focus (kernel_rfl))))
local macro_rules | `(tactic| walk_at "sp") => `(tactic| ((with_reducible apply m_aug); (focus (walk_at "at")); (focus (walk_at "lk"))))
local macro_rules | `(tactic| walk_at "sp") => `(tactic| ((with_reducible apply m_aug2); (focus (walk_at "at")); (focus (show 4 < 1000; decide))))
local macro_rules | `(tactic| walk_at "sp") => `(tactic| first | rw [pt_p] | rw [pt_w] | rw [pt_r])
local macro_rules | `(tactic| walk_at "sp") => `(tactic| ((with_reducible show sp_is_item _ _ _ _ _); refine ⟨_, rfl, by assumption, ?_⟩))
local macro_rules | `(tactic| walk_at "sp") => `(tactic| ((with_reducible show sp_are_items _ _ _ _ _); refine ⟨_, _, rfl, by first | exact knx_tup | assumption, by assumption, ?_⟩))
local macro_rules | `(tactic| walk_at "sp") => `(tactic| ((with_reducible show sp_Disk_check_block _ _ _ _ _); refine ⟨_, _, _, _, _, rfl, by assumption, by assumption, ?_, ?_⟩))
local macro_rules | `(tactic| walk_at "sp") => `(tactic| ((with_reducible show sp_are_items _ _ _ _ _); refine ⟨_, _, rfl, by assumption, by assumption, ?_⟩))
local macro_rules | `(tactic| walk_at "s") => `(tactic| ((with_reducible show ∃ d, atI _ (-1) = some d ∧ _); refine ⟨_, atI_last (by first | assumption | simp), ?_⟩))
local macro_rules | `(tactic| walk_at "s") => `(tactic| ((with_reducible show ∃ d, atI (_ :: _) 0 = some d ∧ _); refine ⟨_, atI_zero, ?_⟩))
local macro_rules | `(tactic| walk_at "s") => `(tactic| ((with_reducible show ∃ v, getK _ _ = some v ∧ _); refine ⟨_, (by assumption), ?_⟩))
local macro_rules | `(tactic| walk_at "s") => `(tactic| ((with_reducible apply m_stl); (focus (walk_at "at")); (focus (assumption))))
local macro_rules | `(tactic| walk_at "sp") => `(tactic| ((with_reducible show sp_Disk_reach_one _ _ _ _ _); refine ⟨_, _, _, _, _, rfl, by assumption, by assumption, by assumption, ?_, ?_⟩))
local macro_rules | `(tactic| walk_at "sp") => `(tactic| ((with_reducible show sp_is_lot _ _ _ _ _); refine ⟨_, _, rfl, by assumption, by assumption, ?_⟩))
local macro_rules | `(tactic| walk_at "sp") => `(tactic| ((with_reducible show sp_L_any _ _ _ _ _); refine ⟨_, _, _, rfl, by first | exact IsL.fl | assumption, by first | assumption | (intro e; cases e; done), by first | assumption | simp, by first | omega | (simp only [List.length_cons, List.length_nil]; omega), by assumption, ?_⟩))
local macro_rules | `(tactic| walk_at "lk") => `(tactic| first | exact gk_l | exact gk_w | exact gk_p | exact gk_r)
local macro_rules | `(tactic| walk_at "s") => `(tactic| ((with_reducible apply m_bput_w); (focus (walk_at "at"))))
local macro_rules | `(tactic| walk_at "s") => `(tactic| ((with_reducible apply m_bput_p); (focus (walk_at "at"))))
local macro_rules | `(tactic| walk_at "s") => `(tactic| ((with_reducible apply m_bput_r); (focus (walk_at "at"))))
local macro_rules | `(tactic| walk_at "sp") => `(tactic| ((with_reducible show sp_L_reached _ _ _ _ _); refine ⟨_, _, _, _, _, rfl, by assumption, by assumption, by assumption, ?_, ?_⟩))
local macro_rules | `(tactic| walk_at "sp") => `(tactic| ((with_reducible show sp_Disk_blocks _ _ _ _ _); refine ⟨_, _, _, _, rfl, by assumption, ?_⟩))
local macro_rules | `(tactic| walk_at "sp") => `(tactic| ((with_reducible show sp_Disk_reached _ _ _ _ _); refine ⟨_, _, _, _, rfl, by assumption, ?_⟩))
local macro_rules | `(tactic| walk_at "sp") => `(tactic| ((with_reducible show sp_Disk_waiting _ _ _ _ _); refine ⟨_, _, _, _, rfl, by assumption, by assumption, ?_⟩))
local macro_rules | `(tactic| walk_at "sp") => `(tactic| ((with_reducible show sp_Disk_read _ _ _ _ _); refine rd_i (by assumption) (by assumption) (by assumption) (by assumption) ?_))
local macro_rules | `(tactic| walk_at "sp") => `(tactic| ((with_reducible show sp_Disk_lying _ _ _ _ _); refine ly_i (by assumption) (by assumption) (by assumption) ?_))
local macro_rules | `(tactic| walk_at "sp") => `(tactic| rw [k_selfi])
local macro_rules | `(tactic| walk_at "s") => `(tactic| ((with_reducible apply m_eqc); (focus (assumption))))
theorem sIx_nY (n d k : Nat) : HT.sIx n d (some (k : Int)) = min k n := HT.sIx_nat n d k
theorem cutD_preY {xs : List D} {n : Nat} : cutD xs none (some (n : Int)) = xs.take n := by
  unfold cutD
  rw [sIx_nY, HT.sIx_none, List.drop_zero, Nat.sub_zero]
  by_cases h : n ≤ xs.length
  · rw [Nat.min_eq_left h]
  · rw [Nat.min_eq_right (by omega), List.take_of_length_le (by omega), List.take_of_length_le (by omega)]
theorem cutD_sufY {xs : List D} {n : Nat} : cutD xs (some (n : Int)) none = xs.drop n := by
  unfold cutD
  rw [sIx_nY, HT.sIx_none]
  by_cases h : n ≤ xs.length
  · rw [Nat.min_eq_left h, List.take_of_length_le (by rw [List.length_drop]; omega)]
  · rw [Nat.min_eq_right (by omega), List.drop_of_length_le (by omega), List.drop_of_length_le (by omega)]; simp
def strsL : List Str := ["", "a", "abcdefghijkl", "0", "A", "a b", "1", "abcdefghijklm"]
/-- a thing that no store is needed for -/
def Pure1 (y : D) : Prop := (∀ S, Kn S y) ∧ ∀ s, y = .str s → s ∈ strsL
theorem pu_int {i : Int} : Pure1 (.int i) := ⟨fun _ => kn_int, fun s e => by cases e⟩
theorem pu_bl {i : Bool} : Pure1 (.bl i) := ⟨fun _ => kn_bl, fun s e => by cases e⟩
theorem pu_non : Pure1 .non := ⟨fun _ => kn_non, fun s e => by cases e⟩
theorem pu_tup {xs : List D} : Pure1 (.tup xs) := ⟨fun _ => kn_tup, fun s e => by cases e⟩
theorem pu_fl {xs : List D} : Pure1 (.fl xs) := ⟨fun _ => kn_fl, fun s e => by cases e⟩
theorem pu_str {s : Str} (h : s ∈ strsL) : Pure1 (.str s) := ⟨fun _ => kn_str, fun s e => by cases e; exact h⟩
/-- a drawn thing: the object p, one that no store is needed for, or a dict out of the way -/
def Th (S : SS) (p : Addr) (F : List Addr) (y : D) : Prop := y = .ref p ∨ Pure1 y ∨ ∃ a kvs, y = .ref a ∧ S a = some (.dk kvs) ∧ a ∉ F
def ThT (S : SS) (p : Addr) (F : List Addr) (y : D) : Prop := Th S p F y ∧ ∀ xs, y = .tup xs → xs.length ≤ 60 ∧ ∀ z ∈ xs, Th S p F z
section
variable {S S' : SS} {p C : Addr} {F F' : List Addr} {y x : D} {fs : List (Str × D)}
theorem Th.fr (h : Th S p F y) (f : Fr F' S S') (m : ∀ a ∈ F', a ∈ F) : Th S' p F y := by
  rcases h with h | h | ⟨a, kvs, rfl, h, n⟩
  · exact .inl h
  · exact .inr (.inl h)
  · exact .inr (.inr ⟨a, kvs, rfl, f _ _ h fun z => n (m _ z), n⟩)
theorem ThT.fr (h : ThT S p F y) (f : Fr F' S S') (m : ∀ a ∈ F', a ∈ F) : ThT S' p F y := ⟨h.1.fr f m, fun xs e => ⟨(h.2 xs e).1, fun z hz => ((h.2 xs e).2 z hz).fr f m⟩⟩
theorem Th.knx (h : Th S p F y) (hp : S p = some (.ins C fs)) : KnX C S y := by
  rcases h with rfl | h | ⟨a, kvs, rfl, h, n⟩
  · exact .inr ⟨p, fs, rfl, hp⟩
  · exact .inl (h.1 S)
  · exact .inl (by show (match S a with | some (.lst _) => some "list" | some (.dk _) => some "dict" | some (.dt _) => some "dict" | _ => none).isSome = true; rw [h]; rfl)
theorem strs_len : ∀ s ∈ strsL, s.length ≤ 100 := by decide +kernel
theorem Th.str (h : Th S p F y) : ∀ s, y = .str s → s ∈ strsL := fun s e => by
  subst e
  rcases h with h | h | ⟨a, kvs, h, _⟩
  · cases h
  · exact h.2 s rfl
  · cases h
theorem Th.okx (h : Th S p F y) (hp : S p = some (.ins C fs)) : OkX C S y := ⟨h.knx hp, fun s e => by have := strs_len s (h.str s e); rw [sizeLine_eq]; omega⟩
theorem strs_low : ∀ s ∈ strsL, itemB (.str s) = true → s = "" ∨ s = "a" ∨ s = "abcdefghijkl" := by decide +kernel
theorem Th.citem (h : Th S p F y) (e : itemB y = true) : CItem y := by
  cases y with
  | int i =>
    have e : (decide (-1000000000000000000000000000000 ≤ i) && decide (i ≤ 1000000000000000000000000000000)) = true := e
    rw [Bool.and_eq_true, decide_eq_true_iff, decide_eq_true_iff] at e
    exact .inl ⟨i, rfl, e⟩
  | str s =>
    rcases strs_low s (h.str s rfl) e with rfl | rfl | rfl
    · exact .inr (.inl rfl)
    · exact .inr (.inr (.inl rfl))
    · exact .inr (.inr (.inr rfl))
  | _ => cases e
theorem ThT.cnt (h : ThT S p F x) (e : itemsB x 40 = true) : Cnt x := by
  cases x with
  | tup xs =>
    have e : (decide ((xs.length : Int) ≤ 40) && xs.all itemB) = true := e
    rw [Bool.and_eq_true, decide_eq_true_iff, List.all_eq_true] at e
    exact ⟨xs, rfl, by omega, fun y hy => ((h.2 xs rfl).2 y hy).citem (e.2 y hy)⟩
  | _ => cases e
theorem ThT.items (h : ThT S p F x) (hp : S p = some (.ins C fs)) : ∀ xs, x = .tup xs → xs.length < sizeLine ∧ ∀ y ∈ xs, OkX C S y := fun xs e => ⟨by have := (h.2 xs e).1; rw [sizeLine_eq]; omega, fun y hy => ((h.2 xs e).2 y hy).okx hp⟩
theorem ThT.knxs (h : ThT S p F x) (hp : S p = some (.ins C fs)) : ∀ xs, x = .tup xs → ∀ y ∈ xs, KnX C S y := fun xs e y hy => ((h.2 xs e).2 y hy).knx hp
theorem citem_pure (h : CItem y) : Pure1 y := by
  rcases h with ⟨i, rfl, _⟩ | rfl | rfl | rfl
  · exact pu_int
  · exact pu_str (by decide)
  · exact pu_str (by decide)
  · exact pu_str (by decide)
end
def sp_L_is_int (A : CA) : DSp := fun ds S Q _ => ∃ x a b, ds = [x, .int a, .int b] ∧ KnX A.cDisk S x ∧ Q (.bl (inR x a b)) S
theorem ok_L_is_int (T : Top K mg A) : Fn P w K mg A.base 1 "_law_is_int" (sp_L_is_int A) := by
  obtain ⟨f, fd, hm, F⟩ := T.f_L_is_int
  refine fn_mk F hm (F.binds fun _ _ _ _ _ _ us hl => match us, hl with | [_, _, _], _ => by kernel_rfl) sc_L_is_int (fun ds S Q E h => by repeat (first | (obtain ⟨e, _⟩ := h; subst e; rfl) | (obtain ⟨_, h⟩ := h))) fun cdv A' outer s H E Ed ds S Q hr h => ?_
  have nd : (fnC P w K mg A.base ["_law_thing", "_law_least", "_law_most"] "_law_is_int" s_L_is_int f cdv A' outer s H E Ed).X.N.Nodup := sc_L_is_int.nd
  have n0 : Nm (fnC P w K mg A.base ["_law_thing", "_law_least", "_law_most"] "_law_is_int" s_L_is_int f cdv A' outer s H E Ed) 0 "_law_thing" := ⟨rfl, by first | exact .inl rfl | exact .inr rfl, .inl rfl, by decide +kernel, by decide +kernel⟩
  have n1 : Nm (fnC P w K mg A.base ["_law_thing", "_law_least", "_law_most"] "_law_is_int" s_L_is_int f cdv A' outer s H E Ed) 1 "_law_least" := ⟨rfl, by first | exact .inl rfl | exact .inr rfl, .inl rfl, by decide +kernel, by decide +kernel⟩
  have n2 : Nm (fnC P w K mg A.base ["_law_thing", "_law_least", "_law_most"] "_law_is_int" s_L_is_int f cdv A' outer s H E Ed) 2 "_law_most" := ⟨rfl, by first | exact .inl rfl | exact .inr rfl, .inl rfl, by decide +kernel, by decide +kernel⟩
  have hu : Un (fnC P w K mg A.base ["_law_thing", "_law_least", "_law_most"] "_law_is_int" s_L_is_int f cdv A' outer s H E Ed) := un_of hr
  refine qz_go (c := (fnC P w K mg A.base ["_law_thing", "_law_least", "_law_most"] "_law_is_int" s_L_is_int f cdv A' outer s H E Ed)) ?_
  refine ⟨_, (qz_one (qs_ret (q_and (q_isiX T.ix_Disk (by decide) (fun _ x => isI x) (fun _ _ _ => cd_isI) (hzf fun _ => rfl) T.b_isinstance T.b_int bt_int (q_n n0)) (q_and (q_not (q_isiX T.ix_Disk (by decide) (fun _ x => isB x) (fun _ _ _ => cd_isB) (hzf fun _ => rfl) T.b_isinstance T.b_bool bt_bool (q_n n0))) (q_one (q_chain hu (q_n n1) (q_n n0) (q_n n2))))))), ?_⟩
  clear nd hu n0 n1 n2
  obtain ⟨x, a, b, rfl, hk, q⟩ := h
  cases x with
  | int i =>
    have e : inR (.int i) a b = (decide (a ≤ i) && decide (i ≤ b)) := rfl
    rw [e] at q
    walk_at "g"
    refine iteD (fun h1 => ?_) (fun h1 => ?_)
    · rw [decide_eq_true h1, Bool.true_and] at q; walk_at "g"; exact q
    · rw [decide_eq_false h1, Bool.false_and] at q; exact q
  | _ => walk_at "g"; exact q

local macro_rules | `(tactic| walk_at "sp") => `(tactic| ((with_reducible show sp_L_is_int _ _ _ _ _); refine ⟨_, _, _, rfl, by first | exact knx_int | assumption, ?_⟩))
def firstW : List (Str × Bool) → Str
  | [] => "let"
  | (w, b) :: r => if b = true then firstW r else w
def notD : D → Bool
  | .tup [_, .bl b] => !b
  | _ => false
def wdD : D → D
  | .tup [w, _] => w
  | _ => .non
theorem first_at : ∀ ps : List (Str × Bool), atI ((((ps.map fun q => D.tup [.str q.1, .bl q.2]).filter notD).map wdD) ++ [.str "let"]) 0 = some (.str (firstW ps))
  | [] => rfl
  | (w, true) :: r => first_at r
  | (w, false) :: r => by show atI (D.str w :: _) 0 = some (.str w); exact atI_zero
def sp_L_first (_A : CA) : DSp := fun ds S Q _ => ∃ ps : List (Str × Bool), ds = [.fl (ps.map fun q => D.tup [.str q.1, .bl q.2])] ∧ ps.length ≤ 10 ∧ Q (.str (firstW ps)) S
theorem ok_L_first (T : Top K mg A) : Fn P w K mg A.base 1 "_law_first" (sp_L_first A) := by
  obtain ⟨f, fd, hm, F⟩ := T.f_L_first
  refine fn_mk F hm (F.binds fun _ _ _ _ _ _ us hl => match us, hl with | [_], _ => by kernel_rfl) sc_L_first (fun ds S Q E h => by repeat (first | (obtain ⟨e, _⟩ := h; subst e; rfl) | (obtain ⟨_, h⟩ := h))) fun cdv A' outer s H E Ed ds S Q hr h => ?_
  have nd : (fnC P w K mg A.base ["_law_pairs", "_law_word_here", "_law_is_right"] "_law_first" s_L_first f cdv A' outer s H E Ed).X.N.Nodup := sc_L_first.nd
  have n0 : Nm (fnC P w K mg A.base ["_law_pairs", "_law_word_here", "_law_is_right"] "_law_first" s_L_first f cdv A' outer s H E Ed) 0 "_law_pairs" := ⟨rfl, by first | exact .inl rfl | exact .inr rfl, .inl rfl, by decide +kernel, by decide +kernel⟩
  have a1 : (fnC P w K mg A.base ["_law_pairs", "_law_word_here", "_law_is_right"] "_law_first" s_L_first f cdv A' outer s H E Ed).X.N[1]? = some ("_law_word_here" : Str) := rfl
  have a2 : (fnC P w K mg A.base ["_law_pairs", "_law_word_here", "_law_is_right"] "_law_first" s_L_first f cdv A' outer s H E Ed).X.N[2]? = some ("_law_is_right" : Str) := rfl
  have hu : Un (fnC P w K mg A.base ["_law_pairs", "_law_word_here", "_law_is_right"] "_law_first" s_L_first f cdv A' outer s H E Ed) := un_of hr
  refine qz_go (c := (fnC P w K mg A.base ["_law_pairs", "_law_word_here", "_law_is_right"] "_law_first" s_L_first f cdv A' outer s H E Ed)) ?_
  refine ⟨_, (qz_one (qs_ret (q_ix hu (q_bin (q_lc (.t [1, 2]) [("_law_word_here", 1), ("_law_is_right", 2)] nd (qi_seq (q_n n0)) (lcT_2 nd rfl a1 a2 (fun _ _ => .inl rfl) (fun _ _ => rfl) (fun _ _ => .inl rfl) (fun _ _ => rfl)) (qts_one fun _ _ _ _ _ => (qt_not (qt_tru (q_bn a2 (by first | exact .inl rfl | exact .inr (.inl rfl) | exact .inr (.inr rfl)))))) ⟨fun _ _ _ _ _ => (q_bn a1 (by first | exact .inl rfl | exact .inr (.inl rfl) | exact .inr (.inr rfl)))⟩) (q_lst (qa_cons q_str qa_nil))) q_int))), ?_⟩
  clear nd hu a1 a2 n0
  obtain ⟨ps, rfl, hl, q⟩ := h
  walk_at "g"
  refine rLc.pure notD wdD (by rw [List.length_map, sizeLine_eq]; omega) (fun _ _ _ => trivial) (fun d S' hx ext => ?_) fun Dl hn => ?_
  · obtain ⟨y, hy, rfl⟩ := List.mem_map.mp hx
    walk_at "g"
    refine ⟨fun Q q => ?_, fun _ Q q => ?_⟩
    · walk_at "g"
      exact q
    · walk_at "g"
      exact q
  · walk_at "g"
    have := List.length_filter_le notD (ps.map fun q => D.tup [.str q.1, .bl q.2])
    rw [List.length_map] at this
    exact ⟨by rw [List.length_map, sizeLine_eq]; omega, _, first_at ps, q⟩
def nameB (a : Int) : D → Bool
  | .str s => (decide (a ≤ (s.length : Int)) && decide ((s.length : Int) ≤ 12)) && lowB s
  | _ => false
def sp_L_is_name (A : CA) : DSp := fun ds S Q _ => ∃ x a, ds = [x, .int a] ∧ OkX A.cDisk S x ∧ Q (.bl (nameB a x)) S
theorem ok_L_is_name (T : Top K mg A) : Fn P w K mg A.base 1 "_law_is_name" (sp_L_is_name A) := by
  obtain ⟨f, fd, hm, F⟩ := T.f_L_is_name
  refine fn_mk F hm (F.binds fun _ _ _ _ _ _ us hl => match us, hl with | [_, _], _ => by kernel_rfl) sc_L_is_name (fun ds S Q E h => by repeat (first | (obtain ⟨e, _⟩ := h; subst e; rfl) | (obtain ⟨_, h⟩ := h))) fun cdv A' outer s H E Ed ds S Q hr h => ?_
  have nd : (fnC P w K mg A.base ["_law_thing", "_law_least", "_law_sign"] "_law_is_name" s_L_is_name f cdv A' outer s H E Ed).X.N.Nodup := sc_L_is_name.nd
  have n0 : Nm (fnC P w K mg A.base ["_law_thing", "_law_least", "_law_sign"] "_law_is_name" s_L_is_name f cdv A' outer s H E Ed) 0 "_law_thing" := ⟨rfl, by first | exact .inl rfl | exact .inr rfl, .inl rfl, by decide +kernel, by decide +kernel⟩
  have n1 : Nm (fnC P w K mg A.base ["_law_thing", "_law_least", "_law_sign"] "_law_is_name" s_L_is_name f cdv A' outer s H E Ed) 1 "_law_least" := ⟨rfl, by first | exact .inl rfl | exact .inr rfl, .inl rfl, by decide +kernel, by decide +kernel⟩
  have a2 : (fnC P w K mg A.base ["_law_thing", "_law_least", "_law_sign"] "_law_is_name" s_L_is_name f cdv A' outer s H E Ed).X.N[2]? = some ("_law_sign" : Str) := rfl
  have hu : Un (fnC P w K mg A.base ["_law_thing", "_law_least", "_law_sign"] "_law_is_name" s_L_is_name f cdv A' outer s H E Ed) := un_of hr
  refine qz_go (c := (fnC P w K mg A.base ["_law_thing", "_law_least", "_law_sign"] "_law_is_name" s_L_is_name f cdv A' outer s H E Ed)) ?_
  refine ⟨_, 
    (qz_cons (qs_if (qt_w (qw_or (qt_not (qt_tru (q_isiX T.ix_Disk (by decide) (fun _ x => isS x) (fun _ _ _ => cd_isS) (hzf fun _ => rfl) T.b_isinstance T.b_str bt_str (q_n n0)))) (qw_or1 (qt_not (qt_chain hu (q_n n1) (q_bi T.b_len bt_len (rLen_ok) (qa_cons (q_n n0) qa_nil)) q_int))))) (qz_one (qs_ret q_bl)) qz_nil) (qz_one (qs_ret (q_bi T.b_all bt_all (rAll_ok) (qa_cons (q_lc (.n 2) [("_law_sign", 2)] nd (qi_seq (q_n n0)) (lcT_n nd a2 (fun _ _ => .inl rfl) (fun _ _ => rfl)) qts_nil ⟨fun _ _ _ _ _ => (q_cmp hu (q_bn a2 (by first | exact .inl rfl | exact .inr (.inl rfl) | exact .inr (.inr rfl))) q_str)⟩) qa_nil))))), ?_⟩
  clear nd hu a2 n0 n1
  obtain ⟨x, a, rfl, hk, q⟩ := h
  have hkn := hk.1
  cases x with
  | str s =>
    have hl := hk.2 s rfl
    have e : nameB a (.str s) = ((decide (a ≤ (s.length : Int)) && decide ((s.length : Int) ≤ 12)) && lowB s) := rfl
    rw [e] at q
    walk_at "g"
    refine iteD (fun h1 => ?_) (fun h1 => ?_)
    · rw [decide_eq_true h1, Bool.true_and] at q
      by_cases h2 : (s.length : Int) ≤ 12
      · rw [decide_eq_true h2] at q ⊢
        rw [Bool.true_and] at q
        rw [if_neg (by decide)]
        refine rLc.pure (fun _ => true) (fun d => match d with | .str z => .bl (inS z abc) | d => d) (by unfold signs; rw [List.length_map, sizeLine_eq]; have h9 : s.cps.toList.length = s.length := (by simp [Str.length]); omega) (fun _ _ _ => trivial) (fun d S' hd ext => ?_) fun Dl hn => ?_
        · obtain ⟨c, _, rfl⟩ := List.mem_map.mp hd
          walk_at "g"
          exact ⟨fun Q q => q, fun _ Q q => by walk_at "g"; exact q⟩
        · refine ⟨s.cps.toList.map fun c => inS ⟨#[c]⟩ abc, ?_, ?_⟩
          · rw [filt_true]; unfold signs; rw [List.map_map, List.map_map]; rfl
          · have e3 : (s.cps.toList.map fun c => inS ⟨#[c]⟩ abc).all id = lowB s := by unfold lowB; rw [List.all_map]; rfl
            rw [e3]; exact q
      · rw [decide_eq_false h2] at q ⊢
        rw [Bool.false_and] at q
        rw [if_pos (by decide)]
        exact q
    · rw [decide_eq_false h1, Bool.false_and, Bool.false_and] at q
      rw [if_pos rfl]
      exact q
  | _ => walk_at "g"; exact q

local macro_rules | `(tactic| walk_at "sp") => `(tactic| ((with_reducible show sp_L_is_name _ _ _ _ _); refine ⟨_, _, rfl, by assumption, ?_⟩))
theorem item_is (y : D) : itemB y = (inR y (-1000000000000000000000000000000) 1000000000000000000000000000000 || nameB 0 y) := by
  cases y with
  | int i => show _ = (_ || false); rw [Bool.or_false]; rfl
  | str s => show _ = (false || _); rw [Bool.false_or]; show (decide ((s.length : Int) ≤ 12) && lowB s) = ((decide ((0 : Int) ≤ (s.length : Int)) && decide ((s.length : Int) ≤ 12)) && lowB s); rw [decide_eq_true (by omega : (0 : Int) ≤ (s.length : Int)), Bool.true_and]
  | _ => rfl
def sp_L_is_content (A : CA) : DSp := fun ds S Q _ => ∃ x, ds = [x] ∧ KnX A.cDisk S x ∧ (∀ xs, x = .tup xs → xs.length < sizeLine ∧ ∀ y ∈ xs, OkX A.cDisk S y) ∧ Q (.bl (itemsB x 40)) S
theorem ok_L_is_content (T : Top K mg A) : Fn P w K mg A.base 2 "_law_is_content" (sp_L_is_content A) := by
  obtain ⟨f, fd, hm, F⟩ := T.f_L_is_content
  refine fn_mk F hm (F.binds fun _ _ _ _ _ _ us hl => match us, hl with | [_], _ => by kernel_rfl) sc_L_is_content (fun ds S Q E h => by repeat (first | (obtain ⟨e, _⟩ := h; subst e; rfl) | (obtain ⟨_, h⟩ := h))) fun cdv A' outer s H E Ed ds S Q hr h => ?_
  have nd : (fnC P w K mg A.base ["_law_thing", "_law_item"] "_law_is_content" s_L_is_content f cdv A' outer s H E Ed).X.N.Nodup := sc_L_is_content.nd
  have n0 : Nm (fnC P w K mg A.base ["_law_thing", "_law_item"] "_law_is_content" s_L_is_content f cdv A' outer s H E Ed) 0 "_law_thing" := ⟨rfl, by first | exact .inl rfl | exact .inr rfl, .inl rfl, by decide +kernel, by decide +kernel⟩
  have a1 : (fnC P w K mg A.base ["_law_thing", "_law_item"] "_law_is_content" s_L_is_content f cdv A' outer s H E Ed).X.N[1]? = some ("_law_item" : Str) := rfl
  have hu : Un (fnC P w K mg A.base ["_law_thing", "_law_item"] "_law_is_content" s_L_is_content f cdv A' outer s H E Ed) := un_of hr
  refine qz_go (c := (fnC P w K mg A.base ["_law_thing", "_law_item"] "_law_is_content" s_L_is_content f cdv A' outer s H E Ed)) ?_
  refine ⟨_, 
    (qz_cons (qs_if (qt_w (qw_or (qt_not (qt_tru (q_isiX T.ix_Disk (by decide) (fun _ x => isT x) (fun _ _ _ => cd_isT) (hzf fun _ => rfl) T.b_isinstance T.b_tuple bt_tuple (q_n n0)))) (qw_or1 (qt_cmp hu (q_bi T.b_len bt_len (rLen_ok) (qa_cons (q_n n0) qa_nil)) q_int)))) (qz_one (qs_ret q_bl)) qz_nil) (qz_one (qs_ret (q_bi T.b_all bt_all (rAll_ok) (qa_cons (q_lc (.n 1) [("_law_item", 1)] nd (qi_seq (q_n n0)) (lcT_n nd a1 (fun _ _ => .inl rfl) (fun _ _ => rfl)) qts_nil ⟨fun _ _ _ _ _ => (q_or (q_callB (ok_L_is_int T) (hr.mono (by decide)) (qa_cons (q_bn a1 (by first | exact .inl rfl | exact .inr (.inl rfl) | exact .inr (.inr rfl))) (qa_cons (q_neg (q_bin q_int q_int)) (qa_cons (q_bin q_int q_int) qa_nil)))) (q_one (q_callB (ok_L_is_name T) (hr.mono (by decide)) (qa_cons (q_bn a1 (by first | exact .inl rfl | exact .inr (.inl rfl) | exact .inr (.inr rfl))) (qa_cons q_int qa_nil)))))⟩) qa_nil))))), ?_⟩
  clear nd hu a1 n0
  obtain ⟨x, rfl, hk, hx, q⟩ := h
  cases x with
  | tup xs =>
    obtain ⟨hl, hy⟩ := hx xs rfl
    have e : itemsB (.tup xs) 40 = (decide ((xs.length : Int) ≤ 40) && xs.all itemB) := rfl
    rw [e] at q
    walk_at "g"
    refine iteD (fun h1 => ?_) (fun h1 => ?_)
    · rw [decide_eq_false (by omega : ¬ ((xs.length : Int) ≤ 40)), Bool.false_and] at q
      exact q
    · rw [decide_eq_true (by omega : (xs.length : Int) ≤ 40), Bool.true_and] at q
      walk_at "g"
      refine rLc.pure (fun _ => true) (fun d => .bl (itemB d)) hl (fun _ _ _ => trivial) (fun d S' hd ext => ?_) fun Dl hn => ?_
      · have h3 := (hy d hd).ext ext
        have h4 := h3.1
        walk_at "g"
        refine ⟨fun Q q => q, fun _ Q q => ?_⟩
        rw [item_is] at q
        walk_at "g"
        rw [show (10 : Int) ^ 30 = 1000000000000000000000000000000 from by decide +kernel]
        cases hb : inR d (-1000000000000000000000000000000) 1000000000000000000000000000000 with
        | true =>
          rw [hb, Bool.true_or] at q
          walk_at "g"
          exact q
        | false =>
          rw [hb, Bool.false_or] at q
          walk_at "g"
          exact q
      · walk_at "g"
        refine ⟨xs.map itemB, ?_, ?_⟩
        · rw [filt_true, List.map_map]; rfl
        · rw [List.all_map]; exact q
  | _ => walk_at "g"; exact q

def sp_L_deep (_A : CA) : DSp := fun ds S Q _ => ∃ h, ds = [.ref h] ∧ HandAt S h ∧ ∀ x S', Pure1 x → (∀ xs, x = .tup xs → xs.length ≤ 60 ∧ ∀ z ∈ xs, Pure1 z) → HandAt S' h → Fr [h] S S' → Q x S'
theorem ok_L_deep (T : Top K mg A) : Fn P w K mg A.base 3 "_law_deep" (sp_L_deep A) := by
  obtain ⟨f, fd, hm, F⟩ := T.f_L_deep
  refine fn_mk F hm (F.binds fun _ _ _ _ _ _ us hl => match us, hl with | [_], _ => by kernel_rfl) sc_L_deep (fun ds S Q E h => by repeat (first | (obtain ⟨e, _⟩ := h; subst e; rfl) | (obtain ⟨_, h⟩ := h))) fun cdv A' outer s H E Ed ds S Q hr h => ?_
  have nd : (fnC P w K mg A.base ["_law_hand_here", "_law_thing", "_law_turn"] "_law_deep" s_L_deep f cdv A' outer s H E Ed).X.N.Nodup := sc_L_deep.nd
  have n0 : Nm (fnC P w K mg A.base ["_law_hand_here", "_law_thing", "_law_turn"] "_law_deep" s_L_deep f cdv A' outer s H E Ed) 0 "_law_hand_here" := ⟨rfl, by first | exact .inl rfl | exact .inr rfl, .inl rfl, by decide +kernel, by decide +kernel⟩
  have n1 : Nm (fnC P w K mg A.base ["_law_hand_here", "_law_thing", "_law_turn"] "_law_deep" s_L_deep f cdv A' outer s H E Ed) 1 "_law_thing" := ⟨rfl, by first | exact .inl rfl | exact .inr rfl, .inl rfl, by decide +kernel, by decide +kernel⟩
  have n2 : Nm (fnC P w K mg A.base ["_law_hand_here", "_law_thing", "_law_turn"] "_law_deep" s_L_deep f cdv A' outer s H E Ed) 2 "_law_turn" := ⟨rfl, by first | exact .inl rfl | exact .inr rfl, .inl rfl, by decide +kernel, by decide +kernel⟩
  have hu : Un (fnC P w K mg A.base ["_law_hand_here", "_law_thing", "_law_turn"] "_law_deep" s_L_deep f cdv A' outer s H E Ed) := un_of hr
  have po := fnC_po (P := P) (w := w) (K := K) (mg := mg) (base := A.base) (N := ["_law_hand_here", "_law_thing", "_law_turn"]) (qual := "_law_deep") (st := s_L_deep) (f := f) (cdv := cdv) (A := A') (outer := outer) (s := s) (H := H) (E := E) (Ed := Ed)
  refine qz_go (c := (fnC P w K mg A.base ["_law_hand_here", "_law_thing", "_law_turn"] "_law_deep" s_L_deep f cdv A' outer s H E Ed)) ?_
  refine ⟨_, 
    (qz_cons (qs_st n1 nd (q_call (ok_L_any T) (hr.mono (by decide)) (qa_cons (q_n n0) (qa_cons (q_lst (qa_cons q_int (qa_cons (q_tup qa_nil) (qa_cons q_str qa_nil)))) qa_nil)))) 
    (qz_cons (qs_for (qi_range1 T.b_range (q_bin q_int (q_call (ok_L_draw T) (hr.mono (by decide)) (qa_cons (q_n n0) (qa_cons q_int qa_nil))))) (qg_n n2 nd) (qz_one (qs_st n1 nd (q_ife (qt_cmp hu (q_call (ok_L_draw T) (hr.mono (by decide)) (qa_cons (q_n n0) (qa_cons q_int qa_nil))) q_int) (q_tup (qa_cons (q_n n1) qa_nil)) (q_lst (qa_cons (q_n n1) qa_nil))))) po) (qz_one (qs_ret (q_n n1))))), ?_⟩
  clear nd hu po n0 n1 n2
  obtain ⟨h, rfl, hh, q⟩ := h
  walk_at "g"
  intro y S1 hy hh1 f1
  have hp : Pure1 y ∧ ∀ xs, y = .tup xs → xs.length ≤ 60 ∧ ∀ z ∈ xs, Pure1 z := by
    simp only [List.mem_cons, List.not_mem_nil, or_false] at hy
    rcases hy with rfl | rfl | rfl
    · exact ⟨pu_int, fun xs e => by cases e⟩
    · exact ⟨pu_tup, fun xs e => by cases e; simp⟩
    · exact ⟨pu_str (by decide), fun xs e => by cases e⟩
  walk_at "g"
  intro n S2 n0 n1 hh2 f2
  walk_at "g"
  refine ⟨fun r ρ' S' => ∃ (x : D) (o : Option D), ρ' = [some (.ref h), some x, o] ∧ Pure1 x ∧ (∀ xs, x = .tup xs → xs.length ≤ 60 ∧ ∀ z ∈ xs, Pure1 z) ∧ HandAt S' h ∧ Fr [h] S S', ⟨y, none, rfl, hp.1, hp.2, hh2, f1.trans f2⟩, fun _ _ _ _ => trivial, ?_, ?_⟩
  · rintro d r ρ' S' ⟨x, o, rfl, p1, p2, hh3, f3⟩
    walk_at "g"
    intro n3 S4 m0 m1 hh4 f4
    walk_at "g"
    refine iteD (fun c => ?_) (fun c => ?_)
    · exact ⟨_, _, rfl, pu_tup, fun xs e => by cases e; exact ⟨by simp, by simpa using p1⟩, hh4, f3.trans f4⟩
    · exact ⟨_, _, rfl, pu_fl, fun xs e => (by cases e), hh4, f3.trans f4⟩
  · rintro ρ' S' ⟨x, o, rfl, p1, p2, hh3, f3⟩
    walk_at "g"
    exact q x S' p1 p2 hh3 f3
local macro_rules | `(tactic| walk_at "sp") => `(tactic| ((with_reducible show sp_L_deep _ _ _ _ _); refine ⟨_, rfl, by assumption, ?_⟩))
def sp_L_odd (_A : CA) : DSp := fun ds S Q _ => ∃ h o, ds = [.ref h, o] ∧ HandAt S h ∧ ∀ x S', (x = o ∨ (Pure1 x ∧ ∀ xs, x = .tup xs → xs.length ≤ 60 ∧ ∀ z ∈ xs, Pure1 z) ∨ ∃ a kvs, x = .ref a ∧ S' a = some (.dk kvs) ∧ S a = none) → HandAt S' h → Fr [h] S S' → Q x S'
theorem ok_L_odd (T : Top K mg A) : Fn P w K mg A.base 4 "_law_odd" (sp_L_odd A) := by
  obtain ⟨f, fd, hm, F⟩ := T.f_L_odd
  refine fn_mk F hm (F.binds fun _ _ _ _ _ _ us hl => match us, hl with | [_, _], _ => by kernel_rfl) sc_L_odd (fun ds S Q E h => by repeat (first | (obtain ⟨e, _⟩ := h; subst e; rfl) | (obtain ⟨_, h⟩ := h))) fun cdv A' outer s H E Ed ds S Q hr h => ?_
  have nd : (fnC P w K mg A.base ["_law_hand_here", "_law_other", "_law_some"] "_law_odd" s_L_odd f cdv A' outer s H E Ed).X.N.Nodup := sc_L_odd.nd
  have n0 : Nm (fnC P w K mg A.base ["_law_hand_here", "_law_other", "_law_some"] "_law_odd" s_L_odd f cdv A' outer s H E Ed) 0 "_law_hand_here" := ⟨rfl, by first | exact .inl rfl | exact .inr rfl, .inl rfl, by decide +kernel, by decide +kernel⟩
  have n1 : Nm (fnC P w K mg A.base ["_law_hand_here", "_law_other", "_law_some"] "_law_odd" s_L_odd f cdv A' outer s H E Ed) 1 "_law_other" := ⟨rfl, by first | exact .inl rfl | exact .inr rfl, .inl rfl, by decide +kernel, by decide +kernel⟩
  have n2 : Nm (fnC P w K mg A.base ["_law_hand_here", "_law_other", "_law_some"] "_law_odd" s_L_odd f cdv A' outer s H E Ed) 2 "_law_some" := ⟨rfl, by first | exact .inl rfl | exact .inr rfl, .inl rfl, by decide +kernel, by decide +kernel⟩
  refine qz_go (c := (fnC P w K mg A.base ["_law_hand_here", "_law_other", "_law_some"] "_law_odd" s_L_odd f cdv A' outer s H E Ed)) ?_
  refine ⟨_, 
    (qz_cons (qs_st n2 nd (q_lst (qa_cons q_non (qa_cons q_bl (qa_cons q_bl (qa_cons (q_neg q_int) (qa_cons (q_bin q_int q_int) (qa_cons q_str (qa_cons q_str (qa_cons (q_tup qa_nil) (qa_cons (q_lst qa_nil) (qa_cons q_dict0 (qa_cons (q_lst (qa_cons q_int qa_nil)) (qa_cons (q_tup (qa_cons q_int qa_nil)) (qa_cons (q_dict (qps_cons q_int q_int qps_nil)) (qa_cons (q_tup (qa_cons q_bl qa_nil)) (qa_cons (q_tup (qa_cons q_non qa_nil)) qa_nil))))))))))))))))) (qz_one (qs_ret (q_call (ok_L_any T) (hr.mono (by decide)) (qa_cons (q_n n0) (qa_cons (q_bin (q_n n2) (q_lst (qa_cons (q_n n1) (qa_cons (q_call (ok_L_deep T) (hr.mono (by decide)) (qa_cons (q_n n0) qa_nil)) qa_nil)))) qa_nil)))))), ?_⟩
  clear nd n0 n1 n2
  obtain ⟨h, o, rfl, hh, q⟩ := h
  walk_at "g"
  intro a1 h1 a2 h2
  refine ⟨sup_same, by decide +kernel, ?_⟩
  rw [sup_sup]
  have n21 : a1 ≠ a2 := ne_some sup_same h2
  have h2' : S a2 = none := by rw [sup_ne n21.symm] at h2; exact h2
  have f2 : Fr [] S (sup (sup S a1 (.dk [])) a2 (.dk [(.inl 0, .int 0)])) := (Fr.new h1).newer h2'
  have e1 : sup (sup S a1 (.dk [])) a2 (.dk [(.inl 0, .int 0)]) a1 = some (.dk []) := by rw [sup_ne n21]; exact sup_same
  have e2 : sup (sup S a1 (.dk [])) a2 (.dk [(.inl 0, .int 0)]) a2 = some (.dk [(.inl 0, .int 0)]) := sup_same
  have hh2 := hh.fr f2 (by simp)
  generalize sup (sup S a1 (.dk [])) a2 (.dk [(.inl 0, .int 0)]) = S2 at f2 e1 e2 hh2 ⊢
  walk_at "g"
  intro x S3 p1 p2 hh3 f3
  refine ⟨by rw [sizeLine_eq]; decide, ?_⟩
  refine ⟨h, _, _, rfl, .inl rfl, (fun e => by cases e), by simp, by simp, hh3, fun y S4 hy hh4 f4 => ?_⟩
  obtain ⟨u, hu⟩ := hh.some
  have m1 := ne_some' hu h1
  have m2 := ne_some' hu h2'
  refine q y S4 ?_ hh4 ((f2.mono (by simp)).trans (f3.trans f4))
  simp only [List.mem_append, List.mem_cons, List.not_mem_nil, or_false] at hy
  rcases hy with (rfl | rfl | rfl | rfl | rfl | rfl | rfl | rfl | rfl | rfl | rfl | rfl | rfl | rfl | rfl) | rfl | rfl
  · exact .inr (.inl ⟨pu_non, fun xs e => by cases e⟩)
  · exact .inr (.inl ⟨pu_bl, fun xs e => by cases e⟩)
  · exact .inr (.inl ⟨pu_bl, fun xs e => by cases e⟩)
  · exact .inr (.inl ⟨pu_int, fun xs e => by cases e⟩)
  · exact .inr (.inl ⟨pu_int, fun xs e => by cases e⟩)
  · exact .inr (.inl ⟨pu_str (by decide), fun xs e => by cases e⟩)
  · exact .inr (.inl ⟨pu_str (by decide), fun xs e => by cases e⟩)
  · exact .inr (.inl ⟨pu_tup, fun xs e => by cases e; simp⟩)
  · exact .inr (.inl ⟨pu_fl, fun xs e => by cases e⟩)
  · exact .inr (.inr ⟨_, _, rfl, f4.one (f3.one e1 m1) m1, h1⟩)
  · exact .inr (.inl ⟨pu_fl, fun xs e => by cases e⟩)
  · exact .inr (.inl ⟨pu_tup, fun xs e => by cases e; simp [pu_int]⟩)
  · exact .inr (.inr ⟨_, _, rfl, f4.one (f3.one e2 m2) m2, h2'⟩)
  · exact .inr (.inl ⟨pu_tup, fun xs e => by cases e; simp [pu_bl]⟩)
  · exact .inr (.inl ⟨pu_tup, fun xs e => by cases e; simp [pu_non]⟩)
  · exact .inl rfl
  · exact .inr (.inl ⟨p1, p2⟩)
def adjB : List Int → Bool
  | a :: b :: r => decide (a < b) && adjB (b :: r)
  | _ => true
theorem lotX_all {m : Int} : ∀ {xs : List D} {a : Int}, -1 ≤ a → lotX m a xs = true → ∀ y ∈ xs, inR y 0 (m - 1) = true
  | [], _, _, _, y, hy => by cases hy
  | x :: r, a, h0, h, y, hy => by
    unfold lotX at h
    rw [Bool.and_eq_true] at h
    obtain ⟨i, rfl, h1, h2⟩ := inR_int h.1
    rcases List.mem_cons.mp hy with rfl | hy
    · show (decide _ && decide _) = true
      rw [decide_eq_true (by omega : (0 : Int) ≤ i), decide_eq_true h2]; rfl
    · exact lotX_all (a := i) (by omega) h.2 y hy
theorem lotX_adj {m : Int} : ∀ {r : List Int} {a b : Int}, a + 1 ≤ b → (∀ z ∈ b :: r, z ≤ m - 1) → lotX m a ((b :: r).map D.int) = adjB (b :: r)
  | [], a, b, h, k => by
    have := k b List.mem_cons_self
    show ((decide (a + 1 ≤ b) && decide (b ≤ m - 1)) && true) = true
    rw [decide_eq_true h, decide_eq_true this]; rfl
  | c :: r, a, b, h, k => by
    have k0 := k b List.mem_cons_self
    have e : lotX m a ((b :: c :: r).map D.int) = ((decide (a + 1 ≤ b) && decide (b ≤ m - 1)) && lotX m b ((c :: r).map D.int)) := rfl
    rw [e, decide_eq_true h, decide_eq_true k0]
    show lotX m b ((c :: r).map D.int) = (decide (b < c) && adjB (c :: r))
    by_cases hbc : b < c
    · rw [lotX_adj (a := b) (b := c) (by omega) fun z hz => k z (List.mem_cons_of_mem _ hz), decide_eq_true hbc, Bool.true_and]
    · rw [decide_eq_false hbc, Bool.false_and]
      show ((decide (b + 1 ≤ c) && decide (c ≤ m - 1)) && lotX m c (r.map D.int)) = false
      rw [decide_eq_false (by omega : ¬ b + 1 ≤ c)]; rfl
def ltD : D → D
  | .tup [.int a, .int b] => .bl (decide (a < b))
  | _ => .non
theorem zips_adj : ∀ bs : List Int, ∃ cs : List Bool, (zips (bs.map D.int) ((bs.drop 1).map D.int)).map ltD = cs.map D.bl ∧ cs.all id = adjB bs
  | [] => ⟨[], rfl, rfl⟩
  | [a] => ⟨[], rfl, rfl⟩
  | a :: b :: r => by
    obtain ⟨cs, e1, e2⟩ := zips_adj (b :: r)
    refine ⟨decide (a < b) :: cs, ?_, ?_⟩
    · show ltD (.tup [.int a, .int b]) :: (zips ((b :: r).map D.int) (((b :: r).drop 1).map D.int)).map ltD = _
      rw [e1]; rfl
    · show (decide (a < b) && cs.all id) = _
      rw [e2]; rfl
theorem zips_mem : ∀ {bs : List Int} {cs : List Int} {d : D}, d ∈ zips (bs.map D.int) (cs.map D.int) → ∃ a b : Int, d = .tup [.int a, .int b]
  | [], _, d, h => by cases h
  | a :: bs, [], d, h => by cases h
  | a :: bs, b :: cs, d, h => by
    rcases List.mem_cons.mp h with rfl | h
    · exact ⟨a, b, rfl⟩
    · exact zips_mem h
theorem zips_lenY : ∀ {bs cs : List D}, (zips bs cs).length ≤ bs.length
  | [], _ => Nat.le_refl _
  | _ :: _, [] => Nat.zero_le _
  | _ :: bs, _ :: cs => Nat.succ_le_succ (zips_lenY (bs := bs) (cs := cs))
def sp_L_is_lot (A : CA) : DSp := fun ds S Q _ => ∃ x m, ds = [x, .int m] ∧ KnX A.cDisk S x ∧ (∀ xs, x = .tup xs → xs.length < 100 ∧ ∀ y ∈ xs, KnX A.cDisk S y) ∧ Q (.bl (lotG m x)) S
theorem ok_L_is_lot (T : Top K mg A) : Fn P w K mg A.base 2 "_law_is_lot" (sp_L_is_lot A) := by
  obtain ⟨f, fd, hm, F⟩ := T.f_L_is_lot
  refine fn_mk F hm (F.binds fun _ _ _ _ _ _ us hl => match us, hl with | [_, _], _ => by kernel_rfl) sc_L_is_lot (fun ds S Q E h => by repeat (first | (obtain ⟨e, _⟩ := h; subst e; rfl) | (obtain ⟨_, h⟩ := h))) fun cdv A' outer s H E Ed ds S Q hr h => ?_
  have nd : (fnC P w K mg A.base ["_law_thing", "_law_blocks", "_law_block", "_law_one", "_law_other"] "_law_is_lot" s_L_is_lot f cdv A' outer s H E Ed).X.N.Nodup := sc_L_is_lot.nd
  have n0 : Nm (fnC P w K mg A.base ["_law_thing", "_law_blocks", "_law_block", "_law_one", "_law_other"] "_law_is_lot" s_L_is_lot f cdv A' outer s H E Ed) 0 "_law_thing" := ⟨rfl, by first | exact .inl rfl | exact .inr rfl, .inl rfl, by decide +kernel, by decide +kernel⟩
  have a1 : (fnC P w K mg A.base ["_law_thing", "_law_blocks", "_law_block", "_law_one", "_law_other"] "_law_is_lot" s_L_is_lot f cdv A' outer s H E Ed).X.N[1]? = some ("_law_blocks" : Str) := rfl
  have a2 : (fnC P w K mg A.base ["_law_thing", "_law_blocks", "_law_block", "_law_one", "_law_other"] "_law_is_lot" s_L_is_lot f cdv A' outer s H E Ed).X.N[2]? = some ("_law_block" : Str) := rfl
  have a3 : (fnC P w K mg A.base ["_law_thing", "_law_blocks", "_law_block", "_law_one", "_law_other"] "_law_is_lot" s_L_is_lot f cdv A' outer s H E Ed).X.N[3]? = some ("_law_one" : Str) := rfl
  have a4 : (fnC P w K mg A.base ["_law_thing", "_law_blocks", "_law_block", "_law_one", "_law_other"] "_law_is_lot" s_L_is_lot f cdv A' outer s H E Ed).X.N[4]? = some ("_law_other" : Str) := rfl
  have hu : Un (fnC P w K mg A.base ["_law_thing", "_law_blocks", "_law_block", "_law_one", "_law_other"] "_law_is_lot" s_L_is_lot f cdv A' outer s H E Ed) := un_of hr
  refine qz_go (c := (fnC P w K mg A.base ["_law_thing", "_law_blocks", "_law_block", "_law_one", "_law_other"] "_law_is_lot" s_L_is_lot f cdv A' outer s H E Ed)) ?_
  refine ⟨_, 
    (qz_cons (qs_if (qt_w (qw_or (qt_not (qt_tru (q_isiX T.ix_Disk (by decide) (fun _ x => isT x) (fun _ _ _ => cd_isT) (hzf fun _ => rfl) T.b_isinstance T.b_tuple bt_tuple (q_n n0)))) (qw_or1 (qt_not (qt_tru (q_bi T.b_all bt_all (rAll_ok) (qa_cons (q_lc (.n 2) [("_law_block", 2)] nd (qi_seq (q_n n0)) (lcT_n nd a2 (fun _ _ => .inl rfl) (fun _ _ => rfl)) qts_nil ⟨fun _ _ _ _ _ => (q_callB (ok_L_is_int T) (hr.mono (by decide)) (qa_cons (q_bn a2 (by first | exact .inl rfl | exact .inr (.inl rfl) | exact .inr (.inr rfl))) (qa_cons q_int (qa_cons (q_bin (q_bn a1 (by first | exact .inl rfl | exact .inr (.inl rfl) | exact .inr (.inr rfl))) q_int) qa_nil))))⟩) qa_nil))))))) (qz_one (qs_ret q_bl)) qz_nil) (qz_one (qs_ret (q_bi T.b_all bt_all (rAll_ok) (qa_cons (q_lc (.t [3, 4]) [("_law_one", 3), ("_law_other", 4)] nd (qi_zipT T.b_zip (q_n n0) (q_slice (q_n n0) (qo_some q_int) qo_none)) (lcT_2 nd rfl a3 a4 (fun _ _ => .inl rfl) (fun _ _ => rfl) (fun _ _ => .inl rfl) (fun _ _ => rfl)) qts_nil ⟨fun _ _ _ _ _ => (q_cmp hu (q_bn a3 (by first | exact .inl rfl | exact .inr (.inl rfl) | exact .inr (.inr rfl))) (q_bn a4 (by first | exact .inl rfl | exact .inr (.inl rfl) | exact .inr (.inr rfl))))⟩) qa_nil))))), ?_⟩
  clear nd hu a1 a2 a3 a4 n0
  obtain ⟨x, m, rfl, hk, hx, q⟩ := h
  cases x with
  | tup xs =>
    obtain ⟨hl, hy⟩ := hx xs rfl
    walk_at "g"
    refine rLc.pure (fun _ => true) (fun d => .bl (inR d 0 (m - 1))) (by rw [sizeLine_eq]; omega) (fun _ _ _ => trivial) (fun d S' hd ext => ?_) fun Dl hn => ?_
    · have h3 := (hy d hd).ext ext
      walk_at "g"
      exact ⟨fun Q q => q, fun _ Q q => by walk_at "g"; exact q⟩
    · refine ⟨xs.map fun d => inR d 0 (m - 1), by rw [filt_true, List.map_map]; rfl, ?_⟩
      rw [List.all_map]
      cases hall : xs.all (id ∘ fun d => inR d 0 (m - 1)) with
      | false =>
        have : lotG m (.tup xs) = false := by
          cases e : lotG m (.tup xs) with
          | false => rfl
          | true =>
            have := lotX_all (Int.le_refl _) (show lotX m (-1) xs = true from e)
            exact absurd (hall.symm.trans (List.all_eq_true.mpr fun y hy => this y hy)) Bool.false_ne_true
        rw [this] at q
        walk_at "g"
        exact q
      | true =>
        walk_at "g"
        rw [List.all_eq_true] at hall
        have key : ∃ bs : List Int, xs = bs.map D.int ∧ ∀ b ∈ bs, 0 ≤ b ∧ b ≤ m - 1 := by
          clear q hk hx hl hy
          induction xs with
          | nil => exact ⟨[], rfl, by simp⟩
          | cons y r ih =>
            obtain ⟨i, rfl, h1, h2⟩ := inR_int (hall y List.mem_cons_self)
            obtain ⟨bs, rfl, hb⟩ := ih fun z hz => hall z (List.mem_cons_of_mem _ hz)
            exact ⟨i :: bs, rfl, fun b hb' => by
              rcases List.mem_cons.mp hb' with rfl | hb'
              · exact ⟨h1, h2⟩
              · exact hb b hb'⟩
        obtain ⟨bs, rfl, hb⟩ := key
        have e9 : lotG m (.tup (bs.map D.int)) = adjB bs := by
          cases bs with
          | nil => rfl
          | cons b r => exact lotX_adj (by have := (hb b List.mem_cons_self).1; omega) fun z hz => (hb z hz).2
        rw [e9] at q
        obtain ⟨cs, z1, z2⟩ := zips_adj bs
        have ecut : cutD (bs.map D.int) (some 1) none = (bs.drop 1).map D.int := by
          have := cutD_sufY (xs := bs.map D.int) (n := 1)
          rw [List.map_drop]
          exact this
        have hz : ∀ d ∈ zips (bs.map D.int) ((bs.drop 1).map D.int), ∃ a b : Int, d = .tup [.int a, .int b] := fun d hd => zips_mem hd
        have hzl := zips_lenY (bs := bs.map D.int) (cs := (bs.drop 1).map D.int)
        rw [ecut]
        refine rLc.pure (fun _ => true) ltD (by rw [sizeLine_eq]; omega) (fun _ _ _ => trivial) (fun d S' hd ext => ?_) fun Dl2 hn2 => ?_
        · obtain ⟨a, b, rfl⟩ := hz d hd
          walk_at "g"
          exact ⟨fun Q q => q, fun _ Q q => by walk_at "g"; exact q⟩
        · rw [filt_true]
          refine ⟨cs, z1, ?_⟩
          rw [z2]
          exact q
  | _ => walk_at "g"; exact q
theorem tru_tt {S : SS} {k : Bool → Prop} (h : k true) : rTru S (.bl true) k := h
theorem if_tt {p : Bool} {A B : Prop} (h : p = true) (a : A) : if p = true then A else B := by rw [if_pos h]; exact a
def sp_L_word (A : CA) : DLam := fun tl S Q => ∀ E1 : Value → Option Addr → SS → Prop, (∀ S1, Q (.str "disk") S1 → E1 (.ref A.cBadDisk) none S1) → (∀ S1, Q (.str "block") S1 → E1 (.ref A.cNoBlock) none S1) → (∀ S1, Q (.str "content") S1 → E1 (.ref A.cNoContent) none S1) → (∀ S1, Q (.str "nothing") S1 → E1 (.ref A.cNothingWaits) none S1) → (∀ S1, Q (.str "number") S1 → E1 (.ref A.cNoNumber) none S1) → tl S (fun _ S1 => Q (.str "let") S1) E1
theorem ok_L_word (T : Top K mg A) : LamFn P w K mg A.base "_law_word" (sp_L_word A) := by
  obtain ⟨f, fd, hm, F⟩ := T.f_L_word
  refine lam_mk F hm (F.binds fun _ _ _ _ _ _ us hl => match us, hl with | [_], _ => by kernel_rfl) sc_L_word rfl (.inl rfl) (by decide +kernel) (by decide +kernel) (by decide) fun cdv A' stack s H fa ca q G tl S Q hr act h => ?_
  have nd : (gC P w K mg A.base ["_law_call", "_law_word_here", "e", "_law_flags"] "_law_word" (defScope s_L_word) f cdv A' stack s H).X.N.Nodup := sc_L_word.nd
  have n1 : Nm (gC P w K mg A.base ["_law_call", "_law_word_here", "e", "_law_flags"] "_law_word" (defScope s_L_word) f cdv A' stack s H) 1 "_law_word_here" := ⟨rfl, by first | exact .inl rfl | exact .inr rfl, .inl rfl, by decide +kernel, by decide +kernel⟩
  have a2 : (gC P w K mg A.base ["_law_call", "_law_word_here", "e", "_law_flags"] "_law_word" (defScope s_L_word) f cdv A' stack s H).X.N[2]? = some ("e" : Str) := rfl
  have n2 : Nm (gC P w K mg A.base ["_law_call", "_law_word_here", "e", "_law_flags"] "_law_word" (defScope s_L_word) f cdv A' stack s H) 2 "e" := ⟨rfl, by first | exact .inl rfl | exact .inr rfl, .inl rfl, by decide +kernel, by decide +kernel⟩
  have n3 : Nm (gC P w K mg A.base ["_law_call", "_law_word_here", "e", "_law_flags"] "_law_word" (defScope s_L_word) f cdv A' stack s H) 3 "_law_flags" := ⟨rfl, by first | exact .inl rfl | exact .inr rfl, .inl rfl, by decide +kernel, by decide +kernel⟩
  have hu : Un (gC P w K mg A.base ["_law_call", "_law_word_here", "e", "_law_flags"] "_law_word" (defScope s_L_word) f cdv A' stack s H) := un_of hr
  refine qz_go (c := (gC P w K mg A.base ["_law_call", "_law_word_here", "e", "_law_flags"] "_law_word" (defScope s_L_word) f cdv A' stack s H)) ?_
  refine ⟨_, 
    (qz_cons (qs_st n1 nd q_str) 
    (qz_cons (qs_tryN (c := (gC P w K mg A.base ["_law_call", "_law_word_here", "e", "_law_flags"] "_law_word" (defScope s_L_word) f cdv A' stack s H)) rfl rfl nd (by intro W pn xe tk DX po; exact id ((qz_one (qs_expr (act W pn xe tk DX _ _))))) (QCls.named (c := (gC P w K mg A.base ["_law_call", "_law_word_here", "e", "_law_flags"] "_law_word" (defScope s_L_word) f cdv A' stack s H)) (x := "StoreError") a2 rfl ⟨rfl, rfl, .inl T.g_StoreError⟩ (by intro ea oe cls d pn hz hv; exact id (
    (qz_cons (qs_st (Nm.su (c := (gC P w K mg A.base ["_law_call", "_law_word_here", "e", "_law_flags"] "_law_word" (defScope s_L_word) f cdv A' stack s H)) (a := ea) (pn := (ea, oe) :: pn) n3) (nd_su (c := (gC P w K mg A.base ["_law_call", "_law_word_here", "e", "_law_flags"] "_law_word" (defScope s_L_word) f cdv A' stack s H)) (a := ea) (pn := (ea, oe) :: pn) nd) (q_lst (qa_cons (q_bi T.b_isinstance bt_isinstance (rIsErr_ok hz hv (hxO A.cBadDisk)) (qa_cons (q_n (Nm.su (c := (gC P w K mg A.base ["_law_call", "_law_word_here", "e", "_law_flags"] "_law_word" (defScope s_L_word) f cdv A' stack s H)) (a := ea) (pn := (ea, oe) :: pn) n2)) (qa_cons (q_gref T.g_BadDisk) qa_nil))) (qa_cons (q_bi T.b_isinstance bt_isinstance (rIsErr_ok hz hv (hxO A.cNoBlock)) (qa_cons (q_n (Nm.su (c := (gC P w K mg A.base ["_law_call", "_law_word_here", "e", "_law_flags"] "_law_word" (defScope s_L_word) f cdv A' stack s H)) (a := ea) (pn := (ea, oe) :: pn) n2)) (qa_cons (q_gref T.g_NoBlock) qa_nil))) (qa_cons (q_bi T.b_isinstance bt_isinstance (rIsErr_ok hz hv (hxO A.cNoContent)) (qa_cons (q_n (Nm.su (c := (gC P w K mg A.base ["_law_call", "_law_word_here", "e", "_law_flags"] "_law_word" (defScope s_L_word) f cdv A' stack s H)) (a := ea) (pn := (ea, oe) :: pn) n2)) (qa_cons (q_gref T.g_NoContent) qa_nil))) qa_nil))))) 
    (qz_cons (qs_st (Nm.su (c := (gC P w K mg A.base ["_law_call", "_law_word_here", "e", "_law_flags"] "_law_word" (defScope s_L_word) f cdv A' stack s H)) (a := ea) (pn := (ea, oe) :: pn) n3) (nd_su (c := (gC P w K mg A.base ["_law_call", "_law_word_here", "e", "_law_flags"] "_law_word" (defScope s_L_word) f cdv A' stack s H)) (a := ea) (pn := (ea, oe) :: pn) nd) (q_bin (q_n (Nm.su (c := (gC P w K mg A.base ["_law_call", "_law_word_here", "e", "_law_flags"] "_law_word" (defScope s_L_word) f cdv A' stack s H)) (a := ea) (pn := (ea, oe) :: pn) n3)) (q_lst (qa_cons (q_bi T.b_isinstance bt_isinstance (rIsErr_ok hz hv (hxO A.cNothingWaits)) (qa_cons (q_n (Nm.su (c := (gC P w K mg A.base ["_law_call", "_law_word_here", "e", "_law_flags"] "_law_word" (defScope s_L_word) f cdv A' stack s H)) (a := ea) (pn := (ea, oe) :: pn) n2)) (qa_cons (q_gref T.g_NothingWaits) qa_nil))) (qa_cons (q_bi T.b_isinstance bt_isinstance (rIsErr_ok hz hv (hxO A.cNoNumber)) (qa_cons (q_n (Nm.su (c := (gC P w K mg A.base ["_law_call", "_law_word_here", "e", "_law_flags"] "_law_word" (defScope s_L_word) f cdv A' stack s H)) (a := ea) (pn := (ea, oe) :: pn) n2)) (qa_cons (q_gref T.g_NoNumber) qa_nil))) qa_nil))))) 
    (qz_cons (qs_st (Nm.su (c := (gC P w K mg A.base ["_law_call", "_law_word_here", "e", "_law_flags"] "_law_word" (defScope s_L_word) f cdv A' stack s H)) (a := ea) (pn := (ea, oe) :: pn) n1) (nd_su (c := (gC P w K mg A.base ["_law_call", "_law_word_here", "e", "_law_flags"] "_law_word" (defScope s_L_word) f cdv A' stack s H)) (a := ea) (pn := (ea, oe) :: pn) nd) q_str) (qz_one (qs_if (qt_w (qw_and (qt_cmp (un_su (c := (gC P w K mg A.base ["_law_call", "_law_word_here", "e", "_law_flags"] "_law_word" (defScope s_L_word) f cdv A' stack s H)) (a := ea) (pn := (ea, oe) :: pn) hu) (q_m_count1 (q_n (Nm.su (c := (gC P w K mg A.base ["_law_call", "_law_word_here", "e", "_law_flags"] "_law_word" (defScope s_L_word) f cdv A' stack s H)) (a := ea) (pn := (ea, oe) :: pn) n3)) q_bl) q_int) (qw_and1 (qt_tru (q_bi T.b_isinstance bt_isinstance (rIsErr_ok hz hv (hxB "ValueError")) (qa_cons (q_n (Nm.su (c := (gC P w K mg A.base ["_law_call", "_law_word_here", "e", "_law_flags"] "_law_word" (defScope s_L_word) f cdv A' stack s H)) (a := ea) (pn := (ea, oe) :: pn) n2)) (qa_cons (q_ty T.b_ValueError bt_ValueError) qa_nil))))))) (qz_one (qs_st (Nm.su (c := (gC P w K mg A.base ["_law_call", "_law_word_here", "e", "_law_flags"] "_law_word" (defScope s_L_word) f cdv A' stack s H)) (a := ea) (pn := (ea, oe) :: pn) n1) (nd_su (c := (gC P w K mg A.base ["_law_call", "_law_word_here", "e", "_law_flags"] "_law_word" (defScope s_L_word) f cdv A' stack s H)) (a := ea) (pn := (ea, oe) :: pn) nd) (q_ix (un_su (c := (gC P w K mg A.base ["_law_call", "_law_word_here", "e", "_law_flags"] "_law_word" (defScope s_L_word) f cdv A' stack s H)) (a := ea) (pn := (ea, oe) :: pn) hu) (q_lst (qa_cons q_str (qa_cons q_str (qa_cons q_str (qa_cons q_str (qa_cons q_str qa_nil)))))) (q_m_index1 (q_n (Nm.su (c := (gC P w K mg A.base ["_law_call", "_law_word_here", "e", "_law_flags"] "_law_word" (defScope s_L_word) f cdv A' stack s H)) (a := ea) (pn := (ea, oe) :: pn) n3)) q_bl)))) qz_nil))))))) QCls.nil)) (qz_one (qs_ret (q_n n1))))), ?_⟩
  clear nd hu a2 n1 n2 n3
  walk_at "g"
  refine h _ (fun S1 q => ?_) (fun S1 q => ?_) (fun S1 q => ?_) (fun S1 q => ?_) (fun S1 q => ?_)
  · refine ⟨true, T.xm_BadDisk_StoreError, ?_⟩
    rw [if_pos rfl]
    intro ea
    have y1 := T.xe_BadDisk
    refine ⟨rfl, _, _, rfl, y1, .inl rfl, T.kt_BadDisk_BadDisk, ?_⟩
    refine ⟨rfl, _, _, rfl, y1, .inl rfl, T.kt_BadDisk_NoBlock, ?_⟩
    refine ⟨rfl, _, _, rfl, y1, .inl rfl, T.kt_BadDisk_NoContent, ?_⟩
    refine ⟨rfl, _, _, rfl, y1, .inl rfl, T.kt_BadDisk_NothingWaits, ?_⟩
    refine ⟨rfl, _, _, rfl, y1, .inl rfl, T.kt_BadDisk_NoNumber, ?_⟩
    refine ⟨by rw [sizeLine_eq]; decide, trivial, rfl, rfl, ?_⟩
    refine if_tt (by decide +kernel) ?_
    refine ⟨rfl, _, _, rfl, y1, .inl rfl, T.kt_BadDisk_ValueError, ?_⟩
    refine tru_tt ?_
    rw [if_pos rfl]
    refine ⟨trivial, rfl, rfl, 0, .bl true, rfl, by decide +kernel, fun i z' hi e => absurd hi (Nat.not_lt_zero _), _, rfl, ?_⟩
    exact q
  · refine ⟨true, T.xm_NoBlock_StoreError, ?_⟩
    rw [if_pos rfl]
    intro ea
    have y1 := T.xe_NoBlock
    refine ⟨rfl, _, _, rfl, y1, .inl rfl, T.kt_NoBlock_BadDisk, ?_⟩
    refine ⟨rfl, _, _, rfl, y1, .inl rfl, T.kt_NoBlock_NoBlock, ?_⟩
    refine ⟨rfl, _, _, rfl, y1, .inl rfl, T.kt_NoBlock_NoContent, ?_⟩
    refine ⟨rfl, _, _, rfl, y1, .inl rfl, T.kt_NoBlock_NothingWaits, ?_⟩
    refine ⟨rfl, _, _, rfl, y1, .inl rfl, T.kt_NoBlock_NoNumber, ?_⟩
    refine ⟨by rw [sizeLine_eq]; decide, trivial, rfl, rfl, ?_⟩
    refine if_tt (by decide +kernel) ?_
    refine ⟨rfl, _, _, rfl, y1, .inl rfl, T.kt_NoBlock_ValueError, ?_⟩
    refine tru_tt ?_
    rw [if_pos rfl]
    refine ⟨trivial, rfl, rfl, 1, .bl true, rfl, by decide +kernel, fun i z' hi e => by
      obtain rfl : i = 0 := by omega
      cases e; decide +kernel, _, rfl, ?_⟩
    exact q
  · refine ⟨true, T.xm_NoContent_StoreError, ?_⟩
    rw [if_pos rfl]
    intro ea
    have y1 := T.xe_NoContent
    refine ⟨rfl, _, _, rfl, y1, .inl rfl, T.kt_NoContent_BadDisk, ?_⟩
    refine ⟨rfl, _, _, rfl, y1, .inl rfl, T.kt_NoContent_NoBlock, ?_⟩
    refine ⟨rfl, _, _, rfl, y1, .inl rfl, T.kt_NoContent_NoContent, ?_⟩
    refine ⟨rfl, _, _, rfl, y1, .inl rfl, T.kt_NoContent_NothingWaits, ?_⟩
    refine ⟨rfl, _, _, rfl, y1, .inl rfl, T.kt_NoContent_NoNumber, ?_⟩
    refine ⟨by rw [sizeLine_eq]; decide, trivial, rfl, rfl, ?_⟩
    refine if_tt (by decide +kernel) ?_
    refine ⟨rfl, _, _, rfl, y1, .inl rfl, T.kt_NoContent_ValueError, ?_⟩
    refine tru_tt ?_
    rw [if_pos rfl]
    refine ⟨trivial, rfl, rfl, 2, .bl true, rfl, by decide +kernel, fun i z' hi e => by
      obtain rfl | rfl : i = 0 ∨ i = 1 := by omega
      all_goals (cases e; decide +kernel), _, rfl, ?_⟩
    exact q
  · refine ⟨true, T.xm_NothingWaits_StoreError, ?_⟩
    rw [if_pos rfl]
    intro ea
    have y1 := T.xe_NothingWaits
    refine ⟨rfl, _, _, rfl, y1, .inl rfl, T.kt_NothingWaits_BadDisk, ?_⟩
    refine ⟨rfl, _, _, rfl, y1, .inl rfl, T.kt_NothingWaits_NoBlock, ?_⟩
    refine ⟨rfl, _, _, rfl, y1, .inl rfl, T.kt_NothingWaits_NoContent, ?_⟩
    refine ⟨rfl, _, _, rfl, y1, .inl rfl, T.kt_NothingWaits_NothingWaits, ?_⟩
    refine ⟨rfl, _, _, rfl, y1, .inl rfl, T.kt_NothingWaits_NoNumber, ?_⟩
    refine ⟨by rw [sizeLine_eq]; decide, trivial, rfl, rfl, ?_⟩
    refine if_tt (by decide +kernel) ?_
    refine ⟨rfl, _, _, rfl, y1, .inl rfl, T.kt_NothingWaits_ValueError, ?_⟩
    refine tru_tt ?_
    rw [if_pos rfl]
    refine ⟨trivial, rfl, rfl, 3, .bl true, rfl, by decide +kernel, fun i z' hi e => by
      obtain rfl | rfl | rfl : i = 0 ∨ i = 1 ∨ i = 2 := by omega
      all_goals (cases e; decide +kernel), _, rfl, ?_⟩
    exact q
  · refine ⟨true, T.xm_NoNumber_StoreError, ?_⟩
    rw [if_pos rfl]
    intro ea
    have y1 := T.xe_NoNumber
    refine ⟨rfl, _, _, rfl, y1, .inl rfl, T.kt_NoNumber_BadDisk, ?_⟩
    refine ⟨rfl, _, _, rfl, y1, .inl rfl, T.kt_NoNumber_NoBlock, ?_⟩
    refine ⟨rfl, _, _, rfl, y1, .inl rfl, T.kt_NoNumber_NoContent, ?_⟩
    refine ⟨rfl, _, _, rfl, y1, .inl rfl, T.kt_NoNumber_NothingWaits, ?_⟩
    refine ⟨rfl, _, _, rfl, y1, .inl rfl, T.kt_NoNumber_NoNumber, ?_⟩
    refine ⟨by rw [sizeLine_eq]; decide, trivial, rfl, rfl, ?_⟩
    refine if_tt (by decide +kernel) ?_
    refine ⟨rfl, _, _, rfl, y1, .inl rfl, T.kt_NoNumber_ValueError, ?_⟩
    refine tru_tt ?_
    rw [if_pos rfl]
    refine ⟨trivial, rfl, rfl, 4, .bl true, rfl, by decide +kernel, fun i z' hi e => by
      obtain rfl | rfl | rfl | rfl : i = 0 ∨ i = 1 ∨ i = 2 ∨ i = 3 := by omega
      all_goals (cases e; decide +kernel), _, rfl, ?_⟩
    exact q

end K02

namespace K02
open PySem L2 DP
local macro_rules | `(tactic| walk_at "v") => `(tactic| dsimp only [startD, k_nt, k_nf, k_ta, k_fa, k_to, k_fo, Int.reduceToNat, List.set, wipeD, k_p6, k_p16, k_p17, k_p18, k_p30, Bool.not_true, Bool.not_false, Bool.and_true, Bool.true_and, Bool.and_false, Bool.false_and, Bool.or_true, Bool.true_or, Bool.or_false, Bool.false_or, List.map, fnC_DX, List.length_cons, List.length_nil, k_rv0, k_rv1, k_rv2, k_rbl, k_rint, k_rI2, k_badd, k_bSub, k_bMult, k_bFloorDiv, k_bMod, k_bPow, k_addi, k_addt, k_addf, k_itm, k_ceq, k_cne, k_cis, k_cisn, k_cin, k_cnin, k_ciLt, k_csLt, k_ciLtE, k_csLtE, k_ciGt, k_csGt, k_ciGtE, k_csGtE, k_eqi, k_eqs, k_eqb, k_isn, k_isb, k_keyi, k_keys, k_ins, k_int, k_inf, k_tru0, k_tru1, k_tru2, k_tru3, k_tru4, k_tru5, k_ipa, k_ips, k_cons, k_cons2, k_cons3, k_tup, k_seqf, k_seqt, k_seqs, k_rfl, k_patn, k_patt, k_setN0, k_setN1, k_ixt, k_ixf, k_ixs, k_opt0, k_opt1, k_slt, k_slf, k_sls, k_rev, k_r1, k_r2, k_lent, k_lenf, k_lens, k_abs, k_min, k_max, k_int1, k_lstt, k_lstf, k_lstMt, k_lstMf, k_tupt, k_tupf, k_bls, k_sum, k_rcL, k_rcS, isI_non, isI_bl, isI_int, isI_str, isI_tup, isI_fl, isI_ref, isB_non, isB_bl, isB_int, isB_str, isB_tup, isB_fl, isB_ref, isS_non, isS_bl, isS_int, isS_str, isS_tup, isS_fl, isS_ref, isT_non, isT_bl, isT_int, isT_str, isT_tup, isT_fl, isT_ref, isInt_non, isInt_bl, isInt_int, isInt_str, isInt_tup, isInt_fl, isInt_ref, isNon_non, isNon_bl, isNon_int, isNon_str, isNon_tup, isNon_fl, isNon_ref, isLs_non, isLs_bl, isLs_int, isLs_str, isLs_tup, isLs_fl, isDc_non, isDc_bl, isDc_int, isDc_str, isDc_tup, isDc_fl])
local macro_rules | `(tactic| walk_at "lk") => `(tactic| rfl)
local macro_rules | `(tactic| walk_at "sz") => `(tactic| first | assumption | (simp only [List.length_cons, List.length_nil]; decide) | omega)
local macro_rules | `(tactic| walk_at "at") => `(tactic| first | assumption | exact sup_same | (refine sup_at (by assumption) ?_; walk_at "at"))
local macro_rules | `(tactic| walk_at "sp") => `(tactic| fail)
local macro_rules | `(tactic| walk_at "s") => `(tactic| first
  | (with_reducible refine iteT ?_)
  | (with_reducible refine iteF ?_)
  | ((with_reducible refine And.intro ?_ ?_); (focus (first | with_reducible exact kn_int | with_reducible exact kn_str | with_reducible exact kn_tup | with_reducible exact kn_fl | with_reducible exact kn_bl | with_reducible exact kn_non | with_reducible assumption)))
  | ((with_reducible apply m_ixl); (focus (walk_at "at")); (focus rfl))
  | ((with_reducible apply m_ixl'); (focus (walk_at "at")); (focus (assumption)))
  | ((with_reducible apply m_ixki); (focus (walk_at "at")); (focus (assumption)))
  | ((with_reducible apply m_ixks); (focus (walk_at "at")); (focus (first | assumption | walk_at "lk")))
  | ((with_reducible apply m_stl); (focus (walk_at "at")); (focus rfl))
  | ((with_reducible apply m_stki); (focus (walk_at "at")); (focus (walk_at "sz")))
  | ((with_reducible apply m_stks); (focus (walk_at "at")); (focus (walk_at "sz")))
  | ((with_reducible apply m_itm); (focus (walk_at "at")))
  | ((with_reducible apply m_seq); (focus (walk_at "at")))
  | ((with_reducible apply m_lenl); (focus (walk_at "at")))
  | ((with_reducible apply m_lenk); (focus (walk_at "at")))
  | ((with_reducible apply m_ls); (focus (walk_at "at")))
  | ((with_reducible apply m_dk); (focus (walk_at "at")))
  | ((with_reducible apply m_rcL); (focus (walk_at "at")))
  | ((with_reducible apply m_rcD); (focus (walk_at "at")))
  | ((with_reducible apply m_trul); (focus (walk_at "at")))
  | ((with_reducible apply m_truk); (focus (walk_at "at")))
  | ((with_reducible apply m_inki); (focus (walk_at "at")))
  | ((with_reducible apply m_inks); (focus (walk_at "at")))
  | ((with_reducible apply m_fld); (focus (walk_at "at")); (focus (walk_at "lk")))
  | ((with_reducible apply m_put); (focus (walk_at "at")); (focus (walk_at "sz")))
  | ((with_reducible apply m_get1); (focus (walk_at "at")))
  | ((with_reducible apply m_get2); (focus (walk_at "at")))
  | ((with_reducible apply m_pop1); (focus (walk_at "at")))
  | ((with_reducible apply m_pop2); (focus (walk_at "at")))
  | ((with_reducible show ∃ d, atI _ _ = some d ∧ _); refine ⟨_, rfl, ?_⟩)
  | ((with_reducible show ∃ d, some _ = some d ∧ _); refine ⟨_, rfl, ?_⟩)
  | (with_reducible refine And.intro rfl ?_)
  | walk_at "sp")
local macro_rules | `(tactic| walk_at "g") => `(tactic| repeat (first | walk_at "v" | walk_at "s"))
local macro_rules | `(tactic| walk_at "ar") => `(tactic| first
  | ((with_reducible show IntMulOk _ _ ∧ _); refine And.intro (by first | exact mul_small (by omega) (by omega) | exact mulok_r (by omega) (by omega)) ?_)
  | ((with_reducible show CDivW _ _ ∧ _); refine And.intro (div_small (by omega) (by omega)) ?_)
  | ((with_reducible show CPow _ _ ∧ _); refine And.intro (by unfold CPow; decide) ?_)
  | ((with_reducible show 0 < _ ∧ _); refine And.intro (by omega) ?_)
  | ((with_reducible show (-(2 ^ 62) ≤ _ ∧ _ < 2 ^ 62) ∧ _); refine And.intro ⟨by omega, by omega⟩ ?_)
  | ((with_reducible show (-(2 ^ 62) ≤ _ ∧ _ < 2 ^ 62 ∧ -(2 ^ 62) ≤ _ ∧ _ < 2 ^ 62) ∧ _); refine And.intro ⟨by omega, by omega, by omega, by omega⟩ ?_))
local macro_rules | `(tactic| walk_at "g") => `(tactic| repeat (first | walk_at "v" | walk_at "s" | walk_at "ar"))
local macro_rules | `(tactic| walk_at "fr") => `(tactic| first | exact Fr.refl | assumption | (apply Fr.putr; rotate_left; (focus (simp; done)); walk_at "fr") | (refine Fr.newer ?_ (by assumption); walk_at "fr"))

variable {P : Program} {w : World} {K : PySem.W.Frag} {mg : Str → Option Value} {base : Heap} {A : CA}
local macro_rules | `(tactic| walk_at "s") => `(tactic| ((with_reducible refine And.intro ?_ ?_); (focus (first | with_reducible exact knx_int | with_reducible exact knx_str | with_reducible exact knx_tup | with_reducible exact knx_fl | with_reducible exact knx_bl | with_reducible exact knx_non))))
local macro_rules | `(tactic| walk_at "sp") => `(tactic| ((with_reducible show sp_is_integer _ _ _ _ _); refine ⟨_, rfl, by first | exact knx_int | exact knx_str | exact knx_tup | exact knx_fl | exact knx_bl | exact knx_non | assumption, ?_⟩))
local macro_rules | `(tactic| walk_at "sp") => `(tactic| ((with_reducible show sp_is_within _ _ _ _ _); refine ⟨_, _, _, rfl, by first | exact knx_int | exact knx_str | exact knx_tup | exact knx_fl | exact knx_bl | exact knx_non | assumption, ?_⟩))
local macro_rules | `(tactic| walk_at "sp") => `(tactic| ((with_reducible show sp_L_draw _ _ _ _ _); refine ⟨_, _, rfl, by assumption, by omega, by omega, ?_⟩))
local macro_rules | `(tactic| walk_at "lk") => `(tactic| first | exact lk_l | exact lk_w | exact lk_p | exact lk_r | rfl)
local macro_rules | `(tactic| walk_at "sp") => `(tactic| ((with_reducible apply m_put_w); (focus (walk_at "at"))))
local macro_rules | `(tactic| walk_at "sp") => `(tactic| ((with_reducible apply m_put_p); (focus (walk_at "at"))))
local macro_rules | `(tactic| walk_at "sp") => `(tactic| ((with_reducible apply m_put_r); (focus (walk_at "at"))))
local macro_rules | `(tactic| walk_at "sz") => `(tactic| (rw [sizeLine_eq]; omega))
local macro_rules | `(tactic| walk_at "sp") => `(tactic| ((with_reducible apply m_fdk); (focus (walk_at "at"))))
local macro_rules | `(tactic| walk_at "sp") => `(tactic| ((with_reducible apply m_meth); (focus (walk_at "at")); (focus (kernel_rfl))))
local macro_rules | `(tactic| walk_at "sp") => `(tactic| ((with_reducible apply m_aug); (focus (walk_at "at")); (focus (walk_at "lk"))))
local macro_rules | `(tactic| walk_at "sp") => `(tactic| ((with_reducible apply m_aug2); (focus (walk_at "at")); (focus (show 4 < 1000; decide))))
local macro_rules | `(tactic| walk_at "sp") => `(tactic| first | rw [pt_p] | rw [pt_w] | rw [pt_r])
local macro_rules | `(tactic| walk_at "sp") => `(tactic| ((with_reducible show sp_is_item _ _ _ _ _); refine ⟨_, rfl, by assumption, ?_⟩))
local macro_rules | `(tactic| walk_at "sp") => `(tactic| ((with_reducible show sp_are_items _ _ _ _ _); refine ⟨_, _, rfl, by first | exact knx_tup | assumption, by assumption, ?_⟩))
local macro_rules | `(tactic| walk_at "sp") => `(tactic| ((with_reducible show sp_Disk_check_block _ _ _ _ _); refine ⟨_, _, _, _, _, rfl, by assumption, by assumption, ?_, ?_⟩))
local macro_rules | `(tactic| walk_at "sp") => `(tactic| ((with_reducible show sp_are_items _ _ _ _ _); refine ⟨_, _, rfl, by assumption, by assumption, ?_⟩))
local macro_rules | `(tactic| walk_at "s") => `(tactic| ((with_reducible show ∃ d, atI _ (-1) = some d ∧ _); refine ⟨_, atI_last (by first | assumption | simp), ?_⟩))
local macro_rules | `(tactic| walk_at "s") => `(tactic| ((with_reducible show ∃ d, atI (_ :: _) 0 = some d ∧ _); refine ⟨_, atI_zero, ?_⟩))
local macro_rules | `(tactic| walk_at "s") => `(tactic| ((with_reducible show ∃ v, getK _ _ = some v ∧ _); refine ⟨_, (by assumption), ?_⟩))
local macro_rules | `(tactic| walk_at "s") => `(tactic| ((with_reducible apply m_stl); (focus (walk_at "at")); (focus (assumption))))
local macro_rules | `(tactic| walk_at "sp") => `(tactic| ((with_reducible show sp_Disk_reach_one _ _ _ _ _); refine ⟨_, _, _, _, _, rfl, by assumption, by assumption, by assumption, ?_, ?_⟩))
local macro_rules | `(tactic| walk_at "sp") => `(tactic| ((with_reducible show sp_is_lot _ _ _ _ _); refine ⟨_, _, rfl, by assumption, by assumption, ?_⟩))
local macro_rules | `(tactic| walk_at "sp") => `(tactic| ((with_reducible show sp_L_any _ _ _ _ _); refine ⟨_, _, _, rfl, by first | exact IsL.fl | assumption, by first | assumption | (intro e; cases e; done), by first | assumption | simp, by first | omega | (simp only [List.length_cons, List.length_nil]; omega), by assumption, ?_⟩))
local macro_rules | `(tactic| walk_at "lk") => `(tactic| first | exact gk_l | exact gk_w | exact gk_p | exact gk_r)
local macro_rules | `(tactic| walk_at "s") => `(tactic| ((with_reducible apply m_bput_w); (focus (walk_at "at"))))
local macro_rules | `(tactic| walk_at "s") => `(tactic| ((with_reducible apply m_bput_p); (focus (walk_at "at"))))
local macro_rules | `(tactic| walk_at "s") => `(tactic| ((with_reducible apply m_bput_r); (focus (walk_at "at"))))
local macro_rules | `(tactic| walk_at "sp") => `(tactic| ((with_reducible show sp_L_reached _ _ _ _ _); refine ⟨_, _, _, _, _, rfl, by assumption, by assumption, by assumption, ?_, ?_⟩))
local macro_rules | `(tactic| walk_at "sp") => `(tactic| ((with_reducible show sp_Disk_blocks _ _ _ _ _); refine ⟨_, _, _, _, rfl, by assumption, ?_⟩))
local macro_rules | `(tactic| walk_at "sp") => `(tactic| ((with_reducible show sp_Disk_reached _ _ _ _ _); refine ⟨_, _, _, _, rfl, by assumption, ?_⟩))
local macro_rules | `(tactic| walk_at "sp") => `(tactic| ((with_reducible show sp_Disk_waiting _ _ _ _ _); refine ⟨_, _, _, _, rfl, by assumption, by assumption, ?_⟩))
local macro_rules | `(tactic| walk_at "sp") => `(tactic| ((with_reducible show sp_Disk_read _ _ _ _ _); refine rd_i (by assumption) (by assumption) (by assumption) (by assumption) ?_))
local macro_rules | `(tactic| walk_at "sp") => `(tactic| ((with_reducible show sp_Disk_lying _ _ _ _ _); refine ly_i (by assumption) (by assumption) (by assumption) ?_))
local macro_rules | `(tactic| walk_at "sp") => `(tactic| rw [k_selfi])
local macro_rules | `(tactic| walk_at "s") => `(tactic| ((with_reducible apply m_eqc); (focus (assumption))))
local macro_rules | `(tactic| walk_at "sp") => `(tactic| ((with_reducible show sp_L_is_int _ _ _ _ _); refine ⟨_, _, _, rfl, by first | exact knx_int | assumption, ?_⟩))
local macro_rules | `(tactic| walk_at "sp") => `(tactic| ((with_reducible show sp_L_is_name _ _ _ _ _); refine ⟨_, _, rfl, by assumption, ?_⟩))
local macro_rules | `(tactic| walk_at "sp") => `(tactic| ((with_reducible show sp_L_deep _ _ _ _ _); refine ⟨_, rfl, by assumption, ?_⟩))
local macro_rules | `(tactic| walk_at "sp") => `(tactic| ((with_reducible show sp_L_odd _ _ _ _ _); refine ⟨_, _, rfl, by assumption, ?_⟩))
local macro_rules | `(tactic| walk_at "sp") => `(tactic| ((with_reducible show sp_L_content _ _ _ _ _); refine ⟨_, rfl, by assumption, ?_⟩))
theorem th_odd {S0 S : SS} {p : Addr} {F : List Addr} {o x : D} (ho : o = .ref p) (hF : ∀ a ∈ F, ∃ u, S0 a = some u) (h : x = o ∨ (Pure1 x ∧ ∀ xs, x = .tup xs → xs.length ≤ 60 ∧ ∀ z ∈ xs, Pure1 z) ∨ ∃ a kvs, x = .ref a ∧ S a = some (.dk kvs) ∧ S0 a = none) : ThT S p F x := by
  rcases h with rfl | ⟨h1, h2⟩ | ⟨a, kvs, rfl, h1, h2⟩
  · exact ⟨.inl ho, fun xs e => by rw [ho] at e; cases e⟩
  · exact ⟨.inr (.inl h1), fun xs e => ⟨(h2 xs e).1, fun z hz => .inr (.inl ((h2 xs e).2 z hz))⟩⟩
  · exact ⟨.inr (.inr ⟨a, kvs, rfl, h1, fun hm => by obtain ⟨u, e⟩ := hF a hm; rw [h2] at e; cases e⟩), fun xs e => by cases e⟩
theorem ex_fr {S S' : SS} {h : Addr} {F : List Addr} (hF : ∀ a ∈ F, ∃ u, S a = some u) (f : Fr [h] S S') (hh : HandAt S' h) : ∀ a ∈ F, ∃ u, S' a = some u := fun a ha => by
  by_cases e : a = h
  · rw [e]; exact hh.some
  · obtain ⟨u, hu⟩ := hF a ha
    exact ⟨u, f.one hu e⟩
theorem thT_tup {S : SS} {p : Addr} {F : List Addr} {xs : List D} (h1 : xs.length ≤ 60) (h2 : ∀ z ∈ xs, Th S p F z) : ThT S p F (.tup xs) := ⟨.inr (.inl pu_tup), fun ys e => by cases e; exact ⟨h1, h2⟩⟩
theorem th_here {S : SS} {p : Addr} {F : List Addr} {o d : D} (ho : Th S p F o) (h : d ∈ [D.int (10 ^ 30 + 1), D.int (-10 ^ 30 - 1), D.str "abcdefghijklm", D.str "A", D.str "a b", D.str "1", D.bl true, D.non, D.tup [], D.fl [D.int 1], o]) : Th S p F d := by
  simp only [List.mem_cons, List.not_mem_nil, or_false] at h
  rcases h with rfl | rfl | rfl | rfl | rfl | rfl | rfl | rfl | rfl | rfl | rfl
  · exact .inr (.inl pu_int)
  · exact .inr (.inl pu_int)
  · exact .inr (.inl (pu_str (by decide)))
  · exact .inr (.inl (pu_str (by decide)))
  · exact .inr (.inl (pu_str (by decide)))
  · exact .inr (.inl (pu_str (by decide)))
  · exact .inr (.inl pu_bl)
  · exact .inr (.inl pu_non)
  · exact .inr (.inl pu_tup)
  · exact .inr (.inl pu_fl)
  · exact ho
theorem flat1 {x : D} {n : Nat} : (List.replicate n [x]).flatten = List.replicate n x := by
  induction n with
  | zero => rfl
  | succ n ih => rw [List.replicate_succ, List.flatten_cons, ih]; rfl
def sp_L_some_content (A : CA) : DSp := fun ds S Q _ => ∃ h p fs F, ds = [.ref h, .ref p] ∧ HandAt S h ∧ S p = some (.ins A.cDisk fs) ∧ p ≠ h ∧ h ∈ F ∧ (∀ a ∈ F, ∃ u, S a = some u) ∧ ∀ x S', ThT S' p F x → HandAt S' h → Fr [h] S S' → Q x S'
theorem ok_L_some_content (T : Top K mg A) : Fn P w K mg A.base 5 "_law_some_content" (sp_L_some_content A) := by
  obtain ⟨f, fd, hm, F⟩ := T.f_L_some_content
  refine fn_mk F hm (F.binds fun _ _ _ _ _ _ us hl => match us, hl with | [_, _], _ => by kernel_rfl) sc_L_some_content (fun ds S Q E h => by repeat (first | (obtain ⟨e, _⟩ := h; subst e; rfl) | (obtain ⟨_, h⟩ := h))) fun cdv A' outer s H E Ed ds S Q hr h => ?_
  have nd : (fnC P w K mg A.base ["_law_hand_here", "_law_other", "_law_found", "_law_at", "_law_odd_here", "_law_some"] "_law_some_content" s_L_some_content f cdv A' outer s H E Ed).X.N.Nodup := sc_L_some_content.nd
  have n0 : Nm (fnC P w K mg A.base ["_law_hand_here", "_law_other", "_law_found", "_law_at", "_law_odd_here", "_law_some"] "_law_some_content" s_L_some_content f cdv A' outer s H E Ed) 0 "_law_hand_here" := ⟨rfl, by first | exact .inl rfl | exact .inr rfl, .inl rfl, by decide +kernel, by decide +kernel⟩
  have n1 : Nm (fnC P w K mg A.base ["_law_hand_here", "_law_other", "_law_found", "_law_at", "_law_odd_here", "_law_some"] "_law_some_content" s_L_some_content f cdv A' outer s H E Ed) 1 "_law_other" := ⟨rfl, by first | exact .inl rfl | exact .inr rfl, .inl rfl, by decide +kernel, by decide +kernel⟩
  have n2 : Nm (fnC P w K mg A.base ["_law_hand_here", "_law_other", "_law_found", "_law_at", "_law_odd_here", "_law_some"] "_law_some_content" s_L_some_content f cdv A' outer s H E Ed) 2 "_law_found" := ⟨rfl, by first | exact .inl rfl | exact .inr rfl, .inl rfl, by decide +kernel, by decide +kernel⟩
  have n3 : Nm (fnC P w K mg A.base ["_law_hand_here", "_law_other", "_law_found", "_law_at", "_law_odd_here", "_law_some"] "_law_some_content" s_L_some_content f cdv A' outer s H E Ed) 3 "_law_at" := ⟨rfl, by first | exact .inl rfl | exact .inr rfl, .inl rfl, by decide +kernel, by decide +kernel⟩
  have n4 : Nm (fnC P w K mg A.base ["_law_hand_here", "_law_other", "_law_found", "_law_at", "_law_odd_here", "_law_some"] "_law_some_content" s_L_some_content f cdv A' outer s H E Ed) 4 "_law_odd_here" := ⟨rfl, by first | exact .inl rfl | exact .inr rfl, .inl rfl, by decide +kernel, by decide +kernel⟩
  have n5 : Nm (fnC P w K mg A.base ["_law_hand_here", "_law_other", "_law_found", "_law_at", "_law_odd_here", "_law_some"] "_law_some_content" s_L_some_content f cdv A' outer s H E Ed) 5 "_law_some" := ⟨rfl, by first | exact .inl rfl | exact .inr rfl, .inl rfl, by decide +kernel, by decide +kernel⟩
  refine qz_go (c := (fnC P w K mg A.base ["_law_hand_here", "_law_other", "_law_found", "_law_at", "_law_odd_here", "_law_some"] "_law_some_content" s_L_some_content f cdv A' outer s H E Ed)) ?_
  refine ⟨_, 
    (qz_cons (qs_st n2 nd (q_call (ok_L_content T) (hr.mono (by decide)) (qa_cons (q_n n0) qa_nil))) 
    (qz_cons (qs_st n3 nd (q_call (ok_L_draw T) (hr.mono (by decide)) (qa_cons (q_n n0) (qa_cons (q_bin (q_bi T.b_len bt_len (rLen_ok) (qa_cons (q_n n2) qa_nil)) q_int) qa_nil)))) 
    (qz_cons (qs_st n4 nd (q_lst (qa_cons (q_bin (q_bin q_int q_int) q_int) (qa_cons (q_bin (q_neg (q_bin q_int q_int)) q_int) (qa_cons q_str (qa_cons q_str (qa_cons q_str (qa_cons q_str (qa_cons q_bl (qa_cons q_non (qa_cons (q_tup qa_nil) (qa_cons (q_lst (qa_cons q_int qa_nil)) (qa_cons (q_call (ok_L_odd T) (hr.mono (by decide)) (qa_cons (q_n n0) (qa_cons (q_n n1) qa_nil))) qa_nil))))))))))))) 
    (qz_cons (qs_st n5 nd (q_lst (qa_cons (q_n n2) (qa_cons (q_bin (q_bin (q_slice (q_n n2) qo_none (qo_some (q_n n3))) (q_tup (qa_cons (q_call (ok_L_any T) (hr.mono (by decide)) (qa_cons (q_n n0) (qa_cons (q_n n4) qa_nil))) qa_nil))) (q_slice (q_n n2) (qo_some (q_n n3)) qo_none)) (qa_cons (q_bt T.b_list bt_list (rList_ok) (qa_cons (q_n n2) qa_nil)) (qa_cons (q_repT (qa_cons q_int qa_nil) q_int) (qa_cons (q_repT (qa_cons q_str qa_nil) q_int) qa_nil))))))) (qz_one (qs_ret (q_call (ok_L_any T) (hr.mono (by decide)) (qa_cons (q_n n0) (qa_cons (q_bin (q_n n5) (q_lst (qa_cons (q_bin (q_bin (q_slice (q_n n2) qo_none (qo_some (q_n n3))) (q_tup (qa_cons (q_call (ok_L_any T) (hr.mono (by decide)) (qa_cons (q_n n0) (qa_cons (q_n n4) qa_nil))) qa_nil))) (q_slice (q_n n2) (qo_some (q_bin (q_n n3) q_int)) qo_none)) (qa_cons (q_call (ok_L_odd T) (hr.mono (by decide)) (qa_cons (q_n n0) (qa_cons (q_n n1) qa_nil))) qa_nil)))) qa_nil))))))))), ?_⟩
  clear nd n0 n1 n2 n3 n4 n5
  obtain ⟨h, p, fs, F, rfl, hh, hp, nph, hF, hex, q⟩ := h
  have mF : ∀ a ∈ [h], a ∈ F := fun a ha => by rw [List.mem_singleton] at ha; rw [ha]; exact hF
  walk_at "g"
  intro x S1 hx hh1 f1
  obtain ⟨xs, rfl, hl, hc⟩ := hx
  have ex1 := ex_fr hex f1 hh1
  walk_at "g"
  intro k S2 k0 k1 hh2 f2
  have ex2 := ex_fr ex1 f2 hh2
  walk_at "g"
  intro o1 S3 ho1 hh3 f3
  have ex3 := ex_fr ex2 f3 hh3
  have t1 := th_odd rfl ex2 ho1
  obtain ⟨n, rfl⟩ : ∃ n : Nat, k = n := ⟨k.toNat, by omega⟩
  walk_at "g"
  intro d S4 hd hh4 f4
  have t2 := th_here (t1.fr f4 mF).1 hd
  rw [cutD_preY, cutD_sufY]
  have hx1 := List.length_take (l := xs) (i := n)
  have hx2 := List.length_drop (l := xs) (i := n)
  have hx3 := List.length_drop (l := xs) (i := n + 1)
  refine ⟨by rw [sizeLine_eq]; omega, by rw [sizeLine_eq, List.length_append]; simp only [List.length_cons, List.length_nil]; omega, ⟨(fun e => by cases e), by decide, by decide, by decide, by decide⟩, ⟨(fun e => by cases e), by decide, by decide, by decide, by decide⟩, ?_⟩
  refine ⟨h, _, _, rfl, .inl rfl, (fun e => by cases e), by simp, by simp, hh4, fun x S5 hx5 hh5 f5 => ?_⟩
  have t3 := th_here ((t1.fr f4 mF).fr f5 mF).1 hx5
  have e1 : cutD xs (some ((n : Int) + 1)) none = xs.drop (n + 1) := by rw [show (n : Int) + 1 = ((n + 1 : Nat) : Int) from by omega]; exact cutD_sufY
  rw [e1]
  have ex4 := ex_fr ex3 f4 hh4
  have ex5 := ex_fr ex4 f5 hh5
  refine ⟨by rw [sizeLine_eq]; omega, by rw [sizeLine_eq, List.length_append]; simp only [List.length_cons, List.length_nil]; omega, ?_⟩
  walk_at "g"
  intro o2 S6 ho2 hh6 f6
  have t4 := th_odd (p := p) rfl ex5 ho2
  refine ⟨by rw [sizeLine_eq]; decide, ?_⟩
  refine ⟨h, _, _, rfl, .inl rfl, (fun e => by cases e), by simp, by simp, hh6, fun y S7 hy hh7 f7 => ?_⟩
  have hxs : ∀ z ∈ xs, Th S7 p F z := fun z hz => .inr (.inl (citem_pure (hc z hz)))
  refine q y S7 ?_ hh7 ((((((f1.trans f2).trans f3).trans f4).trans f5).trans f6).trans f7)
  rw [flat1, flat1] at hy
  simp only [List.mem_append, List.mem_cons, List.not_mem_nil, or_false] at hy
  rcases hy with (rfl | rfl | rfl | rfl | rfl) | rfl | rfl
  · exact thT_tup (by omega) hxs
  · refine thT_tup (by simp only [List.length_append, List.length_cons, List.length_nil]; omega) fun z hz => ?_
    simp only [List.mem_append, List.mem_cons, List.not_mem_nil, or_false] at hz
    rcases hz with (hz | rfl) | hz
    · exact hxs z (List.mem_of_mem_take hz)
    · exact ((t2.fr f5 mF).fr f6 mF).fr f7 mF
    · exact hxs z (List.mem_of_mem_drop hz)
  · exact ⟨.inr (.inl pu_fl), fun ys e => by cases e⟩
  · exact thT_tup (by rw [List.length_replicate]; decide) fun z hz => by rw [(List.mem_replicate.mp hz).2]; exact .inr (.inl pu_int)
  · exact thT_tup (by rw [List.length_replicate]; decide) fun z hz => by rw [(List.mem_replicate.mp hz).2]; exact .inr (.inl (pu_str (by decide)))
  · refine thT_tup (by simp only [List.length_append, List.length_cons, List.length_nil]; omega) fun z hz => ?_
    simp only [List.mem_append, List.mem_cons, List.not_mem_nil, or_false] at hz
    rcases hz with (hz | rfl) | hz
    · exact hxs z (List.mem_of_mem_take hz)
    · exact (t3.fr f6 mF).fr f7 mF
    · exact hxs z (List.mem_of_mem_drop hz)
  · exact t4.fr f7 mF

end K02

namespace K02
open PySem L2 DP
local macro_rules | `(tactic| walk_at "v") => `(tactic| dsimp only [startD, k_nt, k_nf, k_ta, k_fa, k_to, k_fo, Int.reduceToNat, List.set, wipeD, k_p6, k_p16, k_p17, k_p18, k_p30, Bool.not_true, Bool.not_false, Bool.and_true, Bool.true_and, Bool.and_false, Bool.false_and, Bool.or_true, Bool.true_or, Bool.or_false, Bool.false_or, List.map, fnC_DX, List.length_cons, List.length_nil, k_rv0, k_rv1, k_rv2, k_rbl, k_rint, k_rI2, k_badd, k_bSub, k_bMult, k_bFloorDiv, k_bMod, k_bPow, k_addi, k_addt, k_addf, k_itm, k_ceq, k_cne, k_cis, k_cisn, k_cin, k_cnin, k_ciLt, k_csLt, k_ciLtE, k_csLtE, k_ciGt, k_csGt, k_ciGtE, k_csGtE, k_eqi, k_eqs, k_eqb, k_isn, k_isb, k_keyi, k_keys, k_ins, k_int, k_inf, k_tru0, k_tru1, k_tru2, k_tru3, k_tru4, k_tru5, k_ipa, k_ips, k_cons, k_cons2, k_cons3, k_tup, k_seqf, k_seqt, k_seqs, k_rfl, k_patn, k_patt, k_setN0, k_setN1, k_ixt, k_ixf, k_ixs, k_opt0, k_opt1, k_slt, k_slf, k_sls, k_rev, k_r1, k_r2, k_lent, k_lenf, k_lens, k_abs, k_min, k_max, k_int1, k_lstt, k_lstf, k_lstMt, k_lstMf, k_tupt, k_tupf, k_bls, k_sum, k_rcL, k_rcS, isI_non, isI_bl, isI_int, isI_str, isI_tup, isI_fl, isI_ref, isB_non, isB_bl, isB_int, isB_str, isB_tup, isB_fl, isB_ref, isS_non, isS_bl, isS_int, isS_str, isS_tup, isS_fl, isS_ref, isT_non, isT_bl, isT_int, isT_str, isT_tup, isT_fl, isT_ref, isInt_non, isInt_bl, isInt_int, isInt_str, isInt_tup, isInt_fl, isInt_ref, isNon_non, isNon_bl, isNon_int, isNon_str, isNon_tup, isNon_fl, isNon_ref, isLs_non, isLs_bl, isLs_int, isLs_str, isLs_tup, isLs_fl, isDc_non, isDc_bl, isDc_int, isDc_str, isDc_tup, isDc_fl])
local macro_rules | `(tactic| walk_at "lk") => `(tactic| rfl)
local macro_rules | `(tactic| walk_at "sz") => `(tactic| first | assumption | (simp only [List.length_cons, List.length_nil]; decide) | omega)
local macro_rules | `(tactic| walk_at "at") => `(tactic| first | assumption | exact sup_same | (refine sup_at (by assumption) ?_; walk_at "at"))
local macro_rules | `(tactic| walk_at "sp") => `(tactic| fail)
local macro_rules | `(tactic| walk_at "s") => `(tactic| first
  | (with_reducible refine iteT ?_)
  | (with_reducible refine iteF ?_)
  | ((with_reducible refine And.intro ?_ ?_); (focus (first | with_reducible exact kn_int | with_reducible exact kn_str | with_reducible exact kn_tup | with_reducible exact kn_fl | with_reducible exact kn_bl | with_reducible exact kn_non | with_reducible assumption)))
  | ((with_reducible apply m_ixl); (focus (walk_at "at")); (focus rfl))
  | ((with_reducible apply m_ixl'); (focus (walk_at "at")); (focus (assumption)))
  | ((with_reducible apply m_ixki); (focus (walk_at "at")); (focus (assumption)))
  | ((with_reducible apply m_ixks); (focus (walk_at "at")); (focus (first | assumption | walk_at "lk")))
  | ((with_reducible apply m_stl); (focus (walk_at "at")); (focus rfl))
  | ((with_reducible apply m_stki); (focus (walk_at "at")); (focus (walk_at "sz")))
  | ((with_reducible apply m_stks); (focus (walk_at "at")); (focus (walk_at "sz")))
  | ((with_reducible apply m_itm); (focus (walk_at "at")))
  | ((with_reducible apply m_seq); (focus (walk_at "at")))
  | ((with_reducible apply m_lenl); (focus (walk_at "at")))
  | ((with_reducible apply m_lenk); (focus (walk_at "at")))
  | ((with_reducible apply m_ls); (focus (walk_at "at")))
  | ((with_reducible apply m_dk); (focus (walk_at "at")))
  | ((with_reducible apply m_rcL); (focus (walk_at "at")))
  | ((with_reducible apply m_rcD); (focus (walk_at "at")))
  | ((with_reducible apply m_trul); (focus (walk_at "at")))
  | ((with_reducible apply m_truk); (focus (walk_at "at")))
  | ((with_reducible apply m_inki); (focus (walk_at "at")))
  | ((with_reducible apply m_inks); (focus (walk_at "at")))
  | ((with_reducible apply m_fld); (focus (walk_at "at")); (focus (walk_at "lk")))
  | ((with_reducible apply m_put); (focus (walk_at "at")); (focus (walk_at "sz")))
  | ((with_reducible apply m_get1); (focus (walk_at "at")))
  | ((with_reducible apply m_get2); (focus (walk_at "at")))
  | ((with_reducible apply m_pop1); (focus (walk_at "at")))
  | ((with_reducible apply m_pop2); (focus (walk_at "at")))
  | ((with_reducible show ∃ d, atI _ _ = some d ∧ _); refine ⟨_, rfl, ?_⟩)
  | ((with_reducible show ∃ d, some _ = some d ∧ _); refine ⟨_, rfl, ?_⟩)
  | (with_reducible refine And.intro rfl ?_)
  | walk_at "sp")
local macro_rules | `(tactic| walk_at "g") => `(tactic| repeat (first | walk_at "v" | walk_at "s"))
local macro_rules | `(tactic| walk_at "ar") => `(tactic| first
  | ((with_reducible show IntMulOk _ _ ∧ _); refine And.intro (by first | exact mul_small (by omega) (by omega) | exact mulok_r (by omega) (by omega)) ?_)
  | ((with_reducible show CDivW _ _ ∧ _); refine And.intro (div_small (by omega) (by omega)) ?_)
  | ((with_reducible show CPow _ _ ∧ _); refine And.intro (by unfold CPow; decide) ?_)
  | ((with_reducible show 0 < _ ∧ _); refine And.intro (by omega) ?_)
  | ((with_reducible show (-(2 ^ 62) ≤ _ ∧ _ < 2 ^ 62) ∧ _); refine And.intro ⟨by omega, by omega⟩ ?_)
  | ((with_reducible show (-(2 ^ 62) ≤ _ ∧ _ < 2 ^ 62 ∧ -(2 ^ 62) ≤ _ ∧ _ < 2 ^ 62) ∧ _); refine And.intro ⟨by omega, by omega, by omega, by omega⟩ ?_))
local macro_rules | `(tactic| walk_at "g") => `(tactic| repeat (first | walk_at "v" | walk_at "s" | walk_at "ar"))
local macro_rules | `(tactic| walk_at "fr") => `(tactic| first | exact Fr.refl | assumption | (apply Fr.putr; rotate_left; (focus (simp; done)); walk_at "fr") | (refine Fr.newer ?_ (by assumption); walk_at "fr"))

variable {P : Program} {w : World} {K : PySem.W.Frag} {mg : Str → Option Value} {base : Heap} {A : CA}
local macro_rules | `(tactic| walk_at "s") => `(tactic| ((with_reducible refine And.intro ?_ ?_); (focus (first | with_reducible exact knx_int | with_reducible exact knx_str | with_reducible exact knx_tup | with_reducible exact knx_fl | with_reducible exact knx_bl | with_reducible exact knx_non))))
local macro_rules | `(tactic| walk_at "sp") => `(tactic| ((with_reducible show sp_is_integer _ _ _ _ _); refine ⟨_, rfl, by first | exact knx_int | exact knx_str | exact knx_tup | exact knx_fl | exact knx_bl | exact knx_non | assumption, ?_⟩))
local macro_rules | `(tactic| walk_at "sp") => `(tactic| ((with_reducible show sp_is_within _ _ _ _ _); refine ⟨_, _, _, rfl, by first | exact knx_int | exact knx_str | exact knx_tup | exact knx_fl | exact knx_bl | exact knx_non | assumption, ?_⟩))
local macro_rules | `(tactic| walk_at "sp") => `(tactic| ((with_reducible show sp_L_draw _ _ _ _ _); refine ⟨_, _, rfl, by assumption, by omega, by omega, ?_⟩))
local macro_rules | `(tactic| walk_at "lk") => `(tactic| first | exact lk_l | exact lk_w | exact lk_p | exact lk_r | rfl)
local macro_rules | `(tactic| walk_at "sp") => `(tactic| ((with_reducible apply m_put_w); (focus (walk_at "at"))))
local macro_rules | `(tactic| walk_at "sp") => `(tactic| ((with_reducible apply m_put_p); (focus (walk_at "at"))))
local macro_rules | `(tactic| walk_at "sp") => `(tactic| ((with_reducible apply m_put_r); (focus (walk_at "at"))))
local macro_rules | `(tactic| walk_at "sz") => `(tactic| (rw [sizeLine_eq]; omega))
local macro_rules | `(tactic| walk_at "sp") => `(tactic| ((with_reducible apply m_fdk); (focus (walk_at "at"))))
local macro_rules | `(tactic| walk_at "sp") => `(tactic| ((with_reducible apply m_meth); (focus (walk_at "at")); (focus (kernel_rfl))))
local macro_rules | `(tactic| walk_at "sp") => `(tactic| ((with_reducible apply m_aug); (focus (walk_at "at")); (focus (walk_at "lk"))))
local macro_rules | `(tactic| walk_at "sp") => `(tactic| ((with_reducible apply m_aug2); (focus (walk_at "at")); (focus (show 4 < 1000; decide))))
local macro_rules | `(tactic| walk_at "sp") => `(tactic| first | rw [pt_p] | rw [pt_w] | rw [pt_r])
local macro_rules | `(tactic| walk_at "sp") => `(tactic| ((with_reducible show sp_is_item _ _ _ _ _); refine ⟨_, rfl, by assumption, ?_⟩))
local macro_rules | `(tactic| walk_at "sp") => `(tactic| ((with_reducible show sp_are_items _ _ _ _ _); refine ⟨_, _, rfl, by first | exact knx_tup | assumption, by assumption, ?_⟩))
local macro_rules | `(tactic| walk_at "sp") => `(tactic| ((with_reducible show sp_Disk_check_block _ _ _ _ _); refine ⟨_, _, _, _, _, rfl, by assumption, by assumption, ?_, ?_⟩))
local macro_rules | `(tactic| walk_at "sp") => `(tactic| ((with_reducible show sp_are_items _ _ _ _ _); refine ⟨_, _, rfl, by assumption, by assumption, ?_⟩))
local macro_rules | `(tactic| walk_at "s") => `(tactic| ((with_reducible show ∃ d, atI _ (-1) = some d ∧ _); refine ⟨_, atI_last (by first | assumption | simp), ?_⟩))
local macro_rules | `(tactic| walk_at "s") => `(tactic| ((with_reducible show ∃ d, atI (_ :: _) 0 = some d ∧ _); refine ⟨_, atI_zero, ?_⟩))
local macro_rules | `(tactic| walk_at "s") => `(tactic| ((with_reducible show ∃ v, getK _ _ = some v ∧ _); refine ⟨_, (by assumption), ?_⟩))
local macro_rules | `(tactic| walk_at "s") => `(tactic| ((with_reducible apply m_stl); (focus (walk_at "at")); (focus (assumption))))
local macro_rules | `(tactic| walk_at "sp") => `(tactic| ((with_reducible show sp_Disk_reach_one _ _ _ _ _); refine ⟨_, _, _, _, _, rfl, by assumption, by assumption, by assumption, ?_, ?_⟩))
local macro_rules | `(tactic| walk_at "sp") => `(tactic| ((with_reducible show sp_is_lot _ _ _ _ _); refine ⟨_, _, rfl, by assumption, by assumption, ?_⟩))
local macro_rules | `(tactic| walk_at "sp") => `(tactic| ((with_reducible show sp_L_any _ _ _ _ _); refine ⟨_, _, _, rfl, by first | exact IsL.fl | assumption, by first | assumption | (intro e; cases e; done), by first | assumption | simp, by first | omega | (simp only [List.length_cons, List.length_nil]; omega), by assumption, ?_⟩))
local macro_rules | `(tactic| walk_at "lk") => `(tactic| first | exact gk_l | exact gk_w | exact gk_p | exact gk_r)
local macro_rules | `(tactic| walk_at "s") => `(tactic| ((with_reducible apply m_bput_w); (focus (walk_at "at"))))
local macro_rules | `(tactic| walk_at "s") => `(tactic| ((with_reducible apply m_bput_p); (focus (walk_at "at"))))
local macro_rules | `(tactic| walk_at "s") => `(tactic| ((with_reducible apply m_bput_r); (focus (walk_at "at"))))
local macro_rules | `(tactic| walk_at "sp") => `(tactic| ((with_reducible show sp_L_reached _ _ _ _ _); refine ⟨_, _, _, _, _, rfl, by assumption, by assumption, by assumption, ?_, ?_⟩))
local macro_rules | `(tactic| walk_at "sp") => `(tactic| ((with_reducible show sp_Disk_blocks _ _ _ _ _); refine ⟨_, _, _, _, rfl, by assumption, ?_⟩))
local macro_rules | `(tactic| walk_at "sp") => `(tactic| ((with_reducible show sp_Disk_reached _ _ _ _ _); refine ⟨_, _, _, _, rfl, by assumption, ?_⟩))
local macro_rules | `(tactic| walk_at "sp") => `(tactic| ((with_reducible show sp_Disk_waiting _ _ _ _ _); refine ⟨_, _, _, _, rfl, by assumption, by assumption, ?_⟩))
local macro_rules | `(tactic| walk_at "sp") => `(tactic| ((with_reducible show sp_Disk_read _ _ _ _ _); refine rd_i (by assumption) (by assumption) (by assumption) (by assumption) ?_))
local macro_rules | `(tactic| walk_at "sp") => `(tactic| ((with_reducible show sp_Disk_lying _ _ _ _ _); refine ly_i (by assumption) (by assumption) (by assumption) ?_))
local macro_rules | `(tactic| walk_at "sp") => `(tactic| rw [k_selfi])
local macro_rules | `(tactic| walk_at "s") => `(tactic| ((with_reducible apply m_eqc); (focus (assumption))))
local macro_rules | `(tactic| walk_at "sp") => `(tactic| ((with_reducible show sp_L_is_int _ _ _ _ _); refine ⟨_, _, _, rfl, by first | exact knx_int | assumption, ?_⟩))
local macro_rules | `(tactic| walk_at "sp") => `(tactic| ((with_reducible show sp_L_is_name _ _ _ _ _); refine ⟨_, _, rfl, by assumption, ?_⟩))
local macro_rules | `(tactic| walk_at "sp") => `(tactic| ((with_reducible show sp_L_deep _ _ _ _ _); refine ⟨_, rfl, by assumption, ?_⟩))
local macro_rules | `(tactic| walk_at "sp") => `(tactic| ((with_reducible show sp_L_odd _ _ _ _ _); refine ⟨_, _, rfl, by assumption, ?_⟩))
local macro_rules | `(tactic| walk_at "sp") => `(tactic| ((with_reducible show sp_L_content _ _ _ _ _); refine ⟨_, rfl, by assumption, ?_⟩))
theorem k_selfS {s : Str} : decide (s = s) = true := decide_eq_true rfl
local macro_rules | `(tactic| walk_at "sp") => `(tactic| rw [k_selfS])
local macro_rules | `(tactic| walk_at "sp") => `(tactic| ((with_reducible show sp_L_some_content _ _ _ _ _); refine ⟨_, _, _, _, rfl, by assumption, by assumption, by assumption, by assumption, by assumption, ?_⟩))
local macro_rules | `(tactic| walk_at "sp") => `(tactic| ((with_reducible show sp_L_is_content _ _ _ _ _); refine ⟨_, rfl, by assumption, by assumption, ?_⟩))
local macro_rules | `(tactic| walk_at "sp") => `(tactic| ((with_reducible show sp_L_hand _ _ _ _ _); refine ⟨_, rfl, by assumption, ?_⟩))
theorem irng_sucZ {lo : Int} {n : Nat} : irng lo (n + 1) = .int lo :: irng (lo + 1) n := by
  unfold irng
  rw [List.range_succ_eq_map, List.map_cons, List.map_map]
  congr 1
  · simp
  · refine List.map_congr_left fun k _ => ?_
    show D.int _ = D.int _
    simp only [Nat.succ_eq_add_one, Int.natCast_add]
    congr 1
    omega
theorem lotB_lotX {m : Int} : ∀ {bs : List Int} {a : Int}, lotB m a bs = true → lotX m a (bs.map D.int) = true
  | [], _, _ => rfl
  | b :: bs, a, h => by
    unfold lotB at h
    rw [Bool.and_eq_true] at h
    show (inR (.int b) (a + 1) (m - 1) && lotX m b (bs.map D.int)) = true
    rw [lotB_lotX h.2, Bool.and_true]
    exact h.1
theorem lotB_lotG {m : Int} {bs : List Int} (h : lotB m (-1) bs = true) : lotG m (.tup (bs.map D.int)) = true := lotB_lotX h
/-- the state of a turn -/
structure St (A : CA) (h p l w q l2 w2 : Addr) (B n : Nat) (b : D) (S : SS) (d1 d2 : DM) : Prop where
  tb : S A.t_law = some (.tb A.tabs)
  hh : HandAt S h
  t : Tw A.cDisk S p l w q l2 w2 d1 d2
  ok : DOk d2
  ok1 : DOk d1
  po : d2.po = .non
  po1 : d1.po = .non
  ln : d2.ly.length = B
  ln1 : d1.ly.length = B
  pe : pendL d2.wa ≤ n
  th : ThT S p [h, p, l, w, q, l2, w2] b
section
variable {h p l w q l2 w2 : Addr} {B n : Nat} {b : D} {S S' : SS} {d1 d2 : DM}
theorem St.fr {F' : List Addr} (s : St A h p l w q l2 w2 B n b S d1 d2) (f : Fr F' S S') (hh : HandAt S' h) (m : ∀ z ∈ [p, l, w, q, l2, w2], z ∉ F') (m2 : ∀ z ∈ F', z ∈ [h, p, l, w, q, l2, w2]) (m3 : A.t_law ∉ F') : St A h p l w q l2 w2 B n b S' d1 d2 :=
  ⟨f _ _ s.tb m3, hh, s.t.fr f m, s.ok, s.ok1, s.po, s.po1, s.ln, s.ln1, s.pe, s.th.fr f m2⟩
theorem St.nil (s : St A h p l w q l2 w2 B n b S d1 d2) (f : Fr [] S S') : St A h p l w q l2 w2 B n b S' d1 d2 := s.fr f (s.hh.fr f (by simp)) (by simp) (by simp) (by simp)
theorem St.hand (s : St A h p l w q l2 w2 B n b S d1 d2) (z1 : h ≠ l) (z2 : h ≠ l2) (f : Fr [h] S S') (hh : HandAt S' h) : St A h p l w q l2 w2 B n b S' d1 d2 :=
  s.fr f hh (s.t.hnd s.hh z1 z2) (by simp) (by simpa using hand_tab s.hh s.tb)
theorem St.kb (s : St A h p l w q l2 w2 B n b S d1 d2) : KnX A.cDisk S b := s.th.1.knx s.t.hd.1
end
theorem ok_law (T : Top K mg A) {f : Addr} {fd : FuncData} (F : FunC K "law" "law" s_law f fd A.k_law) : FnOk P w K mg A.base (L2.CX P w) 12 f fd ["_law_script"] (lift K (spLawT A.T0 A.tabs)) := by
  refine fn_okC F sc_law (fun ds S Q E ⟨_, e, _⟩ => by subst e; rfl) fun A' outer s H E Ed ds S Q hr h => ?_
  have nd : (fnC P w K mg A.base ["_law_script", "_law_hand_here", "_law_many", "_law_blocks", "_law_disk", "_law_book_here", "_law_turn", "_law_block", "_law_is_block", "_law_content_here", "_law_due", "_law_some", "_law_lot", "_law_is_lot_here", "_law_power"] "law" s_law f (.ref A.k_law) A' outer s H E Ed).X.N.Nodup := sc_law.nd
  have n0 : Nm (fnC P w K mg A.base ["_law_script", "_law_hand_here", "_law_many", "_law_blocks", "_law_disk", "_law_book_here", "_law_turn", "_law_block", "_law_is_block", "_law_content_here", "_law_due", "_law_some", "_law_lot", "_law_is_lot_here", "_law_power"] "law" s_law f (.ref A.k_law) A' outer s H E Ed) 0 "_law_script" := ⟨rfl, by first | exact .inl rfl | exact .inr rfl, .inl rfl, by decide +kernel, by decide +kernel⟩
  have n1 : Nm (fnC P w K mg A.base ["_law_script", "_law_hand_here", "_law_many", "_law_blocks", "_law_disk", "_law_book_here", "_law_turn", "_law_block", "_law_is_block", "_law_content_here", "_law_due", "_law_some", "_law_lot", "_law_is_lot_here", "_law_power"] "law" s_law f (.ref A.k_law) A' outer s H E Ed) 1 "_law_hand_here" := ⟨rfl, by first | exact .inl rfl | exact .inr rfl, .inl rfl, by decide +kernel, by decide +kernel⟩
  have a2 : (fnC P w K mg A.base ["_law_script", "_law_hand_here", "_law_many", "_law_blocks", "_law_disk", "_law_book_here", "_law_turn", "_law_block", "_law_is_block", "_law_content_here", "_law_due", "_law_some", "_law_lot", "_law_is_lot_here", "_law_power"] "law" s_law f (.ref A.k_law) A' outer s H E Ed).X.N[2]? = some ("_law_many" : Str) := rfl
  have n2 : Nm (fnC P w K mg A.base ["_law_script", "_law_hand_here", "_law_many", "_law_blocks", "_law_disk", "_law_book_here", "_law_turn", "_law_block", "_law_is_block", "_law_content_here", "_law_due", "_law_some", "_law_lot", "_law_is_lot_here", "_law_power"] "law" s_law f (.ref A.k_law) A' outer s H E Ed) 2 "_law_many" := ⟨rfl, by first | exact .inl rfl | exact .inr rfl, .inl rfl, by decide +kernel, by decide +kernel⟩
  have n3 : Nm (fnC P w K mg A.base ["_law_script", "_law_hand_here", "_law_many", "_law_blocks", "_law_disk", "_law_book_here", "_law_turn", "_law_block", "_law_is_block", "_law_content_here", "_law_due", "_law_some", "_law_lot", "_law_is_lot_here", "_law_power"] "law" s_law f (.ref A.k_law) A' outer s H E Ed) 3 "_law_blocks" := ⟨rfl, by first | exact .inl rfl | exact .inr rfl, .inl rfl, by decide +kernel, by decide +kernel⟩
  have a4 : (fnC P w K mg A.base ["_law_script", "_law_hand_here", "_law_many", "_law_blocks", "_law_disk", "_law_book_here", "_law_turn", "_law_block", "_law_is_block", "_law_content_here", "_law_due", "_law_some", "_law_lot", "_law_is_lot_here", "_law_power"] "law" s_law f (.ref A.k_law) A' outer s H E Ed).X.N[4]? = some ("_law_disk" : Str) := rfl
  have n4 : Nm (fnC P w K mg A.base ["_law_script", "_law_hand_here", "_law_many", "_law_blocks", "_law_disk", "_law_book_here", "_law_turn", "_law_block", "_law_is_block", "_law_content_here", "_law_due", "_law_some", "_law_lot", "_law_is_lot_here", "_law_power"] "law" s_law f (.ref A.k_law) A' outer s H E Ed) 4 "_law_disk" := ⟨rfl, by first | exact .inl rfl | exact .inr rfl, .inl rfl, by decide +kernel, by decide +kernel⟩
  have n5 : Nm (fnC P w K mg A.base ["_law_script", "_law_hand_here", "_law_many", "_law_blocks", "_law_disk", "_law_book_here", "_law_turn", "_law_block", "_law_is_block", "_law_content_here", "_law_due", "_law_some", "_law_lot", "_law_is_lot_here", "_law_power"] "law" s_law f (.ref A.k_law) A' outer s H E Ed) 5 "_law_book_here" := ⟨rfl, by first | exact .inl rfl | exact .inr rfl, .inl rfl, by decide +kernel, by decide +kernel⟩
  have n6 : Nm (fnC P w K mg A.base ["_law_script", "_law_hand_here", "_law_many", "_law_blocks", "_law_disk", "_law_book_here", "_law_turn", "_law_block", "_law_is_block", "_law_content_here", "_law_due", "_law_some", "_law_lot", "_law_is_lot_here", "_law_power"] "law" s_law f (.ref A.k_law) A' outer s H E Ed) 6 "_law_turn" := ⟨rfl, by first | exact .inl rfl | exact .inr rfl, .inl rfl, by decide +kernel, by decide +kernel⟩
  have a7 : (fnC P w K mg A.base ["_law_script", "_law_hand_here", "_law_many", "_law_blocks", "_law_disk", "_law_book_here", "_law_turn", "_law_block", "_law_is_block", "_law_content_here", "_law_due", "_law_some", "_law_lot", "_law_is_lot_here", "_law_power"] "law" s_law f (.ref A.k_law) A' outer s H E Ed).X.N[7]? = some ("_law_block" : Str) := rfl
  have n7 : Nm (fnC P w K mg A.base ["_law_script", "_law_hand_here", "_law_many", "_law_blocks", "_law_disk", "_law_book_here", "_law_turn", "_law_block", "_law_is_block", "_law_content_here", "_law_due", "_law_some", "_law_lot", "_law_is_lot_here", "_law_power"] "law" s_law f (.ref A.k_law) A' outer s H E Ed) 7 "_law_block" := ⟨rfl, by first | exact .inl rfl | exact .inr rfl, .inl rfl, by decide +kernel, by decide +kernel⟩
  have n8 : Nm (fnC P w K mg A.base ["_law_script", "_law_hand_here", "_law_many", "_law_blocks", "_law_disk", "_law_book_here", "_law_turn", "_law_block", "_law_is_block", "_law_content_here", "_law_due", "_law_some", "_law_lot", "_law_is_lot_here", "_law_power"] "law" s_law f (.ref A.k_law) A' outer s H E Ed) 8 "_law_is_block" := ⟨rfl, by first | exact .inl rfl | exact .inr rfl, .inl rfl, by decide +kernel, by decide +kernel⟩
  have a9 : (fnC P w K mg A.base ["_law_script", "_law_hand_here", "_law_many", "_law_blocks", "_law_disk", "_law_book_here", "_law_turn", "_law_block", "_law_is_block", "_law_content_here", "_law_due", "_law_some", "_law_lot", "_law_is_lot_here", "_law_power"] "law" s_law f (.ref A.k_law) A' outer s H E Ed).X.N[9]? = some ("_law_content_here" : Str) := rfl
  have n9 : Nm (fnC P w K mg A.base ["_law_script", "_law_hand_here", "_law_many", "_law_blocks", "_law_disk", "_law_book_here", "_law_turn", "_law_block", "_law_is_block", "_law_content_here", "_law_due", "_law_some", "_law_lot", "_law_is_lot_here", "_law_power"] "law" s_law f (.ref A.k_law) A' outer s H E Ed) 9 "_law_content_here" := ⟨rfl, by first | exact .inl rfl | exact .inr rfl, .inl rfl, by decide +kernel, by decide +kernel⟩
  have n10 : Nm (fnC P w K mg A.base ["_law_script", "_law_hand_here", "_law_many", "_law_blocks", "_law_disk", "_law_book_here", "_law_turn", "_law_block", "_law_is_block", "_law_content_here", "_law_due", "_law_some", "_law_lot", "_law_is_lot_here", "_law_power"] "law" s_law f (.ref A.k_law) A' outer s H E Ed) 10 "_law_due" := ⟨rfl, by first | exact .inl rfl | exact .inr rfl, .inl rfl, by decide +kernel, by decide +kernel⟩
  have n11 : Nm (fnC P w K mg A.base ["_law_script", "_law_hand_here", "_law_many", "_law_blocks", "_law_disk", "_law_book_here", "_law_turn", "_law_block", "_law_is_block", "_law_content_here", "_law_due", "_law_some", "_law_lot", "_law_is_lot_here", "_law_power"] "law" s_law f (.ref A.k_law) A' outer s H E Ed) 11 "_law_some" := ⟨rfl, by first | exact .inl rfl | exact .inr rfl, .inl rfl, by decide +kernel, by decide +kernel⟩
  have a12 : (fnC P w K mg A.base ["_law_script", "_law_hand_here", "_law_many", "_law_blocks", "_law_disk", "_law_book_here", "_law_turn", "_law_block", "_law_is_block", "_law_content_here", "_law_due", "_law_some", "_law_lot", "_law_is_lot_here", "_law_power"] "law" s_law f (.ref A.k_law) A' outer s H E Ed).X.N[12]? = some ("_law_lot" : Str) := rfl
  have n12 : Nm (fnC P w K mg A.base ["_law_script", "_law_hand_here", "_law_many", "_law_blocks", "_law_disk", "_law_book_here", "_law_turn", "_law_block", "_law_is_block", "_law_content_here", "_law_due", "_law_some", "_law_lot", "_law_is_lot_here", "_law_power"] "law" s_law f (.ref A.k_law) A' outer s H E Ed) 12 "_law_lot" := ⟨rfl, by first | exact .inl rfl | exact .inr rfl, .inl rfl, by decide +kernel, by decide +kernel⟩
  have n13 : Nm (fnC P w K mg A.base ["_law_script", "_law_hand_here", "_law_many", "_law_blocks", "_law_disk", "_law_book_here", "_law_turn", "_law_block", "_law_is_block", "_law_content_here", "_law_due", "_law_some", "_law_lot", "_law_is_lot_here", "_law_power"] "law" s_law f (.ref A.k_law) A' outer s H E Ed) 13 "_law_is_lot_here" := ⟨rfl, by first | exact .inl rfl | exact .inr rfl, .inl rfl, by decide +kernel, by decide +kernel⟩
  have a14 : (fnC P w K mg A.base ["_law_script", "_law_hand_here", "_law_many", "_law_blocks", "_law_disk", "_law_book_here", "_law_turn", "_law_block", "_law_is_block", "_law_content_here", "_law_due", "_law_some", "_law_lot", "_law_is_lot_here", "_law_power"] "law" s_law f (.ref A.k_law) A' outer s H E Ed).X.N[14]? = some ("_law_power" : Str) := rfl
  have n14 : Nm (fnC P w K mg A.base ["_law_script", "_law_hand_here", "_law_many", "_law_blocks", "_law_disk", "_law_book_here", "_law_turn", "_law_block", "_law_is_block", "_law_content_here", "_law_due", "_law_some", "_law_lot", "_law_is_lot_here", "_law_power"] "law" s_law f (.ref A.k_law) A' outer s H E Ed) 14 "_law_power" := ⟨rfl, by first | exact .inl rfl | exact .inr rfl, .inl rfl, by decide +kernel, by decide +kernel⟩
  have hu : Un (fnC P w K mg A.base ["_law_script", "_law_hand_here", "_law_many", "_law_blocks", "_law_disk", "_law_book_here", "_law_turn", "_law_block", "_law_is_block", "_law_content_here", "_law_due", "_law_some", "_law_lot", "_law_is_lot_here", "_law_power"] "law" s_law f (.ref A.k_law) A' outer s H E Ed) := un_of hr
  have po := fnC_po (P := P) (w := w) (K := K) (mg := mg) (base := A.base) (N := ["_law_script", "_law_hand_here", "_law_many", "_law_blocks", "_law_disk", "_law_book_here", "_law_turn", "_law_block", "_law_is_block", "_law_content_here", "_law_due", "_law_some", "_law_lot", "_law_is_lot_here", "_law_power"]) (qual := "law") (st := s_law) (f := f) (cdv := (.ref A.k_law)) (A := A') (outer := outer) (s := s) (H := H) (E := E) (Ed := Ed)
  refine qz_go (c := (fnC P w K mg A.base ["_law_script", "_law_hand_here", "_law_many", "_law_blocks", "_law_disk", "_law_book_here", "_law_turn", "_law_block", "_law_is_block", "_law_content_here", "_law_due", "_law_some", "_law_lot", "_law_is_lot_here", "_law_power"] "law" s_law f (.ref A.k_law) A' outer s H E Ed)) ?_
  refine ⟨_, 
    (qz_consX (qs_st n1 nd (q_call (ok_L_hand T) (hr.mono (by decide)) (qa_cons (q_n n0) qa_nil))) 
    (qz_cons (qs_st n2 nd (q_call (ok_L_any T) (hr.mono (by decide)) (qa_cons (q_n n1) (qa_cons (q_lst (qa_cons q_int (qa_cons q_int (qa_cons q_int (qa_cons q_int (qa_cons q_int (qa_cons (q_bin q_int (q_call (ok_L_draw T) (hr.mono (by decide)) (qa_cons (q_n n1) (qa_cons q_int qa_nil)))) (qa_cons (q_call (ok_L_odd T) (hr.mono (by decide)) (qa_cons (q_n n1) (qa_cons q_str qa_nil))) qa_nil)))))))) qa_nil)))) 
    (qz_consX (qs_if (qt_cmp hu (q_lamN (P := A.t_law) (T := A.tabs) (T0 := A.T0) (k := 9) (("law" : Str) ++ ".<locals>.") (ok_L_word T) (by rfl) T.b_law (by rfl) (by rfl) A.in_law ⟨_, List.mem_cons_self⟩ A.un_law (hr.mono (by decide)) (LamX.lamS_by (by kernel_rfl)) (by rfl) (by intros; rfl) (fun _ _ _ _ _ _ _ Ed hr => (q_makeT (fun cls d _ S' => Ed cls d S') rfl (ok_Disk___init T) (hr.mono (by decide)) (qa_cons (q_nv ⟨a2, by first | exact .inl rfl | exact .inr (.inl rfl) | exact .inr (.inr rfl), by decide +kernel, by decide +kernel⟩) qa_nil)))) (q_ife (qt_tru (q_call (ok_L_is_int T) (hr.mono (by decide)) (qa_cons (q_n n2) (qa_cons q_int (qa_cons q_int qa_nil))))) q_str q_str)) (qz_one (qs_ret q_bl)) qz_nil) 
    (qz_consX (qs_st n3 nd (q_bin q_int (q_call (ok_L_draw T) (hr.mono (by decide)) (qa_cons (q_n n1) (qa_cons q_int qa_nil))))) 
    (qz_consX (qs_asg (q_tup (qa_cons (q_make (ok_Disk___init T) (hr.mono (by decide)) (qa_cons (q_n n3) qa_nil)) (qa_cons (q_call (ok_L_book T) (hr.mono (by decide)) (qa_cons (q_n n3) qa_nil)) qa_nil))) (qg_tup (qgs_n n4 nd (qgs_n n5 nd qgs_nil)))) 
    (qz_cons (qs_for (qi_range1 T.b_range q_int) (qg_n n6 nd) 
    (qz_cons (qs_st n7 nd (q_call (ok_L_any T) (hr.mono (by decide)) (qa_cons (q_n n1) (qa_cons (q_lst (qa_cons q_int (qa_cons (q_bin (q_n n3) q_int) (qa_cons (q_n n3) (qa_cons q_int (qa_cons q_int (qa_cons (q_call (ok_L_odd T) (hr.mono (by decide)) (qa_cons (q_n n1) (qa_cons (q_n n4) qa_nil))) qa_nil))))))) qa_nil)))) 
    (qz_cons (qs_asg (q_tup (qa_cons (q_call (ok_L_is_int T) (hr.mono (by decide)) (qa_cons (q_n n7) (qa_cons q_int (qa_cons (q_bin (q_n n3) q_int) qa_nil)))) (qa_cons (q_call (ok_L_some_content T) (hr.mono (by decide)) (qa_cons (q_n n1) (qa_cons (q_n n4) qa_nil))) qa_nil))) (qg_tup (qgs_n n8 nd (qgs_n n9 nd qgs_nil)))) 
    (qz_cons (qs_st n10 nd (q_call (ok_L_first T) (hr.mono (by decide)) (qa_cons (q_lst (qa_cons (q_tup (qa_cons q_str (qa_cons (q_n n8) qa_nil))) (qa_cons (q_tup (qa_cons q_str (qa_cons (q_call (ok_L_is_content T) (hr.mono (by decide)) (qa_cons (q_n n9) qa_nil)) qa_nil))) qa_nil))) qa_nil))) 
    (qz_consX (qs_if (qt_cmp hu (q_lamN (P := A.t_law) (T := A.tabs) (T0 := A.T0) (k := 9) (("law" : Str) ++ ".<locals>.") (ok_L_word T) (by rfl) T.b_law (by rfl) (by rfl) A.in_law ⟨_, List.mem_cons_self⟩ A.un_law (hr.mono (by decide)) (LamX.lamS_by (by kernel_rfl)) (by rfl) (by intros; rfl) (fun _ _ _ _ _ _ _ Ed hr => (q_methT (fun cls d _ S' => Ed cls d S') rfl (ok_Disk_write T) T.cl_Disk (hr.mono (by decide)) (q_nv ⟨a4, by first | exact .inl rfl | exact .inr (.inl rfl) | exact .inr (.inr rfl), by decide +kernel, by decide +kernel⟩) (qa_cons (q_nv ⟨a7, by first | exact .inl rfl | exact .inr (.inl rfl) | exact .inr (.inr rfl), by decide +kernel, by decide +kernel⟩) (qa_cons (q_nv ⟨a9, by first | exact .inl rfl | exact .inr (.inl rfl) | exact .inr (.inr rfl), by decide +kernel, by decide +kernel⟩) qa_nil))))) (q_n n10)) (qz_one (qs_ret q_bl)) qz_nil) 
    (qz_consX (qs_if (qt_cmp hu (q_n n10) q_str) (qz_one (qs_expr (q_call (ok_L_wrote T) (hr.mono (by decide)) (qa_cons (q_n n5) (qa_cons (q_n n7) (qa_cons (q_n n9) qa_nil)))))) qz_nil) 
    (qz_consX (qs_st n10 nd (q_ife (qt_tru (q_n n8)) q_str q_str)) 
    (qz_consX (qs_if (qt_w (qw_or (qt_cmp hu (q_lamN (P := A.t_law) (T := A.tabs) (T0 := A.T0) (k := 9) (("law" : Str) ++ ".<locals>.") (ok_L_word T) (by rfl) T.b_law (by rfl) (by rfl) A.in_law ⟨_, List.mem_cons_self⟩ A.un_law (hr.mono (by decide)) (LamX.lamS_by (by kernel_rfl)) (by rfl) (by intros; rfl) (fun _ _ _ _ _ _ _ Ed hr => (q_methT (fun cls d _ S' => Ed cls d S') rfl (ok_Disk_read T) T.cl_Disk (hr.mono (by decide)) (q_nv ⟨a4, by first | exact .inl rfl | exact .inr (.inl rfl) | exact .inr (.inr rfl), by decide +kernel, by decide +kernel⟩) (qa_cons (q_nv ⟨a7, by first | exact .inl rfl | exact .inr (.inl rfl) | exact .inr (.inr rfl), by decide +kernel, by decide +kernel⟩) qa_nil)))) (q_n n10)) (qw_or1 (qt_not (qt_tru (q_call (ok_L_shows T) (hr.mono (by decide)) (qa_cons (q_n n4) (qa_cons (q_n n5) (qa_cons (q_listRg T.b_list T.b_range (q_n n3)) qa_nil))))))))) (qz_one (qs_ret q_bl)) qz_nil) 
    (qz_consX (qs_if (qt_cmp hu (q_lamN (P := A.t_law) (T := A.tabs) (T0 := A.T0) (k := 9) (("law" : Str) ++ ".<locals>.") (ok_L_word T) (by rfl) T.b_law (by rfl) (by rfl) A.in_law ⟨_, List.mem_cons_self⟩ A.un_law (hr.mono (by decide)) (LamX.lamS_by (by kernel_rfl)) (by rfl) (by intros; rfl) (fun _ _ _ _ _ _ _ Ed hr => (q_methT (fun cls d _ S' => Ed cls d S') rfl (ok_Disk_lying T) T.cl_Disk (hr.mono (by decide)) (q_nv ⟨a4, by first | exact .inl rfl | exact .inr (.inl rfl) | exact .inr (.inr rfl), by decide +kernel, by decide +kernel⟩) (qa_cons (q_nv ⟨a7, by first | exact .inl rfl | exact .inr (.inl rfl) | exact .inr (.inr rfl), by decide +kernel, by decide +kernel⟩) qa_nil)))) (q_n n10)) (qz_one (qs_ret q_bl)) qz_nil) 
    (qz_consX (qs_st n10 nd (q_call (ok_L_first T) (hr.mono (by decide)) (qa_cons (q_lst (qa_cons (q_tup (qa_cons q_str (qa_cons (q_n n8) qa_nil))) (qa_cons (q_tup (qa_cons q_str (qa_cons (q_and (q_n n8) (q_one (q_cmp hu (q_n n7) (q_ix hu (q_n n5) q_str)))) qa_nil))) qa_nil))) qa_nil))) 
    (qz_consX (qs_if (qt_w (qw_or (qt_cmp hu (q_lamN (P := A.t_law) (T := A.tabs) (T0 := A.T0) (k := 9) (("law" : Str) ++ ".<locals>.") (ok_L_word T) (by rfl) T.b_law (by rfl) (by rfl) A.in_law ⟨_, List.mem_cons_self⟩ A.un_law (hr.mono (by decide)) (LamX.lamS_by (by kernel_rfl)) (by rfl) (by intros; rfl) (fun _ _ _ _ _ _ _ Ed hr => (q_methT (fun cls d _ S' => Ed cls d S') rfl (ok_Disk_reach T) T.cl_Disk (hr.mono (by decide)) (q_nv ⟨a4, by first | exact .inl rfl | exact .inr (.inl rfl) | exact .inr (.inr rfl), by decide +kernel, by decide +kernel⟩) (qa_cons (q_nv ⟨a7, by first | exact .inl rfl | exact .inr (.inl rfl) | exact .inr (.inr rfl), by decide +kernel, by decide +kernel⟩) qa_nil)))) (q_n n10)) (qw_or1 (qt_w (qw_and (qt_cmp hu (q_n n10) q_str) (qw_and1 (qt_not (qt_tru (q_call (ok_L_reached T) (hr.mono (by decide)) (qa_cons (q_n n5) (qa_cons (q_n n7) qa_nil))))))))))) (qz_one (qs_ret q_bl)) qz_nil) 
    (qz_cons (qs_st n11 nd (q_lst (qa_cons (q_tup qa_nil) (qa_cons (q_tup (qa_cons q_int qa_nil)) (qa_cons (q_tup (qa_cons q_int (qa_cons q_int qa_nil))) (qa_cons (q_tup (qa_cons q_int (qa_cons q_int qa_nil))) (qa_cons (q_tup (qa_cons q_int (qa_cons q_int qa_nil))) (qa_cons (q_tup (qa_cons (q_n n3) qa_nil)) (qa_cons (q_tup (qa_cons q_int (qa_cons (q_n n3) qa_nil))) (qa_cons (q_tup (qa_cons (q_neg q_int) (qa_cons q_int qa_nil))) (qa_cons (q_lst (qa_cons q_int qa_nil)) (qa_cons (q_tup (qa_cons q_bl (qa_cons q_int qa_nil))) (qa_cons (q_tup (qa_cons q_str qa_nil)) (qa_cons q_int qa_nil)))))))))))))) 
    (qz_cons (qs_st n12 nd (q_call (ok_L_any T) (hr.mono (by decide)) (qa_cons (q_n n1) (qa_cons (q_bin (q_n n11) (q_lst (qa_cons (q_call (ok_L_odd T) (hr.mono (by decide)) (qa_cons (q_n n1) (qa_cons (q_n n4) qa_nil))) qa_nil))) qa_nil)))) 
    (qz_cons (qs_st n13 nd (q_call (ok_L_is_lot T) (hr.mono (by decide)) (qa_cons (q_n n12) (qa_cons (q_n n3) qa_nil)))) 
    (qz_consX (qs_if (qt_cmp hu (q_lamN (P := A.t_law) (T := A.tabs) (T0 := A.T0) (k := 9) (("law" : Str) ++ ".<locals>.") (ok_L_word T) (by rfl) T.b_law (by rfl) (by rfl) A.in_law ⟨_, List.mem_cons_self⟩ A.un_law (hr.mono (by decide)) (LamX.lamS_by (by kernel_rfl)) (by rfl) (by intros; rfl) (fun _ _ _ _ _ _ _ Ed hr => (q_methT (fun cls d _ S' => Ed cls d S') rfl (ok_Disk_force T) T.cl_Disk (hr.mono (by decide)) (q_nv ⟨a4, by first | exact .inl rfl | exact .inr (.inl rfl) | exact .inr (.inr rfl), by decide +kernel, by decide +kernel⟩) (qa_cons (q_nv ⟨a12, by first | exact .inl rfl | exact .inr (.inl rfl) | exact .inr (.inr rfl), by decide +kernel, by decide +kernel⟩) qa_nil)))) (q_ife (qt_tru (q_n n13)) q_str q_str)) (qz_one (qs_ret q_bl)) qz_nil) 
    (qz_consX (qs_if (qt_w (qw_and (qt_tru (q_n n13)) (qw_and1 (qt_not (qt_tru (q_call (ok_L_forced T) (hr.mono (by decide)) (qa_cons (q_n n5) (qa_cons (q_n n12) qa_nil)))))))) (qz_one (qs_ret q_bl)) qz_nil) 
    (qz_cons (qs_st n14 nd (q_call (ok_L_any T) (hr.mono (by decide)) (qa_cons (q_n n1) (qa_cons (q_lst (qa_cons q_non (qa_cons (q_bin q_int q_int) (qa_cons (q_bin (q_bin q_int q_int) q_int) (qa_cons q_int (qa_cons (q_neg q_int) (qa_cons q_bl (qa_cons q_str (qa_cons (q_tup (qa_cons q_int qa_nil)) (qa_cons (q_call (ok_L_odd T) (hr.mono (by decide)) (qa_cons (q_n n1) (qa_cons (q_n n4) qa_nil))) qa_nil)))))))))) qa_nil)))) 
    (qz_consX (qs_st n10 nd (q_ife (qt_w (qw_or (qt_cmp hu (q_n n14) q_non) (qw_or1 (qt_tru (q_call (ok_L_is_int T) (hr.mono (by decide)) (qa_cons (q_n n14) (qa_cons q_int (qa_cons (q_bin q_int q_int) qa_nil)))))))) q_str q_str)) 
    (qz_consX (qs_if (qt_w (qw_or (qt_cmp hu (q_lamN (P := A.t_law) (T := A.tabs) (T0 := A.T0) (k := 9) (("law" : Str) ++ ".<locals>.") (ok_L_word T) (by rfl) T.b_law (by rfl) (by rfl) A.in_law ⟨_, List.mem_cons_self⟩ A.un_law (hr.mono (by decide)) (LamX.lamS_by (by kernel_rfl)) (by rfl) (by intros; rfl) (fun _ _ _ _ _ _ _ Ed hr => (q_methT (fun cls d _ S' => Ed cls d S') rfl (ok_Disk_power T) T.cl_Disk (hr.mono (by decide)) (q_nv ⟨a4, by first | exact .inl rfl | exact .inr (.inl rfl) | exact .inr (.inr rfl), by decide +kernel, by decide +kernel⟩) (qa_cons (q_nv ⟨a14, by first | exact .inl rfl | exact .inr (.inl rfl) | exact .inr (.inr rfl), by decide +kernel, by decide +kernel⟩) qa_nil)))) (q_n n10)) (qw_or1 (qt_not (qt_tru (q_call (ok_L_shows T) (hr.mono (by decide)) (qa_cons (q_n n4) (qa_cons (q_n n5) (qa_cons (q_listRg T.b_list T.b_range (q_n n3)) qa_nil))))))))) (qz_one (qs_ret q_bl)) qz_nil) (qz_one (qs_expr (q_meth (ok_Disk_power T) T.cl_Disk (hr.mono (by decide)) (q_n n4) (qa_cons q_non qa_nil)))))))))))))))))))))) po) (qz_one (qs_ret q_bl)))))))), ?_⟩
  clear nd hu po a2 a4 a7 a9 a12 a14 n0 n1 n2 n3 n4 n5 n6 n7 n8 n9 n10 n11 n12 n13 n14
  obtain ⟨ns0, rfl, hl, _, hS, qq⟩ := h
  have tb0 : S A.t_law = some (.tb A.tabs) := by rw [hS]; exact if_pos rfl
  intro R hR
  walk_at "g"
  intro h S1 hh hn0 f1
  have tb1 := f1 _ _ tb0 (by simp)
  refine hR _ _ ?_
  clear hR hS tb0 f1 hn0
  clear R
  walk_at "g"
  intro n0 S2 a0 a1 hh2 f2
  have tb2 := f2.one tb1 (hand_tab hh tb1)
  walk_at "g"
  intro o1 S3 ho1 hh3 f3
  have tb3 := f3.one tb2 (hand_tab hh2 tb2)
  refine ⟨h, _, _, rfl, .inl rfl, (fun e => by cases e), by simp, by simp, hh3, fun y S4 hy hh4 f4 => ?_⟩
  have tb4 := f4.one tb3 (hand_tab hh3 tb3)
  have ky : KnX A.cDisk S4 y := by
    simp only [List.mem_cons, List.not_mem_nil, or_false] at hy
    rcases hy with rfl | rfl | rfl | rfl | rfl | rfl | rfl
    · exact knx_int
    · exact knx_int
    · exact knx_int
    · exact knx_int
    · exact knx_int
    · exact knx_int
    · rcases ho1 with rfl | ⟨h1, _⟩ | ⟨a, kvs, rfl, h1, h2⟩
      · exact knx_str
      · exact .inl (h1.1 _)
      · obtain ⟨u, hu⟩ := hh2.some
        have e := f4.one h1 (ne_some' hu h2)
        exact .inl (by show (match S4 a with | some (.lst _) => some "list" | some (.dk _) => some "dict" | some (.dt _) => some "dict" | _ => none).isSome = true; rw [e]; rfl)
  clear tb1 tb2 tb3 f2 f3 f4 hh hh2 hh3 hy ho1 a0 a1
  intro R hR
  have main : ∀ S5, S5 A.t_law = some (.tb A.tabs) → HandAt S5 h → R [some (.fl (ns0.map D.int)), some (.ref h), some y, none, none, none, none, none, none, none, none, none, none, none, none] S5 := by
    clear ky hh4 tb4
    intro S5 tb5 hh5
    refine hR _ _ ?_
    clear hR
    clear R
    intro R hR
    walk_at "g"
    intro n1 S6 b0 b1 hh6 f6
    have tb6 := f6.one tb5 (hand_tab hh5 tb5)
    obtain ⟨B, hB⟩ : ∃ B : Nat, (B : Int) = 16 + n1 := ⟨(16 + n1).toNat, by omega⟩
    have hB1 : 16 ≤ B := by omega
    have hB2 : B ≤ 24 := by omega
    walk_at "g"
    rw [← hB]
    refine hR _ _ ?_
    clear hR hB b0 b1 f6 tb5 hh5
    clear R
    intro R hR
    walk_at "g"
    intro p2 hp2
    refine ⟨p2, _, rfl, sup_same, knx_int, fun e => ?_, fun b eb hb1 hb2 l2 w2 S7 hl2 hw2 hd7 f7 => ⟨rfl, ?_⟩⟩
    · have e2 : inR (.int (B : Int)) 16 600 = true := by show (decide _ && decide _) = true; rw [decide_eq_true (by omega), decide_eq_true (by omega)]; rfl
      rw [e2] at e; cases e
    cases eb
    walk_at "g"
    refine ⟨_, rfl, by omega, by omega, fun q4 l4 w4 S8 hq4 hl4 hw4 hb4 f8 => ?_⟩
    have g2 : Fr [] S6 S7 := ((Fr.new (fp := [p2]) hp2).trans f7).drop hp2
    have hl2' : S6 l2 = none := by
      by_cases z : l2 = p2
      · rw [z]; exact hp2
      · rw [sup_ne z] at hl2; exact hl2
    have hw2' : S6 w2 = none := by
      by_cases z : w2 = p2
      · rw [z]; exact hp2
      · rw [sup_ne z] at hw2; exact hw2
    have t8 : Tw A.cDisk S8 p2 l2 w2 q4 l4 w4 ⟨List.replicate B (.tup []), [], .non, 0⟩ ⟨List.replicate B (.tup []), [], .non, 0⟩ := ⟨hd7.fr f8 (by simp) (by simp) (by simp), hb4, ne_some hd7.2.1 hl4, ne_some hd7.2.2 hw4, ne_some hd7.2.2 hq4⟩
    have tb8 := f8 _ _ (g2 _ _ tb6 (by simp)) (by simp)
    have hh8 := (hh6.fr g2 (by simp)).fr f8 (by simp)
    have z1 : h ≠ l2 := by obtain ⟨o2, e2⟩ := hh6.some; exact ne_some e2 hl2'
    have z2 : h ≠ l4 := by obtain ⟨o3, e3⟩ := (hh6.fr g2 (by simp)).some; exact ne_some e3 hl4
    have k8 : DOk ⟨List.replicate B (.tup []), [], .non, 0⟩ := ⟨⟨List.nodup_nil, by simp, .inl rfl, by show 0 ≤ 100000; omega, by show (List.replicate B (D.tup [])).length ≤ 1000; rw [List.length_replicate]; omega⟩, ⟨fun x hx => by rw [(List.mem_replicate.mp hx).2]; exact Cnt.nil, by simp⟩⟩
    refine ⟨rfl, hR _ _ ?_⟩
    clear hR hd7 hb4 f7 f8 hp2 hl2 hw2 hq4 hl4 hw4 g2 tb6 hh6 hl2' hw2' hb1 hb2
    clear R
    walk_at "g"
    refine ⟨fun r ρ' S' => ∃ (i k : Nat) (d : DM) (o6 o7 o8 o9 o10 o11 o12 o13 o14 : Option D), r = irng i k ∧ i + k ≤ 8 ∧ ρ' = [some (.fl (ns0.map D.int)), some (.ref h), some y, some (.int (B : Int)), some (.ref p2), some (.ref q4), o6, o7, o8, o9, o10, o11, o12, o13, o14] ∧ S' A.t_law = some (.tb A.tabs) ∧ HandAt S' h ∧ Tw A.cDisk S' p2 l2 w2 q4 l4 w4 d d ∧ DOk d ∧ d.po = .non ∧ d.ly.length = B ∧ pendL d.wa ≤ i, ⟨0, 8, _, none, none, none, none, none, none, none, none, none, rfl, by omega, rfl, tb8, hh8, t8, k8, rfl, by show (List.replicate B (D.tup [])).length = B; rw [List.length_replicate], Nat.le_refl _⟩, fun _ _ _ _ => trivial, ?_, ?_⟩
    · clear t8 k8 tb8 hh8
      rintro x r ρ' S9 ⟨i, k, d, o6, o7, o8, o9, o10, o11, o12, o13, o14, er, hik, rfl, tb9, hh9, t9, k9, po9, ln9, pe9⟩
      cases k with
      | zero => cases er
      | succ k =>
      rw [irng_sucZ] at er
      cases er
      walk_at "g"
      intro o1 S10 ho1 hh10 f10
      have fF : ∀ z ∈ [h], z ∈ [h, p2, l2, w2, q4, l4, w4] := by simp
      have hexF : ∀ {S0 : SS} {d1 d2 : DM}, HandAt S0 h → Tw A.cDisk S0 p2 l2 w2 q4 l4 w4 d1 d2 → ∀ a ∈ [h, p2, l2, w2, q4, l4, w4], ∃ u, S0 a = some u := by
        intro S0 d1 d2 a1 a2 a ha
        simp only [List.mem_cons, List.not_mem_nil, or_false] at ha
        rcases ha with rfl | rfl | rfl | rfl | rfl | rfl | rfl
        · exact a1.some
        · exact ⟨_, a2.hd.1⟩
        · exact ⟨_, a2.hd.2.1⟩
        · exact ⟨_, a2.hd.2.2⟩
        · exact ⟨_, a2.hb.1⟩
        · exact ⟨_, a2.hb.2.1⟩
        · exact ⟨_, a2.hb.2.2.1⟩
      have t10 := t9.fr f10 (t9.hnd hh9 z1 z2)
      have tb10 := f10.one tb9 (hand_tab hh9 tb9)
      have th1 : ThT S10 p2 [h, p2, l2, w2, q4, l4, w4] o1 := th_odd rfl (hexF hh9 t9) ho1
      refine ⟨h, _, _, rfl, .inl rfl, (fun e => by cases e), by simp, by simp, hh10, fun b S11 hb hh11 f11 => ?_⟩
      have t11 := t10.fr f11 (t10.hnd hh10 z1 z2)
      have tb11 := f11.one tb10 (hand_tab hh10 tb10)
      have thb : ThT S11 p2 [h, p2, l2, w2, q4, l4, w4] b := by
        simp only [List.mem_cons, List.not_mem_nil, or_false] at hb
        rcases hb with rfl | rfl | rfl | rfl | rfl | rfl
        · exact ⟨.inr (.inl pu_int), fun xs e => by cases e⟩
        · exact ⟨.inr (.inl pu_int), fun xs e => by cases e⟩
        · exact ⟨.inr (.inl pu_int), fun xs e => by cases e⟩
        · exact ⟨.inr (.inl pu_int), fun xs e => by cases e⟩
        · exact ⟨.inr (.inl pu_int), fun xs e => by cases e⟩
        · exact th1.fr f11 fF
      clear hb th1 ho1 t10 tb10 hh10 f10 f11 tb9 hh9 t9
      have kb := thb.1.knx t11.hd.1
      have hp11 := t11.hd.1
      have nph : p2 ≠ h := fun e => t11.hnd hh11 z1 z2 p2 (by simp) (by rw [e]; simp)
      have hF : h ∈ [h, p2, l2, w2, q4, l4, w4] := by simp
      have hex := hexF hh11 t11
      walk_at "g"
      intro x S12 hx hh12 f12
      have t12 := t11.fr f12 (t11.hnd hh11 z1 z2)
      have tb12 := f12.one tb11 (hand_tab hh11 tb11)
      have thb := thb.fr f12 fF
      clear t11 tb11 hh11 f12 kb hp11 hex
      have kx := hx.1.knx t12.hd.1
      have kxi := hx.items t12.hd.1
      have kb := thb.1.knx t12.hd.1
      have a12 := t12.hd.1
      refine ⟨rfl, ?_⟩
      walk_at "g"
      refine ⟨[("block", inR b 0 ((B : Int) - 1)), ("content", itemsB x 40)], rfl, by simp, ?_⟩
      have s12 : St A h p2 l2 w2 q4 l4 w4 B i b S12 d d := ⟨tb12, hh12, t12, k9, k9, po9, po9, ln9, ln9, pe9, thb⟩
      have cx : itemsB x 40 = true → Cnt x := hx.cnt
      clear t12 k9 po9 thb tb12 hh12 hx hF nph
      intro R hR
      have main : ∀ (S : SS) (d1 : DM) (u : Str), ((u = "let" ∧ ∃ c : Int, b = .int c ∧ 0 ≤ c ∧ c < (B : Int) ∧ d1 = d.write c x ∧ itemsB x 40 = true) ∨ (u ≠ "let" ∧ d1 = d)) → St A h p2 l2 w2 q4 l4 w4 B i b S d1 d → R [some (.fl (ns0.map D.int)), some (.ref h), some y, some (.int (B : Int)), some (.ref p2), some (.ref q4), some (.int (i : Int)), some b, some (.bl (inR b 0 ((B : Int) - 1))), some x, some (.str u), o11, o12, o13, o14] S := by
        clear s12 kx kxi kb a12
        intro S13 d1 u hu s13
        refine hR _ _ ?_
        clear hR
        clear R
        intro R hR
        have main : ∀ (S : SS) (d : DM) (u : D), St A h p2 l2 w2 q4 l4 w4 B (i + 1) b S d d → R [some (.fl (ns0.map D.int)), some (.ref h), some y, some (.int (B : Int)), some (.ref p2), some (.ref q4), some (.int (i : Int)), some b, some (.bl (inR b 0 ((B : Int) - 1))), some x, some u, o11, o12, o13, o14] S := by
          clear hu s13 cx pe9 ln9
          clear d d1 u
          intro S14 d u s14
          refine hR _ _ ?_
          clear hR
          clear R
          intro R hR
          have main : ∀ (S : SS) (d : DM) (u : Str), ((inR b 0 ((B : Int) - 1) = true ∧ u = "let") ∨ (inR b 0 ((B : Int) - 1) = false ∧ u = "block")) → St A h p2 l2 w2 q4 l4 w4 B (i + 1) b S d d → R [some (.fl (ns0.map D.int)), some (.ref h), some y, some (.int (B : Int)), some (.ref p2), some (.ref q4), some (.int (i : Int)), some b, some (.bl (inR b 0 ((B : Int) - 1))), some x, some (.str u), o11, o12, o13, o14] S := by
            clear s14
            clear u d
            intro S15 d u hu s15
            refine hR _ _ ?_
            clear hR
            clear R
            intro R hR
            have a15 := s15.t.hd.1
            have elen : inR b 0 ((d.ly.length : Int) - 1) = inR b 0 ((B : Int) - 1) := by rw [s15.ln]
            have eb : irng 0 (B : Int).toNat = ((List.range B).map fun k : Nat => (0 : Int) + k).map D.int := by
              unfold irng
              rw [List.map_map]
              rfl
            have bnd : ∀ n ∈ (List.range B).map fun k : Nat => (0 : Int) + k, 0 ≤ n ∧ n < (B : Int) := fun n hn => by
              obtain ⟨k, hk, rfl⟩ := List.mem_map.mp hn
              rw [List.mem_range] at hk
              omega
            have bl : ((List.range B).map fun k : Nat => (0 : Int) + k).length < 1000 := by rw [List.length_map, List.length_range]; omega
            have main : ∀ (S : SS), St A h p2 l2 w2 q4 l4 w4 B (i + 1) b S d d → R [some (.fl (ns0.map D.int)), some (.ref h), some y, some (.int (B : Int)), some (.ref p2), some (.ref q4), some (.int (i : Int)), some b, some (.bl (inR b 0 ((B : Int) - 1))), some x, some (.str u), o11, o12, o13, o14] S := by
              clear s15 a15
              intro S16 s16
              refine hR _ _ ?_
              clear hR
              clear R
              intro R hR
              have a16 := s16.t.hd.1
              have main : ∀ (S : SS), St A h p2 l2 w2 q4 l4 w4 B (i + 1) b S d d → R [some (.fl (ns0.map D.int)), some (.ref h), some y, some (.int (B : Int)), some (.ref p2), some (.ref q4), some (.int (i : Int)), some b, some (.bl (inR b 0 ((B : Int) - 1))), some x, some (.str u), o11, o12, o13, o14] S := by
                clear s16 a16
                intro S17 s17
                refine hR _ _ ?_
                clear hR hu
                clear R
                intro R hR
                have main : ∀ (S : SS) (u : Str), ((inR b 0 ((B : Int) - 1) = false ∧ u = "block") ∨ (∃ c : Int, b = .int c ∧ inR b 0 ((B : Int) - 1) = true ∧ ((hasK d.wa (.inl c) = false ∧ u = "nothing") ∨ (hasK d.wa (.inl c) = true ∧ u = "let")))) → St A h p2 l2 w2 q4 l4 w4 B (i + 1) b S d d → R [some (.fl (ns0.map D.int)), some (.ref h), some y, some (.int (B : Int)), some (.ref p2), some (.ref q4), some (.int (i : Int)), some b, some (.bl (inR b 0 ((B : Int) - 1))), some x, some (.str u), o11, o12, o13, o14] S := by
                  clear s17
                  clear u
                  intro S19 u hu s19
                  refine hR _ _ ?_
                  clear hR
                  clear R
                  intro R hR
                  have a19 := s19.t.hd.1
                  have main : ∀ (S : SS) (d : DM), St A h p2 l2 w2 q4 l4 w4 B (i + 1) b S d d → R [some (.fl (ns0.map D.int)), some (.ref h), some y, some (.int (B : Int)), some (.ref p2), some (.ref q4), some (.int (i : Int)), some b, some (.bl (inR b 0 ((B : Int) - 1))), some x, some (.str u), o11, o12, o13, o14] S := by
                    clear s19 hu a19 elen
                    clear d
                    intro S20 d s20
                    refine hR _ _ ?_
                    clear hR
                    clear R
                    have hh20 := s20.hh
                    walk_at "g"
                    intro o2 S21 ho2 hh21 f21
                    have s21 := s20.hand z1 z2 f21 hh21
                    have th2 : ThT S21 p2 [h, p2, l2, w2, q4, l4, w4] o2 := th_odd rfl (hexF hh20 s20.t) ho2
                    refine ⟨by rw [sizeLine_eq]; decide, h, _, _, rfl, .inl rfl, (fun e => by cases e), by simp, by simp, hh21, fun lot S22 hlot hh22 f22 => ?_⟩
                    have s22 := s21.hand z1 z2 f22 hh22
                    have thl : ThT S22 p2 [h, p2, l2, w2, q4, l4, w4] lot := by
                      have I : ∀ z : Int, Th S22 p2 [h, p2, l2, w2, q4, l4, w4] (.int z) := fun z => .inr (.inl pu_int)
                      simp only [List.mem_append, List.mem_cons, List.not_mem_nil, or_false] at hlot
                      rcases hlot with (rfl | rfl | rfl | rfl | rfl | rfl | rfl | rfl | rfl | rfl | rfl | rfl) | rfl
                      · exact thT_tup (by decide) (by simp)
                      · exact thT_tup (by simp) (by simp [I])
                      · exact thT_tup (by simp) (by simp [I])
                      · exact thT_tup (by simp) (by simp [I])
                      · exact thT_tup (by simp) (by simp [I])
                      · exact thT_tup (by simp) (by simp [I])
                      · exact thT_tup (by simp) (by simp [I])
                      · exact thT_tup (by simp) (by simp [I])
                      · exact ⟨.inr (.inl pu_fl), fun xs e => by cases e⟩
                      · exact thT_tup (by simp) (by simp [I]; exact .inr (.inl pu_bl))
                      · exact thT_tup (by simp) (by simp; exact .inr (.inl (pu_str (by decide))))
                      · exact ⟨.inr (.inl pu_int), fun xs e => by cases e⟩
                      · exact th2.fr f22 fF
                    have kl := thl.1.knx s22.t.hd.1
                    have kls := thl.knxs s22.t.hd.1
                    have a22 := s22.t.hd.1
                    clear s20 hh20 f21 s21 th2 ho2 f22 hlot hh21 hh22
                    refine ⟨lot, B, rfl, kl, fun xs e => ⟨by have := (thl.2 xs e).1; omega, kls xs e⟩, ?_⟩
                    intro R hR
                    have main : ∀ (S : SS) (d1 : DM), ((lotG (B : Int) lot = false ∧ d1 = d) ∨ (lotG (B : Int) lot = true ∧ ∃ bs : List Int, lot = .tup (bs.map D.int) ∧ d1 = (forceM d bs).2)) → St A h p2 l2 w2 q4 l4 w4 B (i + 1) b S d1 d → R [some (.fl (ns0.map D.int)), some (.ref h), some y, some (.int (B : Int)), some (.ref p2), some (.ref q4), some (.int (i : Int)), some b, some (.bl (inR b 0 ((B : Int) - 1))), some x, some (.str u), some (.fl [.tup [], .tup [.int 0], .tup [.int 0, .int 3], .tup [.int 3, .int 0], .tup [.int 3, .int 3], .tup [.int (B : Int)], .tup [.int 0, .int (B : Int)], .tup [.int (-1), .int 0], .fl [.int 0], .tup [.bl true, .int 3], .tup [.str "0"], .int 3]), some lot, some (.bl (lotG (B : Int) lot)), o14] S := by
                      clear s22 thl kl kls a22
                      intro S25 d1 hu s25
                      refine hR _ _ ?_
                      clear hR
                      clear R
                      intro R hR
                      have main : ∀ (S : SS) (d : DM) (o11 : Option D), St A h p2 l2 w2 q4 l4 w4 B (i + 1) b S d d → R [some (.fl (ns0.map D.int)), some (.ref h), some y, some (.int (B : Int)), some (.ref p2), some (.ref q4), some (.int (i : Int)), some b, some (.bl (inR b 0 ((B : Int) - 1))), some x, some (.str u), some (.fl [.tup [], .tup [.int 0], .tup [.int 0, .int 3], .tup [.int 3, .int 0], .tup [.int 3, .int 3], .tup [.int (B : Int)], .tup [.int 0, .int (B : Int)], .tup [.int (-1), .int 0], .fl [.int 0], .tup [.bl true, .int 3], .tup [.str "0"], .int 3]), some lot, some (.bl (lotG (B : Int) lot)), o14] S := by
                        clear s25 hu
                        clear d1 d
                        intro S27 d _ s27
                        refine hR _ _ ?_
                        clear hR
                        clear R
                        have hh27 := s27.hh
                        walk_at "g"
                        intro o3 S28 ho3 hh28 f28
                        have s28 := s27.hand z1 z2 f28 hh28
                        have th3 : ThT S28 p2 [h, p2, l2, w2, q4, l4, w4] o3 := th_odd rfl (hexF hh27 s27.t) ho3
                        refine ⟨h, _, _, rfl, .inl rfl, (fun e => by cases e), by simp, by simp, hh28, fun pw S29 hpw hh29 f29 => ?_⟩
                        have s29 := s28.hand z1 z2 f29 hh29
                        have thp : Th S29 p2 [h, p2, l2, w2, q4, l4, w4] pw := by
                          simp only [List.mem_cons, List.not_mem_nil, or_false] at hpw
                          rcases hpw with rfl | rfl | rfl | rfl | rfl | rfl | rfl | rfl | rfl
                          · exact .inr (.inl pu_non)
                          · exact .inr (.inl pu_int)
                          · exact .inr (.inl pu_int)
                          · exact .inr (.inl pu_int)
                          · exact .inr (.inl pu_int)
                          · exact .inr (.inl pu_bl)
                          · exact .inr (.inl (pu_str (by decide)))
                          · exact .inr (.inl pu_tup)
                          · exact (th3.fr f29 fF).1
                        have kp := thp.knx s29.t.hd.1
                        clear s27 s28 th3 ho3 f28 f29 hpw hh27 hh28 hh29
                        intro R hR
                        have main : ∀ (S : SS) (u2 : Str), (((pw = .non ∨ inR pw 0 1000000 = true) ∧ u2 = "let") ∨ ((pw ≠ .non ∧ inR pw 0 1000000 = false) ∧ u2 = "number")) → St A h p2 l2 w2 q4 l4 w4 B (i + 1) b S d d → KnX A.cDisk S pw → R [some (.fl (ns0.map D.int)), some (.ref h), some y, some (.int (B : Int)), some (.ref p2), some (.ref q4), some (.int (i : Int)), some b, some (.bl (inR b 0 ((B : Int) - 1))), some x, some (.str u2), some (.fl [.tup [], .tup [.int 0], .tup [.int 0, .int 3], .tup [.int 3, .int 0], .tup [.int 3, .int 3], .tup [.int (B : Int)], .tup [.int 0, .int (B : Int)], .tup [.int (-1), .int 0], .fl [.int 0], .tup [.bl true, .int 3], .tup [.str "0"], .int 3]), some lot, some (.bl (lotG (B : Int) lot)), some pw] S := by
                          clear s29 thp kp
                          intro S30 u2 hu s30 kp
                          refine hR _ _ ?_
                          clear hR
                          clear R
                          intro R hR
                          have a30 := s30.t.hd.1
                          have eb : irng 0 (B : Int).toNat = ((List.range B).map fun k : Nat => (0 : Int) + k).map D.int := by
                            unfold irng
                            rw [List.map_map]
                            rfl
                          have bnd : ∀ n ∈ (List.range B).map fun k : Nat => (0 : Int) + k, 0 ≤ n ∧ n < (B : Int) := fun n hn => by
                            obtain ⟨k, hk, rfl⟩ := List.mem_map.mp hn
                            rw [List.mem_range] at hk
                            omega
                          have bl : ((List.range B).map fun k : Nat => (0 : Int) + k).length < 1000 := by rw [List.length_map, List.length_range]; omega
                          have dno : d = ⟨d.ly, d.wa, .non, d.re⟩ := by rw [← s30.po]
                          have main : ∀ (S : SS) (k : D), S A.t_law = some (.tb A.tabs) → HandAt S h → Tw A.cDisk S p2 l2 w2 q4 l4 w4 ⟨d.ly, d.wa, k, d.re⟩ d → R [some (.fl (ns0.map D.int)), some (.ref h), some y, some (.int (B : Int)), some (.ref p2), some (.ref q4), some (.int (i : Int)), some b, some (.bl (inR b 0 ((B : Int) - 1))), some x, some (.str u2), some (.fl [.tup [], .tup [.int 0], .tup [.int 0, .int 3], .tup [.int 3, .int 0], .tup [.int 3, .int 3], .tup [.int (B : Int)], .tup [.int 0, .int (B : Int)], .tup [.int (-1), .int 0], .fl [.int 0], .tup [.bl true, .int 3], .tup [.str "0"], .int 3]), some lot, some (.bl (lotG (B : Int) lot)), some pw] S := by
                            intro S31 k31 tb31 hh31 t31
                            refine hR _ _ ?_
                            clear hR
                            clear R
                            have a31 := t31.hd.1
                            walk_at "g"
                            refine ⟨p2, l2, w2, _, .non, rfl, t31.hd, knx_non, fun e => absurd rfl e, fun _ S33 hd33 f33 => ?_⟩
                            have hd33 : DiskAt A.cDisk S33 p2 l2 w2 d := by rw [dno]; exact hd33
                            have f33' : Fr [p2, l2, w2] S31 S33 := f33.mono (by simp)
                            exact ⟨i + 1, k, d, _, _, _, _, _, _, _, _, _, by rw [Int.natCast_add]; rfl, by omega, rfl, t31.tA tb31 f33' (by simp), t31.hA hh31 z1 z2 f33' (by simp), t31.disk f33' hd33, s30.ok, s30.po, s30.ln, s30.pe⟩
                          clear hR
                          refine ⟨s30.tb, fun E1 h1 h2 h3 h4 h5 => ?_⟩
                          walk_at "g"
                          refine ⟨p2, l2, w2, d, pw, rfl, s30.t.hd, kp, fun hn e => ?_, fun hor S31 hd31 f31 => ?_⟩
                          · rcases hu with ⟨hor, _⟩ | ⟨_, rfl⟩
                            · rcases hor with e2 | e2
                              · exact absurd e2 hn
                              · exact absurd (e2.symm.trans e) (by decide)
                            · refine h5 _ ?_
                              have hb30 : BookAt S30 q4 l4 w4 ⟨d.ly, d.wa, .non, d.re⟩ := by rw [← dno]; exact s30.t.hb
                              walk_at "g"
                              refine ⟨⟨by omega, by omega⟩, p2, l2, w2, q4, l4, w4, d, .non, _, by rw [eb], s30.t.hd, hb30, s30.ok, by rw [s30.ln]; exact bnd, bl, fun S32 f32 => ?_⟩
                              have s32 := s30.nil f32
                              walk_at "g"
                              exact main S32 .non s32.tb s32.hh (by rw [← dno]; exact s32.t)
                          · rcases hu with ⟨_, rfl⟩ | ⟨⟨hn, e⟩, _⟩
                            · have f31' : Fr [p2, l2, w2] S30 S31 := f31.mono (by simp)
                              have t31 := s30.t.disk f31' hd31
                              have tb31 := s30.t.tA s30.tb f31' (by simp)
                              have hh31 := s30.t.hA s30.hh z1 z2 f31' (by simp)
                              have ok31 := s30.ok.pow (y := pw) (hor.imp id fun e => by obtain ⟨k, e1, e2, e3⟩ := inR_int e; exact ⟨k, e1, e2, e3⟩)
                              have hb31 : BookAt S31 q4 l4 w4 ⟨d.ly, d.wa, .non, d.re⟩ := by rw [← dno]; exact t31.hb
                              walk_at "g"
                              refine ⟨⟨by omega, by omega⟩, p2, l2, w2, q4, l4, w4, ⟨d.ly, d.wa, pw, d.re⟩, .non, _, by rw [eb], t31.hd, hb31, ok31, by show ∀ n ∈ _, 0 ≤ n ∧ n < ((d.ly.length : Nat) : Int); rw [s30.ln]; exact bnd, bl, fun S32 f32 => ?_⟩
                              walk_at "g"
                              exact main S32 pw (f32 _ _ tb31 (by simp)) (hh31.fr f32 (by simp)) (t31.nil f32)
                            · rcases hor with e2 | e2
                              · exact absurd e2 hn
                              · exact absurd (e2.symm.trans e) (by decide)
                        clear hR
                        by_cases hn : pw = .non
                        · subst hn
                          walk_at "g"
                          exact main _ "let" (.inl ⟨.inl rfl, rfl⟩) s29 kp
                        · have e1 : DP.isNon pw = false := by cases pw <;> first | rfl | exact absurd rfl hn
                          walk_at "g"
                          rw [e1]
                          walk_at "g"
                          rw [show (10 : Int) ^ 6 = 1000000 from by decide]
                          cases e2 : inR pw 0 1000000 with
                          | true =>
                            walk_at "g"
                            exact main _ "let" (.inl ⟨.inr e2, rfl⟩) s29 kp
                          | false =>
                            walk_at "g"
                            exact main _ "number" (.inr ⟨⟨hn, e2⟩, rfl⟩) s29 kp
                      clear hR
                      walk_at "g"
                      rcases hu with ⟨e, rfl⟩ | ⟨e, bs, el, rfl⟩
                      · rw [e] at main ⊢
                        walk_at "g"
                        exact main _ d1 none s25
                      · rw [e] at main ⊢
                        walk_at "g"
                        obtain ⟨g1, g2⟩ := force_free (bs := bs) s25.po s25.ok.w
                        refine ⟨q4, l4, w4, d, lot, bs, rfl, .inl el, s25.t.hb, s25.ok.w, fun S26 hb26 f26 => ?_⟩
                        rw [g1]
                        walk_at "g"
                        exact main _ _ none ⟨s25.t.tA s25.tb f26 (by simp), s25.t.hA s25.hh z1 z2 f26 (by simp), s25.t.book f26 hb26, s25.ok1, s25.ok1, s25.po1, s25.po1, s25.ln1, s25.ln1, Nat.le_trans (force_pendY s25.ok.w) s25.pe, s25.th.fr f26 (by simp +contextual)⟩
                    clear hR
                    refine ⟨s22.tb, fun E1 h1 h2 h3 h4 h5 => ?_⟩
                    walk_at "g"
                    refine ⟨p2, l2, w2, d, lot, rfl, s22.t.hd, s22.ok.w, kl, kls, fun e => ?_, fun bs el e => ⟨fun e2 => absurd ((force_free (bs := bs) s22.po s22.ok.w).1.symm.trans e2) (by decide), fun _ S25 hd25 f25 => ?_⟩⟩
                    · rw [s22.ln] at e
                      refine h2 _ ?_
                      rw [e]
                      rw [e] at main
                      walk_at "g"
                      exact main _ d (.inl ⟨rfl, rfl⟩) s22
                    · rw [s22.ln] at e
                      have e9 : lotG (B : Int) lot = true := by rw [el]; exact lotB_lotG e
                      have fl := (forceM_ok (bs := bs) s22.ok.w).2
                      rw [e9]
                      rw [e9] at main
                      walk_at "g"
                      exact main _ _ (.inr ⟨rfl, bs, el, rfl⟩) ⟨s22.t.tA s22.tb f25 (by simp), s22.t.hA s22.hh z1 z2 f25 (by simp), s22.t.disk f25 hd25, s22.ok, forceM_dok s22.ok, s22.po, (force_free (bs := bs) s22.po s22.ok.w).2, s22.ln, fl.trans s22.ln, s22.pe, s22.th.fr f25 (by simp +contextual)⟩
                  clear hR
                  refine ⟨s19.tb, fun E1 h1 h2 h3 h4 h5 => ?_⟩
                  walk_at "g"
                  have hst : stuckB d = false := by unfold stuckB; rw [s19.po]
                  refine ⟨p2, l2, w2, d, b, rfl, s19.t.hd, s19.ok.w, hst, s19.kb, fun e => ?_, fun c ec e => ⟨fun hh => ?_, fun hh S20 hd20 f20 => ?_⟩⟩
                  · rw [elen] at e
                    rcases hu with ⟨_, rfl⟩ | ⟨c, _, e2, _⟩
                    · refine h2 _ ?_
                      walk_at "g"
                      rw [if_neg (by decide)]
                      exact main _ d s19
                    · exact absurd (e2.symm.trans e) (by decide)
                  · rw [elen] at e
                    rcases hu with ⟨e2, _⟩ | ⟨c', ec', _, ⟨_, rfl⟩ | ⟨hh2, _⟩⟩
                    · exact absurd (e2.symm.trans e) (by decide)
                    · refine h4 _ ?_
                      walk_at "g"
                      rw [if_neg (by decide)]
                      exact main _ d s19
                    · rw [ec] at ec'; cases ec'
                      exact absurd (hh2.symm.trans hh) (by decide)
                  · rw [elen] at e
                    rcases hu with ⟨e2, _⟩ | ⟨c', ec', _, ⟨hh2, _⟩ | ⟨_, rfl⟩⟩
                    · exact absurd (e2.symm.trans e) (by decide)
                    · rw [ec] at ec'; cases ec'
                      exact absurd (hh2.symm.trans hh) (by decide)
                    · have t20 := s19.t.disk f20 hd20
                      have tb20 := s19.t.tA s19.tb f20 (by simp)
                      have hh20 := s19.t.hA s19.hh z1 z2 f20 (by simp)
                      have th20 := s19.th.fr f20 (by simp +contextual)
                      obtain ⟨k1, k2, k3⟩ := s19.ok.w.step hh hst
                      have po3 : (d.step c).po = .non := by
                        unfold DM.step
                        split
                        · show lessP d.po = .non; rw [s19.po]; rfl
                        · exact s19.po
                      have ok3 := s19.ok.step hh hst
                      walk_at "g"
                      refine ⟨q4, l4, w4, d, c, by rw [ec], t20.hb, s19.ok.w, hh, fun e => absurd (hst.symm.trans e) (by decide), fun _ S21 hb21 f21 => ?_⟩
                      walk_at "g"
                      exact main _ (d.step c) ⟨t20.tA tb20 f21 (by simp), t20.hA hh20 z1 z2 f21 (by simp), t20.book f21 hb21, ok3, ok3, po3, po3, k3.trans s19.ln, k3.trans s19.ln, by have := s19.pe; omega, th20.fr f21 (by simp +contextual)⟩
                clear hR
                have b17 := s17.t.hb.1
                have b17' := s17.t.hb.2.2.1
                cases eb : inR b 0 ((B : Int) - 1) with
                | false =>
                  rw [eb] at main
                  walk_at "g"
                  refine ⟨[("block", false), ("nothing", false)], rfl, by simp, ?_⟩
                  exact main _ "block" (.inl ⟨rfl, rfl⟩) s17
                | true =>
                  obtain ⟨c, ec, c0, c1⟩ := inR_int eb
                  rw [eb] at main
                  walk_at "g"
                  rw [ec]
                  walk_at "g"
                  refine ⟨[("block", true), ("nothing", hasK d.wa (.inl c))], rfl, by simp, ?_⟩
                  cases hh : hasK d.wa (.inl c) with
                  | false =>
                    have := main _ "nothing" (.inr ⟨c, ec, rfl, .inl ⟨hh, rfl⟩⟩) s17
                    rw [ec] at this
                    exact this
                  | true =>
                    have := main _ "let" (.inr ⟨c, ec, rfl, .inr ⟨hh, rfl⟩⟩) s17
                    rw [ec] at this
                    exact this
              clear hR
              refine ⟨s16.tb, fun E1 h1 h2 h3 h4 h5 => ?_⟩
              walk_at "g"
              refine ⟨p2, l2, w2, d, b, rfl, s16.t.hd, s16.kb, fun e => ?_, fun c ec e => ?_⟩
              · rw [elen] at e
                rcases hu with ⟨e2, _⟩ | ⟨_, rfl⟩
                · exact absurd (e2.symm.trans e) (by decide)
                · refine h2 _ ?_
                  walk_at "g"
                  exact main _ s16
              · rw [elen] at e
                rcases hu with ⟨_, rfl⟩ | ⟨e2, _⟩
                · walk_at "g"
                  exact main _ s16
                · exact absurd (e.symm.trans e2) (by decide)
            clear hR
            have hb15 : BookAt S15 q4 l4 w4 ⟨d.ly, d.wa, .non, d.re⟩ := by
              have := s15.t.hb
              rw [show d = ⟨d.ly, d.wa, .non, d.re⟩ from by rw [← s15.po]] at this
              exact this
            walk_at "g"
            refine ⟨s15.tb, fun E1 h1 h2 h3 h4 h5 => ?_⟩
            walk_at "g"
            refine ⟨p2, l2, w2, d, b, rfl, s15.t.hd, s15.ok.w, s15.kb, fun e => ?_, fun c ec e => ?_⟩
            · rw [elen] at e
              rcases hu with ⟨e2, _⟩ | ⟨_, rfl⟩
              · exact absurd (e2.symm.trans e) (by decide)
              · refine h2 _ ?_
                walk_at "g"
                refine ⟨⟨by omega, by omega⟩, p2, l2, w2, q4, l4, w4, d, .non, _, by rw [eb], s15.t.hd, hb15, s15.ok, by rw [s15.ln]; exact bnd, bl, fun S16 f16 => ?_⟩
                walk_at "g"
                exact main _ (s15.nil f16)
            · rw [elen] at e
              rcases hu with ⟨_, rfl⟩ | ⟨e2, _⟩
              · walk_at "g"
                refine ⟨⟨by omega, by omega⟩, p2, l2, w2, q4, l4, w4, d, .non, _, by rw [eb], s15.t.hd, hb15, s15.ok, by rw [s15.ln]; exact bnd, bl, fun S16 f16 => ?_⟩
                walk_at "g"
                exact main _ (s15.nil f16)
              · exact absurd (e.symm.trans e2) (by decide)
          clear hR
          cases eb : inR b 0 ((B : Int) - 1) with
          | true =>
            rw [eb] at main
            walk_at "g"
            exact main _ d "let" (.inl ⟨rfl, rfl⟩) s14
          | false =>
            rw [eb] at main
            walk_at "g"
            exact main _ d "block" (.inr ⟨rfl, rfl⟩) s14
        clear hR
        walk_at "g"
        refine iteD (fun c => ?_) (fun c => ?_)
        · rcases hu with ⟨_, cc, ec, c0, c1, e1, e2⟩ | ⟨hne, _⟩
          · have w1 := write_ok s13.ok.w c0 (by rw [s13.ln]; exact c1) (x := x) (by have := s13.pe; omega)
            refine ⟨q4, l4, w4, d, cc, x, by rw [ec], s13.t.hb, s13.ok.w, by have := s13.pe; omega, fun S14 hb14 f14 => ?_⟩
            have f14' : Fr [q4, l4, w4] S13 S14 := f14.mono (by simp)
            rw [← e1] at hb14 w1
            have ok1 := s13.ok1
            exact main S14 d1 _ ⟨s13.t.tA s13.tb f14' (by simp), s13.t.hA s13.hh z1 z2 f14' (by simp), s13.t.book f14' hb14, ok1, ok1, s13.po1, s13.po1, s13.ln1, s13.ln1, by rw [w1.2.1]; have := s13.pe; omega, s13.th.fr f14' (by simp +contextual)⟩
          · exact absurd c hne
        · rcases hu with ⟨e, _⟩ | ⟨_, rfl⟩
          · exact absurd e c
          · exact main S13 d1 _ ⟨s13.tb, s13.hh, s13.t, s13.ok, s13.ok, s13.po, s13.po, s13.ln, s13.ln, by have := s13.pe; omega, s13.th⟩
      clear hR
      refine ⟨s12.tb, fun E1 h1 h2 h3 h4 h5 => ?_⟩
      walk_at "g"
      have elen : inR b 0 ((d.ly.length : Int) - 1) = inR b 0 ((B : Int) - 1) := by rw [ln9]
      refine ⟨p2, l2, w2, d, b, x, rfl, s12.t.hd, s12.ok.w, kb, kx, kxi, by omega, fun e => ?_, fun e e2 => ?_, fun c ec e e2 S13 hd13 f13 => ?_⟩
      · rw [elen] at e
        refine h2 _ ?_
        rw [e]
        have ew : firstW [("block", false), ("content", itemsB x 40)] = "block" := rfl
        rw [ew]
        rw [e] at main
        walk_at "g"
        exact main _ d "block" (.inr ⟨by decide, rfl⟩) s12
      · rw [elen] at e
        refine h3 _ ?_
        rw [e, e2]
        have ew : firstW [("block", true), ("content", false)] = "content" := rfl
        rw [ew]
        rw [e] at main
        walk_at "g"
        exact main _ d "content" (.inr ⟨by decide, rfl⟩) s12
      · rw [elen] at e
        rw [e, e2]
        have ew : firstW [("block", true), ("content", true)] = "let" := rfl
        rw [ew]
        obtain ⟨c', ec', c0, c1⟩ := inR_int e
        rw [ec] at ec'; cases ec'
        have c1' : c < (d.ly.length : Int) := by rw [ln9]; omega
        have w1 := write_ok s12.ok.w c0 c1' (x := x) (by omega)
        have s13 : St A h p2 l2 w2 q4 l4 w4 B i b S13 (d.write c x) d := ⟨s12.t.tA s12.tb f13 (by simp), s12.t.hA s12.hh z1 z2 f13 (by simp), s12.t.disk f13 hd13, s12.ok, s12.ok.write c0 c1' (by omega) (cx e2), s12.po, by rw [w1.2.2.2.1]; exact s12.po, s12.ln, w1.2.2.1.trans s12.ln, s12.pe, s12.th.fr f13 (by simp +contextual)⟩
        rw [e] at main
        walk_at "g"
        exact main _ _ "let" (.inl ⟨rfl, c, ec, c0, by omega, rfl, e2⟩) s13
    · rintro ρ' S9 ⟨i, k, d, o6, o7, o8, o9, o10, o11, o12, o13, o14, er, hik, rfl, tb9, hh9, t9, k9, po9, ln9, pe9⟩
      exact qq _
  clear hR
  refine ⟨tb4, fun E1 h1 h2 h3 h4 h5 => ?_⟩
  intro q hq
  have fq : Fr [] S4 (sup S4 q (.ins A.cDisk [])) := Fr.new hq
  have ky2 : KnX A.cDisk (sup S4 q (.ins A.cDisk [])) y := ky.ext fun a o e => fq a o e (by simp)
  refine ⟨q, y, rfl, sup_same, ky2, fun e => ?_, fun b eb hb1 hb2 l w S6 hl hw hd f6 => ⟨rfl, ?_⟩⟩
  · refine h1 _ ?_
    walk_at "g"
    rw [e]
    walk_at "g"
    exact main _ (fq _ _ tb4 (by simp)) (hh4.fr fq (by simp))
  · subst eb
    have e : inR (.int b) 16 600 = true := by show (decide _ && decide _) = true; rw [decide_eq_true hb1, decide_eq_true hb2]; rfl
    have g : Fr [] S4 S6 := ((Fr.new (fp := [q]) hq).trans f6).drop hq
    walk_at "g"
    rw [e]
    walk_at "g"
    exact main _ (g _ _ tb4 (by simp)) (hh4.fr g (by simp))

theorem walk {l : PySem.W.OpenLaw} {q : Program} {loose : List Str} {XP : (Str → Option Value) → Heap → Prop} {YP : World → Heap → Prop} {d : DefRec} {K : Params → PySem.W.Frag}
    (hn : l.most = some 63) (hnm : d.name = ("law" : Str)) (hdf : d.params.defaults = []) (hY : ∀ (w : World) (h : Heap), YP w h → (K w.params).In h) (KC T0 : Addr) (TT : List (Addr × Str)) (cs : List (Addr × Addr)) (hc : ∀ p ∈ TT, p.1 ∈ cs.map (·.2)) (h0 : T0 ∈ cs.map (·.2))
    (T : ∀ (w : World) (mg : Str → Option Value) (h : Heap), YP w h → (K w.params).In h → h.Ns mainGlobals mg → (∀ p ∈ cs, h.get? p.2 = some { cls := .none, data := .fields #[] }) ∧ (∀ p ∈ cs, (K w.params).lookup p.2 = none) ∧ (∀ p ∈ cs, PySem.W.CodeHd h p.1 p.2) ∧ (∃ f fd, mg "law" = some (.ref f) ∧ FunC (K w.params) "law" "law" s_law f fd KC) ∧
      ∃ A0 : CA0, A0.T0 = T0 ∧ A0.tabs = TT ∧ A0.k_law = KC ∧ ∀ base : Heap, (∀ p ∈ cs, LamX.TabB base mg p.1 p.2) → Top (K w.params) mg ⟨A0, base⟩) : PySem.W.WalkO q loose XP YP l.row.toRowW d [] (fun f vs => PySem.call f vs) := by
  refine LamX.walk_ofTs (n := 63) (k := 12) (x := "_law_script") (CX := fun w => L2.CX l.prog w) hn (by decide) hdf ⟨rfl, by decide, by decide⟩ hY (fun w mg fa h Y hK hG hmf => ?_) fun w H s e s' z => by
    obtain ⟨_, _, _, _, _, _, _, _, _, _, _, _, z⟩ := z
    exact z.elim
  obtain ⟨hT, nT, hC, ⟨f, fd, hm, F⟩, A0, e1, e2, e3, t⟩ := T w mg h Y hK hG
  rw [hnm, hm] at hmf
  cases hmf
  have n0 : (K w.params).lookup T0 = none := by
    obtain ⟨p, hp, e⟩ := List.mem_map.mp h0
    rw [← e]; exact nT p hp
  refine ⟨fd, cs, lift (K w.params) (spLawT T0 TT), hT, nT, hC, fun s u => ?_, fun H a ns hl hb hH hs => law_spT hc h0 hl hb hH hs n0, fun base hb hN tb => ?_⟩
  · obtain ⟨oc, od, kV, doc, pm, an, ct, osl, rfl, _⟩ := F.ex
    exact BindsTo.of_eq rfl
  · rw [← e3] at F
    have := ok_law (P := l.prog) (w := w) (t base tb) F
    rw [← e1, ← e2]
    exact this
end K02

namespace K02
open PySem L2 DP
theorem funC_mk {K : PySem.W.Frag} {x qual : Str} {st : Stmt} {f cc : Addr} {oc : Value} {od an : Option Addr} {kV dc pm ct : Value} {sl : Array (Option Value)} (l : K.lookup f = some ⟨oc, od, .func (PySem.W.fnOf x qual (defArgs st) (defBody st) (defScope st) .none kV dc pm an (.ref cc) ct), sl⟩) (c : PySem.W.codeIn K (.ref cc) qual = true) (k : PySem.W.keepIn K (.ref f) = true) : FunC K x qual st f (PySem.W.fnOf x qual (defArgs st) (defBody st) (defScope st) .none kV dc pm an (.ref cc) ct) cc := ⟨⟨_, _, _, _, _, _, _, _, rfl, l, c⟩, k⟩
theorem top_mk {K : PySem.W.Frag} {h : Heap} {mg : Str → Option Value} {base : Heap} (X : K.In h) (G : h.Ns mainGlobals mg)
    {f1 : Addr} {od1 an1 : Option Addr} {sl1 : Array (Option Value)} {oc1 kV1 dc1 pm1 cd1 ct1 : Value}
    {f2 : Addr} {od2 an2 : Option Addr} {sl2 : Array (Option Value)} {oc2 kV2 dc2 pm2 cd2 ct2 : Value}
    {f3 : Addr} {od3 an3 : Option Addr} {sl3 : Array (Option Value)} {oc3 kV3 dc3 pm3 cd3 ct3 : Value}
    {f4 : Addr} {od4 an4 : Option Addr} {sl4 : Array (Option Value)} {oc4 kV4 dc4 pm4 cd4 ct4 : Value}
    {f5 : Addr} {od5 an5 : Option Addr} {sl5 : Array (Option Value)} {oc5 kV5 dc5 pm5 cd5 ct5 : Value}
    {f6 : Addr} {od6 an6 : Option Addr} {sl6 : Array (Option Value)} {oc6 kV6 dc6 pm6 cd6 ct6 : Value}
    {f7 : Addr} {od7 an7 : Option Addr} {sl7 : Array (Option Value)} {oc7 kV7 dc7 pm7 cd7 ct7 : Value}
    {f8 : Addr} {od8 an8 : Option Addr} {sl8 : Array (Option Value)} {oc8 kV8 dc8 pm8 cd8 ct8 : Value}
    {f9 : Addr} {od9 an9 : Option Addr} {sl9 : Array (Option Value)} {oc9 kV9 dc9 pm9 cd9 ct9 : Value}
    {f10 : Addr} {od10 an10 : Option Addr} {sl10 : Array (Option Value)} {oc10 kV10 dc10 pm10 cd10 ct10 : Value}
    {f11 : Addr} {od11 an11 : Option Addr} {sl11 : Array (Option Value)} {oc11 kV11 dc11 pm11 cd11 ct11 : Value}
    {f12 : Addr} {od12 an12 : Option Addr} {sl12 : Array (Option Value)} {oc12 kV12 dc12 pm12 cd12 ct12 : Value}
    {f13 : Addr} {od13 an13 : Option Addr} {sl13 : Array (Option Value)} {oc13 kV13 dc13 pm13 cd13 ct13 : Value}
    {f14 : Addr} {od14 an14 : Option Addr} {sl14 : Array (Option Value)} {oc14 kV14 dc14 pm14 cd14 ct14 : Value}
    {f15 : Addr} {od15 an15 : Option Addr} {sl15 : Array (Option Value)} {oc15 kV15 dc15 pm15 cd15 ct15 : Value}
    {f16 : Addr} {od16 an16 : Option Addr} {sl16 : Array (Option Value)} {oc16 kV16 dc16 pm16 cd16 ct16 : Value}
    {f17 : Addr} {od17 an17 : Option Addr} {sl17 : Array (Option Value)} {oc17 kV17 dc17 pm17 cd17 ct17 : Value}
    {f18 : Addr} {od18 an18 : Option Addr} {sl18 : Array (Option Value)} {oc18 kV18 dc18 pm18 cd18 ct18 : Value}
    {f19 : Addr} {od19 an19 : Option Addr} {sl19 : Array (Option Value)} {oc19 kV19 dc19 pm19 cd19 ct19 : Value}
    {f20 : Addr} {od20 an20 : Option Addr} {sl20 : Array (Option Value)} {oc20 kV20 dc20 pm20 cd20 ct20 : Value}
    {f21 : Addr} {od21 an21 : Option Addr} {sl21 : Array (Option Value)} {oc21 kV21 dc21 pm21 cd21 ct21 : Value}
    {f22 : Addr} {od22 an22 : Option Addr} {sl22 : Array (Option Value)} {oc22 kV22 dc22 pm22 cd22 ct22 : Value}
    {f23 : Addr} {od23 an23 : Option Addr} {sl23 : Array (Option Value)} {oc23 kV23 dc23 pm23 cd23 ct23 : Value}
    {f24 : Addr} {od24 an24 : Option Addr} {sl24 : Array (Option Value)} {oc24 kV24 dc24 pm24 ct24 : Value} {KC_law KT_law : Addr}
    {C_StoreError : Addr}
    {C_BadDisk : Addr}
    {C_NoBlock : Addr}
    {C_NoContent : Addr}
    {C_NothingWaits : Addr}
    {C_Stopped : Addr}
    {C_NoNumber : Addr}
    {C_Disk : Addr}
    {f25 : Addr} {od25 an25 : Option Addr} {sl25 : Array (Option Value)} {oc25 kV25 dc25 pm25 cd25 ct25 : Value}
    {f26 : Addr} {od26 an26 : Option Addr} {sl26 : Array (Option Value)} {oc26 kV26 dc26 pm26 cd26 ct26 : Value}
    {f27 : Addr} {od27 an27 : Option Addr} {sl27 : Array (Option Value)} {oc27 kV27 dc27 pm27 cd27 ct27 : Value}
    {f28 : Addr} {od28 an28 : Option Addr} {sl28 : Array (Option Value)} {oc28 kV28 dc28 pm28 cd28 ct28 : Value}
    {f29 : Addr} {od29 an29 : Option Addr} {sl29 : Array (Option Value)} {oc29 kV29 dc29 pm29 cd29 ct29 : Value}
    {f30 : Addr} {od30 an30 : Option Addr} {sl30 : Array (Option Value)} {oc30 kV30 dc30 pm30 cd30 ct30 : Value}
    {f31 : Addr} {od31 an31 : Option Addr} {sl31 : Array (Option Value)} {oc31 kV31 dc31 pm31 cd31 ct31 : Value}
    {f32 : Addr} {od32 an32 : Option Addr} {sl32 : Array (Option Value)} {oc32 kV32 dc32 pm32 cd32 ct32 : Value}
    {f33 : Addr} {od33 an33 : Option Addr} {sl33 : Array (Option Value)} {oc33 kV33 dc33 pm33 cd33 ct33 : Value}
    {f34 : Addr} {od34 an34 : Option Addr} {sl34 : Array (Option Value)} {oc34 kV34 dc34 pm34 cd34 ct34 : Value}
    {f35 : Addr} {od35 an35 : Option Addr} {sl35 : Array (Option Value)} {oc35 kV35 dc35 pm35 cd35 ct35 : Value}
    {f36 : Addr} {od36 an36 : Option Addr} {sl36 : Array (Option Value)} {oc36 kV36 dc36 pm36 cd36 ct36 : Value}
    {t_LEAST_BLOCKS : Tok} {t_MOST_BLOCKS : Tok} {t_MOST_ITEMS : Tok} {t_MOST_INTEGER : Tok} {t_MOST_LETTERS : Tok} {t_MOST_POWER : Tok} {t_LETTERS : Tok}
    (z_ValueError : PySem.W.nsIn K mainGlobals "ValueError" = some none)
    (z_abs : PySem.W.nsIn K mainGlobals "abs" = some none)
    (z_all : PySem.W.nsIn K mainGlobals "all" = some none)
    (z_bool : PySem.W.nsIn K mainGlobals "bool" = some none)
    (z_dict : PySem.W.nsIn K mainGlobals "dict" = some none)
    (z_int : PySem.W.nsIn K mainGlobals "int" = some none)
    (z_isinstance : PySem.W.nsIn K mainGlobals "isinstance" = some none)
    (z_len : PySem.W.nsIn K mainGlobals "len" = some none)
    (z_list : PySem.W.nsIn K mainGlobals "list" = some none)
    (z_range : PySem.W.nsIn K mainGlobals "range" = some none)
    (z_str : PySem.W.nsIn K mainGlobals "str" = some none)
    (z_tuple : PySem.W.nsIn K mainGlobals "tuple" = some none)
    (z_zip : PySem.W.nsIn K mainGlobals "zip" = some none)
    (v_LEAST_BLOCKS : PySem.W.nsIn K mainGlobals "LEAST_BLOCKS" = some (some (.int (16) t_LEAST_BLOCKS)))
    (v_MOST_BLOCKS : PySem.W.nsIn K mainGlobals "MOST_BLOCKS" = some (some (.int (600) t_MOST_BLOCKS)))
    (v_MOST_ITEMS : PySem.W.nsIn K mainGlobals "MOST_ITEMS" = some (some (.int (40) t_MOST_ITEMS)))
    (v_MOST_INTEGER : PySem.W.nsIn K mainGlobals "MOST_INTEGER" = some (some (.int (1000000000000000000000000000000) t_MOST_INTEGER)))
    (v_MOST_LETTERS : PySem.W.nsIn K mainGlobals "MOST_LETTERS" = some (some (.int (12) t_MOST_LETTERS)))
    (v_MOST_POWER : PySem.W.nsIn K mainGlobals "MOST_POWER" = some (some (.int (1000000) t_MOST_POWER)))
    (v_LETTERS : PySem.W.nsIn K mainGlobals "LETTERS" = some (some (.str "abcdefghijklmnopqrstuvwxyz" t_LETTERS)))
    (a1 : PySem.W.nsIn K mainGlobals "is_integer" = some (some (.ref f1)))
    (l1 : K.lookup f1 = some ⟨oc1, od1, .func (PySem.W.fnOf "is_integer" "is_integer" (defArgs s_is_integer) (defBody s_is_integer) (defScope s_is_integer) .none kV1 dc1 pm1 an1 cd1 ct1), sl1⟩)
    (c1 : PySem.W.codeIn K cd1 "is_integer" = true)
    (k1 : PySem.W.keepIn K (.ref f1) = true)
    (a2 : PySem.W.nsIn K mainGlobals "is_within" = some (some (.ref f2)))
    (l2 : K.lookup f2 = some ⟨oc2, od2, .func (PySem.W.fnOf "is_within" "is_within" (defArgs s_is_within) (defBody s_is_within) (defScope s_is_within) .none kV2 dc2 pm2 an2 cd2 ct2), sl2⟩)
    (c2 : PySem.W.codeIn K cd2 "is_within" = true)
    (k2 : PySem.W.keepIn K (.ref f2) = true)
    (a3 : PySem.W.nsIn K mainGlobals "is_lot" = some (some (.ref f3)))
    (l3 : K.lookup f3 = some ⟨oc3, od3, .func (PySem.W.fnOf "is_lot" "is_lot" (defArgs s_is_lot) (defBody s_is_lot) (defScope s_is_lot) .none kV3 dc3 pm3 an3 cd3 ct3), sl3⟩)
    (c3 : PySem.W.codeIn K cd3 "is_lot" = true)
    (k3 : PySem.W.keepIn K (.ref f3) = true)
    (a4 : PySem.W.nsIn K mainGlobals "is_item" = some (some (.ref f4)))
    (l4 : K.lookup f4 = some ⟨oc4, od4, .func (PySem.W.fnOf "is_item" "is_item" (defArgs s_is_item) (defBody s_is_item) (defScope s_is_item) .none kV4 dc4 pm4 an4 cd4 ct4), sl4⟩)
    (c4 : PySem.W.codeIn K cd4 "is_item" = true)
    (k4 : PySem.W.keepIn K (.ref f4) = true)
    (a5 : PySem.W.nsIn K mainGlobals "are_items" = some (some (.ref f5)))
    (l5 : K.lookup f5 = some ⟨oc5, od5, .func (PySem.W.fnOf "are_items" "are_items" (defArgs s_are_items) (defBody s_are_items) (defScope s_are_items) .none kV5 dc5 pm5 an5 cd5 ct5), sl5⟩)
    (c5 : PySem.W.codeIn K cd5 "are_items" = true)
    (k5 : PySem.W.keepIn K (.ref f5) = true)
    (a6 : PySem.W.nsIn K mainGlobals "_law_hand" = some (some (.ref f6)))
    (l6 : K.lookup f6 = some ⟨oc6, od6, .func (PySem.W.fnOf "_law_hand" "_law_hand" (defArgs s_L_hand) (defBody s_L_hand) (defScope s_L_hand) .none kV6 dc6 pm6 an6 cd6 ct6), sl6⟩)
    (c6 : PySem.W.codeIn K cd6 "_law_hand" = true)
    (k6 : PySem.W.keepIn K (.ref f6) = true)
    (a7 : PySem.W.nsIn K mainGlobals "_law_draw" = some (some (.ref f7)))
    (l7 : K.lookup f7 = some ⟨oc7, od7, .func (PySem.W.fnOf "_law_draw" "_law_draw" (defArgs s_L_draw) (defBody s_L_draw) (defScope s_L_draw) .none kV7 dc7 pm7 an7 cd7 ct7), sl7⟩)
    (c7 : PySem.W.codeIn K cd7 "_law_draw" = true)
    (k7 : PySem.W.keepIn K (.ref f7) = true)
    (a8 : PySem.W.nsIn K mainGlobals "_law_any" = some (some (.ref f8)))
    (l8 : K.lookup f8 = some ⟨oc8, od8, .func (PySem.W.fnOf "_law_any" "_law_any" (defArgs s_L_any) (defBody s_L_any) (defScope s_L_any) .none kV8 dc8 pm8 an8 cd8 ct8), sl8⟩)
    (c8 : PySem.W.codeIn K cd8 "_law_any" = true)
    (k8 : PySem.W.keepIn K (.ref f8) = true)
    (a9 : PySem.W.nsIn K mainGlobals "_law_is_int" = some (some (.ref f9)))
    (l9 : K.lookup f9 = some ⟨oc9, od9, .func (PySem.W.fnOf "_law_is_int" "_law_is_int" (defArgs s_L_is_int) (defBody s_L_is_int) (defScope s_L_is_int) .none kV9 dc9 pm9 an9 cd9 ct9), sl9⟩)
    (c9 : PySem.W.codeIn K cd9 "_law_is_int" = true)
    (k9 : PySem.W.keepIn K (.ref f9) = true)
    (a10 : PySem.W.nsIn K mainGlobals "_law_deep" = some (some (.ref f10)))
    (l10 : K.lookup f10 = some ⟨oc10, od10, .func (PySem.W.fnOf "_law_deep" "_law_deep" (defArgs s_L_deep) (defBody s_L_deep) (defScope s_L_deep) .none kV10 dc10 pm10 an10 cd10 ct10), sl10⟩)
    (c10 : PySem.W.codeIn K cd10 "_law_deep" = true)
    (k10 : PySem.W.keepIn K (.ref f10) = true)
    (a11 : PySem.W.nsIn K mainGlobals "_law_first" = some (some (.ref f11)))
    (l11 : K.lookup f11 = some ⟨oc11, od11, .func (PySem.W.fnOf "_law_first" "_law_first" (defArgs s_L_first) (defBody s_L_first) (defScope s_L_first) .none kV11 dc11 pm11 an11 cd11 ct11), sl11⟩)
    (c11 : PySem.W.codeIn K cd11 "_law_first" = true)
    (k11 : PySem.W.keepIn K (.ref f11) = true)
    (a12 : PySem.W.nsIn K mainGlobals "_law_is_name" = some (some (.ref f12)))
    (l12 : K.lookup f12 = some ⟨oc12, od12, .func (PySem.W.fnOf "_law_is_name" "_law_is_name" (defArgs s_L_is_name) (defBody s_L_is_name) (defScope s_L_is_name) .none kV12 dc12 pm12 an12 cd12 ct12), sl12⟩)
    (c12 : PySem.W.codeIn K cd12 "_law_is_name" = true)
    (k12 : PySem.W.keepIn K (.ref f12) = true)
    (a13 : PySem.W.nsIn K mainGlobals "_law_content" = some (some (.ref f13)))
    (l13 : K.lookup f13 = some ⟨oc13, od13, .func (PySem.W.fnOf "_law_content" "_law_content" (defArgs s_L_content) (defBody s_L_content) (defScope s_L_content) .none kV13 dc13 pm13 an13 cd13 ct13), sl13⟩)
    (c13 : PySem.W.codeIn K cd13 "_law_content" = true)
    (k13 : PySem.W.keepIn K (.ref f13) = true)
    (a14 : PySem.W.nsIn K mainGlobals "_law_book" = some (some (.ref f14)))
    (l14 : K.lookup f14 = some ⟨oc14, od14, .func (PySem.W.fnOf "_law_book" "_law_book" (defArgs s_L_book) (defBody s_L_book) (defScope s_L_book) .none kV14 dc14 pm14 an14 cd14 ct14), sl14⟩)
    (c14 : PySem.W.codeIn K cd14 "_law_book" = true)
    (k14 : PySem.W.keepIn K (.ref f14) = true)
    (a15 : PySem.W.nsIn K mainGlobals "_law_wrote" = some (some (.ref f15)))
    (l15 : K.lookup f15 = some ⟨oc15, od15, .func (PySem.W.fnOf "_law_wrote" "_law_wrote" (defArgs s_L_wrote) (defBody s_L_wrote) (defScope s_L_wrote) .none kV15 dc15 pm15 an15 cd15 ct15), sl15⟩)
    (c15 : PySem.W.codeIn K cd15 "_law_wrote" = true)
    (k15 : PySem.W.keepIn K (.ref f15) = true)
    (a16 : PySem.W.nsIn K mainGlobals "_law_reached" = some (some (.ref f16)))
    (l16 : K.lookup f16 = some ⟨oc16, od16, .func (PySem.W.fnOf "_law_reached" "_law_reached" (defArgs s_L_reached) (defBody s_L_reached) (defScope s_L_reached) .none kV16 dc16 pm16 an16 cd16 ct16), sl16⟩)
    (c16 : PySem.W.codeIn K cd16 "_law_reached" = true)
    (k16 : PySem.W.keepIn K (.ref f16) = true)
    (a17 : PySem.W.nsIn K mainGlobals "_law_forced" = some (some (.ref f17)))
    (l17 : K.lookup f17 = some ⟨oc17, od17, .func (PySem.W.fnOf "_law_forced" "_law_forced" (defArgs s_L_forced) (defBody s_L_forced) (defScope s_L_forced) .none kV17 dc17 pm17 an17 cd17 ct17), sl17⟩)
    (c17 : PySem.W.codeIn K cd17 "_law_forced" = true)
    (k17 : PySem.W.keepIn K (.ref f17) = true)
    (a18 : PySem.W.nsIn K mainGlobals "_law_shows" = some (some (.ref f18)))
    (l18 : K.lookup f18 = some ⟨oc18, od18, .func (PySem.W.fnOf "_law_shows" "_law_shows" (defArgs s_L_shows) (defBody s_L_shows) (defScope s_L_shows) .none kV18 dc18 pm18 an18 cd18 ct18), sl18⟩)
    (c18 : PySem.W.codeIn K cd18 "_law_shows" = true)
    (k18 : PySem.W.keepIn K (.ref f18) = true)
    (a19 : PySem.W.nsIn K mainGlobals "_law_word" = some (some (.ref f19)))
    (l19 : K.lookup f19 = some ⟨oc19, od19, .func (PySem.W.fnOf "_law_word" "_law_word" (defArgs s_L_word) (defBody s_L_word) (defScope s_L_word) .none kV19 dc19 pm19 an19 cd19 ct19), sl19⟩)
    (c19 : PySem.W.codeIn K cd19 "_law_word" = true)
    (k19 : PySem.W.keepIn K (.ref f19) = true)
    (a20 : PySem.W.nsIn K mainGlobals "_law_odd" = some (some (.ref f20)))
    (l20 : K.lookup f20 = some ⟨oc20, od20, .func (PySem.W.fnOf "_law_odd" "_law_odd" (defArgs s_L_odd) (defBody s_L_odd) (defScope s_L_odd) .none kV20 dc20 pm20 an20 cd20 ct20), sl20⟩)
    (c20 : PySem.W.codeIn K cd20 "_law_odd" = true)
    (k20 : PySem.W.keepIn K (.ref f20) = true)
    (a21 : PySem.W.nsIn K mainGlobals "_law_is_content" = some (some (.ref f21)))
    (l21 : K.lookup f21 = some ⟨oc21, od21, .func (PySem.W.fnOf "_law_is_content" "_law_is_content" (defArgs s_L_is_content) (defBody s_L_is_content) (defScope s_L_is_content) .none kV21 dc21 pm21 an21 cd21 ct21), sl21⟩)
    (c21 : PySem.W.codeIn K cd21 "_law_is_content" = true)
    (k21 : PySem.W.keepIn K (.ref f21) = true)
    (a22 : PySem.W.nsIn K mainGlobals "_law_some_content" = some (some (.ref f22)))
    (l22 : K.lookup f22 = some ⟨oc22, od22, .func (PySem.W.fnOf "_law_some_content" "_law_some_content" (defArgs s_L_some_content) (defBody s_L_some_content) (defScope s_L_some_content) .none kV22 dc22 pm22 an22 cd22 ct22), sl22⟩)
    (c22 : PySem.W.codeIn K cd22 "_law_some_content" = true)
    (k22 : PySem.W.keepIn K (.ref f22) = true)
    (a23 : PySem.W.nsIn K mainGlobals "_law_is_lot" = some (some (.ref f23)))
    (l23 : K.lookup f23 = some ⟨oc23, od23, .func (PySem.W.fnOf "_law_is_lot" "_law_is_lot" (defArgs s_L_is_lot) (defBody s_L_is_lot) (defScope s_L_is_lot) .none kV23 dc23 pm23 an23 cd23 ct23), sl23⟩)
    (c23 : PySem.W.codeIn K cd23 "_law_is_lot" = true)
    (k23 : PySem.W.keepIn K (.ref f23) = true)
    (a24 : PySem.W.nsIn K mainGlobals "law" = some (some (.ref f24)))
    (l24 : K.lookup f24 = some ⟨oc24, od24, .func (PySem.W.fnOf "law" "law" (defArgs s_law) (defBody s_law) (defScope s_law) .none kV24 dc24 pm24 an24 (.ref KC_law) ct24), sl24⟩)
    (c24 : PySem.W.codeIn K (.ref KC_law) "law" = true)
    (k24 : PySem.W.keepIn K (.ref f24) = true)
    (aC_StoreError : PySem.W.nsIn K mainGlobals "StoreError" = some (some (.ref C_StoreError)))
    (hb_StoreError : PySem.W.subIn K (.ref C_StoreError) (.type "BaseException") = some true)
    (hd_StoreError : PySem.W.hasDictIn K C_StoreError = true)
    (ht_StoreError : PySem.W.typeIn K (.ref C_StoreError) = some (.type "type"))
    (xs_BadDisk_StoreError : PySem.W.subIn K (.ref C_BadDisk) (.ref C_StoreError) = some true)
    (xs_NoBlock_StoreError : PySem.W.subIn K (.ref C_NoBlock) (.ref C_StoreError) = some true)
    (xs_NoContent_StoreError : PySem.W.subIn K (.ref C_NoContent) (.ref C_StoreError) = some true)
    (xs_NoNumber_StoreError : PySem.W.subIn K (.ref C_NoNumber) (.ref C_StoreError) = some true)
    (xs_NothingWaits_StoreError : PySem.W.subIn K (.ref C_NothingWaits) (.ref C_StoreError) = some true)
    (xs_Stopped_StoreError : PySem.W.subIn K (.ref C_Stopped) (.ref C_StoreError) = some true)
    (aC_BadDisk : PySem.W.nsIn K mainGlobals "BadDisk" = some (some (.ref C_BadDisk)))
    (ex_BadDisk : PySem.W.excIn K C_BadDisk [.type "ValueError", .type "Exception", .type "BaseException", .type "object"] "ValueError.__new__" = true)
    (kp_BadDisk : PySem.W.keepIn K (.ref C_BadDisk) = true)
    (sb_BadDisk : PySem.W.subIn K (.ref C_BadDisk) (.type "BaseException") = some true)
    (ty_BadDisk : PySem.W.typeIn K (.ref C_BadDisk) = some (.type "type"))
    (xe_BadDisk : DP.errB K C_BadDisk = true)
    (kt_BadDisk_BadDisk : PySem.W.kitOne K (.ref C_BadDisk) (.ref C_BadDisk) = some true)
    (kt_BadDisk_NoBlock : PySem.W.kitOne K (.ref C_BadDisk) (.ref C_NoBlock) = some false)
    (kt_BadDisk_NoContent : PySem.W.kitOne K (.ref C_BadDisk) (.ref C_NoContent) = some false)
    (kt_BadDisk_ValueError : PySem.W.kitOne K (.ref C_BadDisk) (.type "ValueError") = some true)
    (kt_BadDisk_NothingWaits : PySem.W.kitOne K (.ref C_BadDisk) (.ref C_NothingWaits) = some false)
    (kt_BadDisk_NoNumber : PySem.W.kitOne K (.ref C_BadDisk) (.ref C_NoNumber) = some false)
    (aC_NoBlock : PySem.W.nsIn K mainGlobals "NoBlock" = some (some (.ref C_NoBlock)))
    (ex_NoBlock : PySem.W.excIn K C_NoBlock [.type "ValueError", .type "Exception", .type "BaseException", .type "object"] "ValueError.__new__" = true)
    (kp_NoBlock : PySem.W.keepIn K (.ref C_NoBlock) = true)
    (sb_NoBlock : PySem.W.subIn K (.ref C_NoBlock) (.type "BaseException") = some true)
    (ty_NoBlock : PySem.W.typeIn K (.ref C_NoBlock) = some (.type "type"))
    (xe_NoBlock : DP.errB K C_NoBlock = true)
    (kt_NoBlock_BadDisk : PySem.W.kitOne K (.ref C_NoBlock) (.ref C_BadDisk) = some false)
    (kt_NoBlock_NoBlock : PySem.W.kitOne K (.ref C_NoBlock) (.ref C_NoBlock) = some true)
    (kt_NoBlock_NoContent : PySem.W.kitOne K (.ref C_NoBlock) (.ref C_NoContent) = some false)
    (kt_NoBlock_ValueError : PySem.W.kitOne K (.ref C_NoBlock) (.type "ValueError") = some true)
    (kt_NoBlock_NothingWaits : PySem.W.kitOne K (.ref C_NoBlock) (.ref C_NothingWaits) = some false)
    (kt_NoBlock_NoNumber : PySem.W.kitOne K (.ref C_NoBlock) (.ref C_NoNumber) = some false)
    (aC_NoContent : PySem.W.nsIn K mainGlobals "NoContent" = some (some (.ref C_NoContent)))
    (ex_NoContent : PySem.W.excIn K C_NoContent [.type "ValueError", .type "Exception", .type "BaseException", .type "object"] "ValueError.__new__" = true)
    (kp_NoContent : PySem.W.keepIn K (.ref C_NoContent) = true)
    (sb_NoContent : PySem.W.subIn K (.ref C_NoContent) (.type "BaseException") = some true)
    (ty_NoContent : PySem.W.typeIn K (.ref C_NoContent) = some (.type "type"))
    (xe_NoContent : DP.errB K C_NoContent = true)
    (kt_NoContent_BadDisk : PySem.W.kitOne K (.ref C_NoContent) (.ref C_BadDisk) = some false)
    (kt_NoContent_NoBlock : PySem.W.kitOne K (.ref C_NoContent) (.ref C_NoBlock) = some false)
    (kt_NoContent_NoContent : PySem.W.kitOne K (.ref C_NoContent) (.ref C_NoContent) = some true)
    (kt_NoContent_ValueError : PySem.W.kitOne K (.ref C_NoContent) (.type "ValueError") = some true)
    (kt_NoContent_NothingWaits : PySem.W.kitOne K (.ref C_NoContent) (.ref C_NothingWaits) = some false)
    (kt_NoContent_NoNumber : PySem.W.kitOne K (.ref C_NoContent) (.ref C_NoNumber) = some false)
    (aC_NothingWaits : PySem.W.nsIn K mainGlobals "NothingWaits" = some (some (.ref C_NothingWaits)))
    (ex_NothingWaits : PySem.W.excIn K C_NothingWaits [.type "ValueError", .type "Exception", .type "BaseException", .type "object"] "ValueError.__new__" = true)
    (kp_NothingWaits : PySem.W.keepIn K (.ref C_NothingWaits) = true)
    (sb_NothingWaits : PySem.W.subIn K (.ref C_NothingWaits) (.type "BaseException") = some true)
    (ty_NothingWaits : PySem.W.typeIn K (.ref C_NothingWaits) = some (.type "type"))
    (xe_NothingWaits : DP.errB K C_NothingWaits = true)
    (kt_NothingWaits_BadDisk : PySem.W.kitOne K (.ref C_NothingWaits) (.ref C_BadDisk) = some false)
    (kt_NothingWaits_NoBlock : PySem.W.kitOne K (.ref C_NothingWaits) (.ref C_NoBlock) = some false)
    (kt_NothingWaits_NoContent : PySem.W.kitOne K (.ref C_NothingWaits) (.ref C_NoContent) = some false)
    (kt_NothingWaits_ValueError : PySem.W.kitOne K (.ref C_NothingWaits) (.type "ValueError") = some true)
    (kt_NothingWaits_NothingWaits : PySem.W.kitOne K (.ref C_NothingWaits) (.ref C_NothingWaits) = some true)
    (kt_NothingWaits_NoNumber : PySem.W.kitOne K (.ref C_NothingWaits) (.ref C_NoNumber) = some false)
    (aC_Stopped : PySem.W.nsIn K mainGlobals "Stopped" = some (some (.ref C_Stopped)))
    (ex_Stopped : PySem.W.excIn K C_Stopped [.type "ValueError", .type "Exception", .type "BaseException", .type "object"] "ValueError.__new__" = true)
    (kp_Stopped : PySem.W.keepIn K (.ref C_Stopped) = true)
    (sb_Stopped : PySem.W.subIn K (.ref C_Stopped) (.type "BaseException") = some true)
    (ty_Stopped : PySem.W.typeIn K (.ref C_Stopped) = some (.type "type"))
    (xe_Stopped : DP.errB K C_Stopped = true)
    (kt_Stopped_BadDisk : PySem.W.kitOne K (.ref C_Stopped) (.ref C_BadDisk) = some false)
    (kt_Stopped_NoBlock : PySem.W.kitOne K (.ref C_Stopped) (.ref C_NoBlock) = some false)
    (kt_Stopped_NoContent : PySem.W.kitOne K (.ref C_Stopped) (.ref C_NoContent) = some false)
    (kt_Stopped_ValueError : PySem.W.kitOne K (.ref C_Stopped) (.type "ValueError") = some true)
    (kt_Stopped_NothingWaits : PySem.W.kitOne K (.ref C_Stopped) (.ref C_NothingWaits) = some false)
    (kt_Stopped_NoNumber : PySem.W.kitOne K (.ref C_Stopped) (.ref C_NoNumber) = some false)
    (aC_NoNumber : PySem.W.nsIn K mainGlobals "NoNumber" = some (some (.ref C_NoNumber)))
    (ex_NoNumber : PySem.W.excIn K C_NoNumber [.type "ValueError", .type "Exception", .type "BaseException", .type "object"] "ValueError.__new__" = true)
    (kp_NoNumber : PySem.W.keepIn K (.ref C_NoNumber) = true)
    (sb_NoNumber : PySem.W.subIn K (.ref C_NoNumber) (.type "BaseException") = some true)
    (ty_NoNumber : PySem.W.typeIn K (.ref C_NoNumber) = some (.type "type"))
    (xe_NoNumber : DP.errB K C_NoNumber = true)
    (kt_NoNumber_BadDisk : PySem.W.kitOne K (.ref C_NoNumber) (.ref C_BadDisk) = some false)
    (kt_NoNumber_NoBlock : PySem.W.kitOne K (.ref C_NoNumber) (.ref C_NoBlock) = some false)
    (kt_NoNumber_NoContent : PySem.W.kitOne K (.ref C_NoNumber) (.ref C_NoContent) = some false)
    (kt_NoNumber_ValueError : PySem.W.kitOne K (.ref C_NoNumber) (.type "ValueError") = some true)
    (kt_NoNumber_NothingWaits : PySem.W.kitOne K (.ref C_NoNumber) (.ref C_NothingWaits) = some false)
    (kt_NoNumber_NoNumber : PySem.W.kitOne K (.ref C_NoNumber) (.ref C_NoNumber) = some true)
    (aC_Disk : PySem.W.nsIn K mainGlobals "Disk" = some (some (.ref C_Disk)))
    (pg_Disk : PySem.W.plainGet K C_Disk Str.empty = true)
    (hd_Disk : PySem.W.hasDictIn K C_Disk = true)
    (po_Disk : PySem.W.plainOver K C_Disk = true)
    (sa_Disk : PySem.W.findIn K (.ref C_Disk) "__setattr__" = some (some (.builtin "object.__setattr__")))
    (ca_Disk : PySem.W.findIn K (.ref C_Disk) "__class__" = some (some (.builtin "object.__class__")))
    (cn_Disk : PySem.W.specialIn K (.builtin "object.__class__") "__get__" = some (some (.builtin "getset_descriptor.__get__")))
    (ct_Disk : PySem.W.takesIn K (.builtin "object.__class__") = some true)
    (cm_Disk : PySem.W.mroIn K C_Disk (.type "object") = some true)
    (kt_Disk_int : PySem.W.kitOne K (.ref C_Disk) (.type "int") = some false)
    (kt_Disk_bool : PySem.W.kitOne K (.ref C_Disk) (.type "bool") = some false)
    (kt_Disk_str : PySem.W.kitOne K (.ref C_Disk) (.type "str") = some false)
    (kt_Disk_tuple : PySem.W.kitOne K (.ref C_Disk) (.type "tuple") = some false)
    (kt_Disk_list : PySem.W.kitOne K (.ref C_Disk) (.type "list") = some false)
    (kt_Disk_dict : PySem.W.kitOne K (.ref C_Disk) (.type "dict") = some false)
    (nf_Disk_kept_lying : PySem.W.findIn K (.ref C_Disk) "kept_lying" = some none)
    (nf_Disk_kept_waiting : PySem.W.findIn K (.ref C_Disk) "kept_waiting" = some none)
    (nf_Disk_kept_power : PySem.W.findIn K (.ref C_Disk) "kept_power" = some none)
    (nf_Disk_kept_reached : PySem.W.findIn K (.ref C_Disk) "kept_reached" = some none)
    (a25 : PySem.W.findIn K (.ref C_Disk) "__init__" = some (some (.ref f25)))
    (i25 : PySem.W.isFn K (.ref f25) = true)
    (l25 : K.lookup f25 = some ⟨oc25, od25, .func (PySem.W.fnOf "__init__" "Disk.__init__" (defArgs s_Disk___init) (defBody s_Disk___init) (defScope s_Disk___init) .none kV25 dc25 pm25 an25 cd25 ct25), sl25⟩)
    (c25 : PySem.W.codeIn K cd25 "Disk.__init__" = true)
    (k25 : PySem.W.keepIn K (.ref f25) = true)
    (ms_Disk : PySem.W.makesIn K C_Disk = true)
    (kc_Disk : PySem.W.keepIn K (.ref C_Disk) = true)
    (a26 : PySem.W.findIn K (.ref C_Disk) "blocks" = some (some (.ref f26)))
    (i26 : PySem.W.isFn K (.ref f26) = true)
    (l26 : K.lookup f26 = some ⟨oc26, od26, .func (PySem.W.fnOf "blocks" "Disk.blocks" (defArgs s_Disk_blocks) (defBody s_Disk_blocks) (defScope s_Disk_blocks) .none kV26 dc26 pm26 an26 cd26 ct26), sl26⟩)
    (c26 : PySem.W.codeIn K cd26 "Disk.blocks" = true)
    (k26 : PySem.W.keepIn K (.ref f26) = true)
    (a27 : PySem.W.findIn K (.ref C_Disk) "check_block" = some (some (.ref f27)))
    (i27 : PySem.W.isFn K (.ref f27) = true)
    (l27 : K.lookup f27 = some ⟨oc27, od27, .func (PySem.W.fnOf "check_block" "Disk.check_block" (defArgs s_Disk_check_block) (defBody s_Disk_check_block) (defScope s_Disk_check_block) .none kV27 dc27 pm27 an27 cd27 ct27), sl27⟩)
    (c27 : PySem.W.codeIn K cd27 "Disk.check_block" = true)
    (k27 : PySem.W.keepIn K (.ref f27) = true)
    (a28 : PySem.W.findIn K (.ref C_Disk) "write" = some (some (.ref f28)))
    (i28 : PySem.W.isFn K (.ref f28) = true)
    (l28 : K.lookup f28 = some ⟨oc28, od28, .func (PySem.W.fnOf "write" "Disk.write" (defArgs s_Disk_write) (defBody s_Disk_write) (defScope s_Disk_write) .none kV28 dc28 pm28 an28 cd28 ct28), sl28⟩)
    (c28 : PySem.W.codeIn K cd28 "Disk.write" = true)
    (k28 : PySem.W.keepIn K (.ref f28) = true)
    (a29 : PySem.W.findIn K (.ref C_Disk) "read" = some (some (.ref f29)))
    (i29 : PySem.W.isFn K (.ref f29) = true)
    (l29 : K.lookup f29 = some ⟨oc29, od29, .func (PySem.W.fnOf "read" "Disk.read" (defArgs s_Disk_read) (defBody s_Disk_read) (defScope s_Disk_read) .none kV29 dc29 pm29 an29 cd29 ct29), sl29⟩)
    (c29 : PySem.W.codeIn K cd29 "Disk.read" = true)
    (k29 : PySem.W.keepIn K (.ref f29) = true)
    (a30 : PySem.W.findIn K (.ref C_Disk) "reach_one" = some (some (.ref f30)))
    (i30 : PySem.W.isFn K (.ref f30) = true)
    (l30 : K.lookup f30 = some ⟨oc30, od30, .func (PySem.W.fnOf "reach_one" "Disk.reach_one" (defArgs s_Disk_reach_one) (defBody s_Disk_reach_one) (defScope s_Disk_reach_one) .none kV30 dc30 pm30 an30 cd30 ct30), sl30⟩)
    (c30 : PySem.W.codeIn K cd30 "Disk.reach_one" = true)
    (k30 : PySem.W.keepIn K (.ref f30) = true)
    (a31 : PySem.W.findIn K (.ref C_Disk) "reach" = some (some (.ref f31)))
    (i31 : PySem.W.isFn K (.ref f31) = true)
    (l31 : K.lookup f31 = some ⟨oc31, od31, .func (PySem.W.fnOf "reach" "Disk.reach" (defArgs s_Disk_reach) (defBody s_Disk_reach) (defScope s_Disk_reach) .none kV31 dc31 pm31 an31 cd31 ct31), sl31⟩)
    (c31 : PySem.W.codeIn K cd31 "Disk.reach" = true)
    (k31 : PySem.W.keepIn K (.ref f31) = true)
    (a32 : PySem.W.findIn K (.ref C_Disk) "force" = some (some (.ref f32)))
    (i32 : PySem.W.isFn K (.ref f32) = true)
    (l32 : K.lookup f32 = some ⟨oc32, od32, .func (PySem.W.fnOf "force" "Disk.force" (defArgs s_Disk_force) (defBody s_Disk_force) (defScope s_Disk_force) .none kV32 dc32 pm32 an32 cd32 ct32), sl32⟩)
    (c32 : PySem.W.codeIn K cd32 "Disk.force" = true)
    (k32 : PySem.W.keepIn K (.ref f32) = true)
    (a33 : PySem.W.findIn K (.ref C_Disk) "power" = some (some (.ref f33)))
    (i33 : PySem.W.isFn K (.ref f33) = true)
    (l33 : K.lookup f33 = some ⟨oc33, od33, .func (PySem.W.fnOf "power" "Disk.power" (defArgs s_Disk_power) (defBody s_Disk_power) (defScope s_Disk_power) .none kV33 dc33 pm33 an33 cd33 ct33), sl33⟩)
    (c33 : PySem.W.codeIn K cd33 "Disk.power" = true)
    (k33 : PySem.W.keepIn K (.ref f33) = true)
    (a34 : PySem.W.findIn K (.ref C_Disk) "waiting" = some (some (.ref f34)))
    (i34 : PySem.W.isFn K (.ref f34) = true)
    (l34 : K.lookup f34 = some ⟨oc34, od34, .func (PySem.W.fnOf "waiting" "Disk.waiting" (defArgs s_Disk_waiting) (defBody s_Disk_waiting) (defScope s_Disk_waiting) .none kV34 dc34 pm34 an34 cd34 ct34), sl34⟩)
    (c34 : PySem.W.codeIn K cd34 "Disk.waiting" = true)
    (k34 : PySem.W.keepIn K (.ref f34) = true)
    (a35 : PySem.W.findIn K (.ref C_Disk) "lying" = some (some (.ref f35)))
    (i35 : PySem.W.isFn K (.ref f35) = true)
    (l35 : K.lookup f35 = some ⟨oc35, od35, .func (PySem.W.fnOf "lying" "Disk.lying" (defArgs s_Disk_lying) (defBody s_Disk_lying) (defScope s_Disk_lying) .none kV35 dc35 pm35 an35 cd35 ct35), sl35⟩)
    (c35 : PySem.W.codeIn K cd35 "Disk.lying" = true)
    (k35 : PySem.W.keepIn K (.ref f35) = true)
    (a36 : PySem.W.findIn K (.ref C_Disk) "reached" = some (some (.ref f36)))
    (i36 : PySem.W.isFn K (.ref f36) = true)
    (l36 : K.lookup f36 = some ⟨oc36, od36, .func (PySem.W.fnOf "reached" "Disk.reached" (defArgs s_Disk_reached) (defBody s_Disk_reached) (defScope s_Disk_reached) .none kV36 dc36 pm36 an36 cd36 ct36), sl36⟩)
    (c36 : PySem.W.codeIn K cd36 "Disk.reached" = true)
    (k36 : PySem.W.keepIn K (.ref f36) = true)
    (tb_law : LamX.TabB base mg KC_law KT_law)
    : Top K mg ⟨⟨C_StoreError, C_BadDisk, C_NoBlock, C_NoContent, C_NothingWaits, C_Stopped, C_NoNumber, C_Disk, KC_law, KT_law⟩, base⟩ where
  b_ValueError := PySem.W.mg_none_of X G z_ValueError
  b_abs := PySem.W.mg_none_of X G z_abs
  b_all := PySem.W.mg_none_of X G z_all
  b_bool := PySem.W.mg_none_of X G z_bool
  b_dict := PySem.W.mg_none_of X G z_dict
  b_int := PySem.W.mg_none_of X G z_int
  b_isinstance := PySem.W.mg_none_of X G z_isinstance
  b_len := PySem.W.mg_none_of X G z_len
  b_list := PySem.W.mg_none_of X G z_list
  b_range := PySem.W.mg_none_of X G z_range
  b_str := PySem.W.mg_none_of X G z_str
  b_tuple := PySem.W.mg_none_of X G z_tuple
  b_zip := PySem.W.mg_none_of X G z_zip
  c_LEAST_BLOCKS := ⟨_, PySem.W.mg_of X G v_LEAST_BLOCKS⟩
  c_MOST_BLOCKS := ⟨_, PySem.W.mg_of X G v_MOST_BLOCKS⟩
  c_MOST_ITEMS := ⟨_, PySem.W.mg_of X G v_MOST_ITEMS⟩
  c_MOST_INTEGER := ⟨_, PySem.W.mg_of X G v_MOST_INTEGER⟩
  c_MOST_LETTERS := ⟨_, PySem.W.mg_of X G v_MOST_LETTERS⟩
  c_MOST_POWER := ⟨_, PySem.W.mg_of X G v_MOST_POWER⟩
  c_LETTERS := ⟨_, PySem.W.mg_of X G v_LETTERS⟩
  f_is_integer := ⟨_, _, PySem.W.mg_of X G a1, fun_mk (st := s_is_integer) l1 c1 k1⟩
  f_is_within := ⟨_, _, PySem.W.mg_of X G a2, fun_mk (st := s_is_within) l2 c2 k2⟩
  f_is_lot := ⟨_, _, PySem.W.mg_of X G a3, fun_mk (st := s_is_lot) l3 c3 k3⟩
  f_is_item := ⟨_, _, PySem.W.mg_of X G a4, fun_mk (st := s_is_item) l4 c4 k4⟩
  f_are_items := ⟨_, _, PySem.W.mg_of X G a5, fun_mk (st := s_are_items) l5 c5 k5⟩
  f_L_hand := ⟨_, _, PySem.W.mg_of X G a6, fun_mk (st := s_L_hand) l6 c6 k6⟩
  f_L_draw := ⟨_, _, PySem.W.mg_of X G a7, fun_mk (st := s_L_draw) l7 c7 k7⟩
  f_L_any := ⟨_, _, PySem.W.mg_of X G a8, fun_mk (st := s_L_any) l8 c8 k8⟩
  f_L_is_int := ⟨_, _, PySem.W.mg_of X G a9, fun_mk (st := s_L_is_int) l9 c9 k9⟩
  f_L_deep := ⟨_, _, PySem.W.mg_of X G a10, fun_mk (st := s_L_deep) l10 c10 k10⟩
  f_L_first := ⟨_, _, PySem.W.mg_of X G a11, fun_mk (st := s_L_first) l11 c11 k11⟩
  f_L_is_name := ⟨_, _, PySem.W.mg_of X G a12, fun_mk (st := s_L_is_name) l12 c12 k12⟩
  f_L_content := ⟨_, _, PySem.W.mg_of X G a13, fun_mk (st := s_L_content) l13 c13 k13⟩
  f_L_book := ⟨_, _, PySem.W.mg_of X G a14, fun_mk (st := s_L_book) l14 c14 k14⟩
  f_L_wrote := ⟨_, _, PySem.W.mg_of X G a15, fun_mk (st := s_L_wrote) l15 c15 k15⟩
  f_L_reached := ⟨_, _, PySem.W.mg_of X G a16, fun_mk (st := s_L_reached) l16 c16 k16⟩
  f_L_forced := ⟨_, _, PySem.W.mg_of X G a17, fun_mk (st := s_L_forced) l17 c17 k17⟩
  f_L_shows := ⟨_, _, PySem.W.mg_of X G a18, fun_mk (st := s_L_shows) l18 c18 k18⟩
  f_L_word := ⟨_, _, PySem.W.mg_of X G a19, fun_mk (st := s_L_word) l19 c19 k19⟩
  f_L_odd := ⟨_, _, PySem.W.mg_of X G a20, fun_mk (st := s_L_odd) l20 c20 k20⟩
  f_L_is_content := ⟨_, _, PySem.W.mg_of X G a21, fun_mk (st := s_L_is_content) l21 c21 k21⟩
  f_L_some_content := ⟨_, _, PySem.W.mg_of X G a22, fun_mk (st := s_L_some_content) l22 c22 k22⟩
  f_L_is_lot := ⟨_, _, PySem.W.mg_of X G a23, fun_mk (st := s_L_is_lot) l23 c23 k23⟩
  f_law := ⟨_, _, PySem.W.mg_of X G a24, ⟨⟨_, _, _, _, _, _, _, _, rfl, l24, c24⟩, k24⟩⟩
  b_law := tb_law
  g_StoreError := PySem.W.mg_of X G aC_StoreError
  xm_BadDisk_StoreError := exm_ref hb_StoreError hd_StoreError ht_StoreError xs_BadDisk_StoreError
  xm_NoBlock_StoreError := exm_ref hb_StoreError hd_StoreError ht_StoreError xs_NoBlock_StoreError
  xm_NoContent_StoreError := exm_ref hb_StoreError hd_StoreError ht_StoreError xs_NoContent_StoreError
  xm_NoNumber_StoreError := exm_ref hb_StoreError hd_StoreError ht_StoreError xs_NoNumber_StoreError
  xm_NothingWaits_StoreError := exm_ref hb_StoreError hd_StoreError ht_StoreError xs_NothingWaits_StoreError
  xm_Stopped_StoreError := exm_ref hb_StoreError hd_StoreError ht_StoreError xs_Stopped_StoreError
  g_BadDisk := PySem.W.mg_of X G aC_BadDisk
  er_BadDisk := ⟨PySem.W.mg_of X G aC_BadDisk, ex_BadDisk, kp_BadDisk, sb_BadDisk, ty_BadDisk⟩
  xe_BadDisk := errB_ok xe_BadDisk
  kt_BadDisk_BadDisk := kt_BadDisk_BadDisk
  kt_BadDisk_NoBlock := kt_BadDisk_NoBlock
  kt_BadDisk_NoContent := kt_BadDisk_NoContent
  kt_BadDisk_ValueError := kt_BadDisk_ValueError
  kt_BadDisk_NothingWaits := kt_BadDisk_NothingWaits
  kt_BadDisk_NoNumber := kt_BadDisk_NoNumber
  g_NoBlock := PySem.W.mg_of X G aC_NoBlock
  er_NoBlock := ⟨PySem.W.mg_of X G aC_NoBlock, ex_NoBlock, kp_NoBlock, sb_NoBlock, ty_NoBlock⟩
  xe_NoBlock := errB_ok xe_NoBlock
  kt_NoBlock_BadDisk := kt_NoBlock_BadDisk
  kt_NoBlock_NoBlock := kt_NoBlock_NoBlock
  kt_NoBlock_NoContent := kt_NoBlock_NoContent
  kt_NoBlock_ValueError := kt_NoBlock_ValueError
  kt_NoBlock_NothingWaits := kt_NoBlock_NothingWaits
  kt_NoBlock_NoNumber := kt_NoBlock_NoNumber
  g_NoContent := PySem.W.mg_of X G aC_NoContent
  er_NoContent := ⟨PySem.W.mg_of X G aC_NoContent, ex_NoContent, kp_NoContent, sb_NoContent, ty_NoContent⟩
  xe_NoContent := errB_ok xe_NoContent
  kt_NoContent_BadDisk := kt_NoContent_BadDisk
  kt_NoContent_NoBlock := kt_NoContent_NoBlock
  kt_NoContent_NoContent := kt_NoContent_NoContent
  kt_NoContent_ValueError := kt_NoContent_ValueError
  kt_NoContent_NothingWaits := kt_NoContent_NothingWaits
  kt_NoContent_NoNumber := kt_NoContent_NoNumber
  g_NothingWaits := PySem.W.mg_of X G aC_NothingWaits
  er_NothingWaits := ⟨PySem.W.mg_of X G aC_NothingWaits, ex_NothingWaits, kp_NothingWaits, sb_NothingWaits, ty_NothingWaits⟩
  xe_NothingWaits := errB_ok xe_NothingWaits
  kt_NothingWaits_BadDisk := kt_NothingWaits_BadDisk
  kt_NothingWaits_NoBlock := kt_NothingWaits_NoBlock
  kt_NothingWaits_NoContent := kt_NothingWaits_NoContent
  kt_NothingWaits_ValueError := kt_NothingWaits_ValueError
  kt_NothingWaits_NothingWaits := kt_NothingWaits_NothingWaits
  kt_NothingWaits_NoNumber := kt_NothingWaits_NoNumber
  g_Stopped := PySem.W.mg_of X G aC_Stopped
  er_Stopped := ⟨PySem.W.mg_of X G aC_Stopped, ex_Stopped, kp_Stopped, sb_Stopped, ty_Stopped⟩
  xe_Stopped := errB_ok xe_Stopped
  kt_Stopped_BadDisk := kt_Stopped_BadDisk
  kt_Stopped_NoBlock := kt_Stopped_NoBlock
  kt_Stopped_NoContent := kt_Stopped_NoContent
  kt_Stopped_ValueError := kt_Stopped_ValueError
  kt_Stopped_NothingWaits := kt_Stopped_NothingWaits
  kt_Stopped_NoNumber := kt_Stopped_NoNumber
  g_NoNumber := PySem.W.mg_of X G aC_NoNumber
  er_NoNumber := ⟨PySem.W.mg_of X G aC_NoNumber, ex_NoNumber, kp_NoNumber, sb_NoNumber, ty_NoNumber⟩
  xe_NoNumber := errB_ok xe_NoNumber
  kt_NoNumber_BadDisk := kt_NoNumber_BadDisk
  kt_NoNumber_NoBlock := kt_NoNumber_NoBlock
  kt_NoNumber_NoContent := kt_NoNumber_NoContent
  kt_NoNumber_ValueError := kt_NoNumber_ValueError
  kt_NoNumber_NothingWaits := kt_NoNumber_NothingWaits
  kt_NoNumber_NoNumber := kt_NoNumber_NoNumber
  g_Disk := PySem.W.mg_of X G aC_Disk
  cl_Disk := ⟨pg_Disk, hd_Disk, po_Disk, sa_Disk⟩
  ix_Disk := ⟨⟨⟨pg_Disk, hd_Disk, po_Disk, sa_Disk⟩, ca_Disk, cn_Disk, ct_Disk, cm_Disk, by simp [PySem.W.kitOne]⟩, fun n hn => by unfold sixT at hn; simp only [List.mem_cons, List.not_mem_nil, or_false] at hn; rcases hn with rfl | rfl | rfl | rfl | rfl | rfl <;> assumption⟩
  n_Disk_kept_lying := nf_Disk_kept_lying
  n_Disk_kept_waiting := nf_Disk_kept_waiting
  n_Disk_kept_power := nf_Disk_kept_power
  n_Disk_kept_reached := nf_Disk_kept_reached
  mk_Disk := ⟨_, _, ⟨ms_Disk, a25, i25, kc_Disk⟩, fun_mk (st := s_Disk___init) l25 c25 k25⟩
  m_Disk_blocks := ⟨_, _, ⟨a26, i26, k26⟩, fun_mk (st := s_Disk_blocks) l26 c26 k26⟩
  m_Disk_check_block := ⟨_, _, ⟨a27, i27, k27⟩, fun_mk (st := s_Disk_check_block) l27 c27 k27⟩
  m_Disk_write := ⟨_, _, ⟨a28, i28, k28⟩, fun_mk (st := s_Disk_write) l28 c28 k28⟩
  m_Disk_read := ⟨_, _, ⟨a29, i29, k29⟩, fun_mk (st := s_Disk_read) l29 c29 k29⟩
  m_Disk_reach_one := ⟨_, _, ⟨a30, i30, k30⟩, fun_mk (st := s_Disk_reach_one) l30 c30 k30⟩
  m_Disk_reach := ⟨_, _, ⟨a31, i31, k31⟩, fun_mk (st := s_Disk_reach) l31 c31 k31⟩
  m_Disk_force := ⟨_, _, ⟨a32, i32, k32⟩, fun_mk (st := s_Disk_force) l32 c32 k32⟩
  m_Disk_power := ⟨_, _, ⟨a33, i33, k33⟩, fun_mk (st := s_Disk_power) l33 c33 k33⟩
  m_Disk_waiting := ⟨_, _, ⟨a34, i34, k34⟩, fun_mk (st := s_Disk_waiting) l34 c34 k34⟩
  m_Disk_lying := ⟨_, _, ⟨a35, i35, k35⟩, fun_mk (st := s_Disk_lying) l35 c35 k35⟩
  m_Disk_reached := ⟨_, _, ⟨a36, i36, k36⟩, fun_mk (st := s_Disk_reached) l36 c36 k36⟩
end K02
open PySem PySem.W PyProof.Rows
set_option maxRecDepth 100000 in
set_option maxHeartbeats 0 in
theorem PySem.Challenge.cw_wholeways_k02_disks_refused_holds : PySem.Challenge.rw_wholeways_k02_disks_refused.Holds := by
  w_on; o_law; k_head; (case hw => w_witness2)
  k_fill
  refine K02.walk (l := PySem.Challenge.rw_wholeways_k02_disks_refused) rfl rfl rfl (fun w h Y => PySem.W.km_in_of Y) 370 366 [(366, (("law" : Str) ++ ".<locals>.") ++ "<lambda>")] [(370, 366)] (by simp) (by simp) ?F
  case F =>
    intro w mg h Y KX G
    refine ⟨?hT, ?nT, ?hC, ?hF, ⟨?A_StoreError, ?A_BadDisk, ?A_NoBlock, ?A_NoContent, ?A_NothingWaits, ?A_Stopped, ?A_NoNumber, ?A_Disk, 370, 366⟩, rfl, rfl, rfl, fun base tb => ?F2⟩
    case F2 =>
      refine' K02.top_mk KX G ?z_ValueError ?z_abs ?z_all ?z_bool ?z_dict ?z_int ?z_isinstance ?z_len ?z_list ?z_range ?z_str ?z_tuple ?z_zip ?v_LEAST_BLOCKS ?v_MOST_BLOCKS ?v_MOST_ITEMS ?v_MOST_INTEGER ?v_MOST_LETTERS ?v_MOST_POWER ?v_LETTERS ?a1 ?l1 ?c1 ?k1 ?a2 ?l2 ?c2 ?k2 ?a3 ?l3 ?c3 ?k3 ?a4 ?l4 ?c4 ?k4 ?a5 ?l5 ?c5 ?k5 ?a6 ?l6 ?c6 ?k6 ?a7 ?l7 ?c7 ?k7 ?a8 ?l8 ?c8 ?k8 ?a9 ?l9 ?c9 ?k9 ?a10 ?l10 ?c10 ?k10 ?a11 ?l11 ?c11 ?k11 ?a12 ?l12 ?c12 ?k12 ?a13 ?l13 ?c13 ?k13 ?a14 ?l14 ?c14 ?k14 ?a15 ?l15 ?c15 ?k15 ?a16 ?l16 ?c16 ?k16 ?a17 ?l17 ?c17 ?k17 ?a18 ?l18 ?c18 ?k18 ?a19 ?l19 ?c19 ?k19 ?a20 ?l20 ?c20 ?k20 ?a21 ?l21 ?c21 ?k21 ?a22 ?l22 ?c22 ?k22 ?a23 ?l23 ?c23 ?k23 ?a24 ?l24 ?c24 ?k24 ?aC_StoreError ?hb_StoreError ?hd_StoreError ?ht_StoreError ?xs_BadDisk_StoreError ?xs_NoBlock_StoreError ?xs_NoContent_StoreError ?xs_NoNumber_StoreError ?xs_NothingWaits_StoreError ?xs_Stopped_StoreError ?aC_BadDisk ?ex_BadDisk ?kp_BadDisk ?sb_BadDisk ?ty_BadDisk ?xe_BadDisk ?kt_BadDisk_BadDisk ?kt_BadDisk_NoBlock ?kt_BadDisk_NoContent ?kt_BadDisk_ValueError ?kt_BadDisk_NothingWaits ?kt_BadDisk_NoNumber ?aC_NoBlock ?ex_NoBlock ?kp_NoBlock ?sb_NoBlock ?ty_NoBlock ?xe_NoBlock ?kt_NoBlock_BadDisk ?kt_NoBlock_NoBlock ?kt_NoBlock_NoContent ?kt_NoBlock_ValueError ?kt_NoBlock_NothingWaits ?kt_NoBlock_NoNumber ?aC_NoContent ?ex_NoContent ?kp_NoContent ?sb_NoContent ?ty_NoContent ?xe_NoContent ?kt_NoContent_BadDisk ?kt_NoContent_NoBlock ?kt_NoContent_NoContent ?kt_NoContent_ValueError ?kt_NoContent_NothingWaits ?kt_NoContent_NoNumber ?aC_NothingWaits ?ex_NothingWaits ?kp_NothingWaits ?sb_NothingWaits ?ty_NothingWaits ?xe_NothingWaits ?kt_NothingWaits_BadDisk ?kt_NothingWaits_NoBlock ?kt_NothingWaits_NoContent ?kt_NothingWaits_ValueError ?kt_NothingWaits_NothingWaits ?kt_NothingWaits_NoNumber ?aC_Stopped ?ex_Stopped ?kp_Stopped ?sb_Stopped ?ty_Stopped ?xe_Stopped ?kt_Stopped_BadDisk ?kt_Stopped_NoBlock ?kt_Stopped_NoContent ?kt_Stopped_ValueError ?kt_Stopped_NothingWaits ?kt_Stopped_NoNumber ?aC_NoNumber ?ex_NoNumber ?kp_NoNumber ?sb_NoNumber ?ty_NoNumber ?xe_NoNumber ?kt_NoNumber_BadDisk ?kt_NoNumber_NoBlock ?kt_NoNumber_NoContent ?kt_NoNumber_ValueError ?kt_NoNumber_NothingWaits ?kt_NoNumber_NoNumber ?aC_Disk ?pg_Disk ?hd_Disk ?po_Disk ?sa_Disk ?ca_Disk ?cn_Disk ?ct_Disk ?cm_Disk ?kt_Disk_int ?kt_Disk_bool ?kt_Disk_str ?kt_Disk_tuple ?kt_Disk_list ?kt_Disk_dict ?nf_Disk_kept_lying ?nf_Disk_kept_waiting ?nf_Disk_kept_power ?nf_Disk_kept_reached ?a25 ?i25 ?l25 ?c25 ?k25 ?ms_Disk ?kc_Disk ?a26 ?i26 ?l26 ?c26 ?k26 ?a27 ?i27 ?l27 ?c27 ?k27 ?a28 ?i28 ?l28 ?c28 ?k28 ?a29 ?i29 ?l29 ?c29 ?k29 ?a30 ?i30 ?l30 ?c30 ?k30 ?a31 ?i31 ?l31 ?c31 ?k31 ?a32 ?i32 ?l32 ?c32 ?k32 ?a33 ?i33 ?l33 ?c33 ?k33 ?a34 ?i34 ?l34 ?c34 ?k34 ?a35 ?i35 ?l35 ?c35 ?k35 ?a36 ?i36 ?l36 ?c36 ?k36 (tb (370, 366) (by simp))
      (case aC_StoreError => k_is)
      (case aC_BadDisk => k_is)
      (case aC_NoBlock => k_is)
      (case aC_NoContent => k_is)
      (case aC_NothingWaits => k_is)
      (case aC_Stopped => k_is)
      (case aC_NoNumber => k_is)
      (case aC_Disk => k_is)
      (case z_ValueError => k_is)
      (case z_abs => k_is)
      (case z_all => k_is)
      (case z_bool => k_is)
      (case z_dict => k_is)
      (case z_int => k_is)
      (case z_isinstance => k_is)
      (case z_len => k_is)
      (case z_list => k_is)
      (case z_range => k_is)
      (case z_str => k_is)
      (case z_tuple => k_is)
      (case z_zip => k_is)
      (case v_LEAST_BLOCKS => k_is)
      (case v_MOST_BLOCKS => k_is)
      (case v_MOST_ITEMS => k_is)
      (case v_MOST_INTEGER => k_is)
      (case v_MOST_LETTERS => k_is)
      (case v_MOST_POWER => k_is)
      (case v_LETTERS => k_is)
      (case a1 => k_is)
      (case l1 => k_is)
      (case c1 => k_is)
      (case k1 => k_is)
      (case a2 => k_is)
      (case l2 => k_is)
      (case c2 => k_is)
      (case k2 => k_is)
      (case a3 => k_is)
      (case l3 => k_is)
      (case c3 => k_is)
      (case k3 => k_is)
      (case a4 => k_is)
      (case l4 => k_is)
      (case c4 => k_is)
      (case k4 => k_is)
      (case a5 => k_is)
      (case l5 => k_is)
      (case c5 => k_is)
      (case k5 => k_is)
      (case a6 => k_is)
      (case l6 => k_is)
      (case c6 => k_is)
      (case k6 => k_is)
      (case a7 => k_is)
      (case l7 => k_is)
      (case c7 => k_is)
      (case k7 => k_is)
      (case a8 => k_is)
      (case l8 => k_is)
      (case c8 => k_is)
      (case k8 => k_is)
      (case a9 => k_is)
      (case l9 => k_is)
      (case c9 => k_is)
      (case k9 => k_is)
      (case a10 => k_is)
      (case l10 => k_is)
      (case c10 => k_is)
      (case k10 => k_is)
      (case a11 => k_is)
      (case l11 => k_is)
      (case c11 => k_is)
      (case k11 => k_is)
      (case a12 => k_is)
      (case l12 => k_is)
      (case c12 => k_is)
      (case k12 => k_is)
      (case a13 => k_is)
      (case l13 => k_is)
      (case c13 => k_is)
      (case k13 => k_is)
      (case a14 => k_is)
      (case l14 => k_is)
      (case c14 => k_is)
      (case k14 => k_is)
      (case a15 => k_is)
      (case l15 => k_is)
      (case c15 => k_is)
      (case k15 => k_is)
      (case a16 => k_is)
      (case l16 => k_is)
      (case c16 => k_is)
      (case k16 => k_is)
      (case a17 => k_is)
      (case l17 => k_is)
      (case c17 => k_is)
      (case k17 => k_is)
      (case a18 => k_is)
      (case l18 => k_is)
      (case c18 => k_is)
      (case k18 => k_is)
      (case a19 => k_is)
      (case l19 => k_is)
      (case c19 => k_is)
      (case k19 => k_is)
      (case a20 => k_is)
      (case l20 => k_is)
      (case c20 => k_is)
      (case k20 => k_is)
      (case a21 => k_is)
      (case l21 => k_is)
      (case c21 => k_is)
      (case k21 => k_is)
      (case a22 => k_is)
      (case l22 => k_is)
      (case c22 => k_is)
      (case k22 => k_is)
      (case a23 => k_is)
      (case l23 => k_is)
      (case c23 => k_is)
      (case k23 => k_is)
      (case a24 => k_is)
      (case l24 => k_is)
      (case c24 => k_is)
      (case k24 => k_is)
      (case hb_StoreError => k_is)
      (case hd_StoreError => k_is)
      (case ht_StoreError => k_is)
      (case xs_BadDisk_StoreError => k_is)
      (case xs_NoBlock_StoreError => k_is)
      (case xs_NoContent_StoreError => k_is)
      (case xs_NoNumber_StoreError => k_is)
      (case xs_NothingWaits_StoreError => k_is)
      (case xs_Stopped_StoreError => k_is)
      (case ex_BadDisk => kernel_rfl)
      (case kp_BadDisk => k_is)
      (case sb_BadDisk => k_is)
      (case ty_BadDisk => k_is)
      (case xe_BadDisk => kernel_rfl)
      (case kt_BadDisk_BadDisk => kernel_rfl)
      (case kt_BadDisk_NoBlock => kernel_rfl)
      (case kt_BadDisk_NoContent => kernel_rfl)
      (case kt_BadDisk_ValueError => kernel_rfl)
      (case kt_BadDisk_NothingWaits => kernel_rfl)
      (case kt_BadDisk_NoNumber => kernel_rfl)
      (case ex_NoBlock => kernel_rfl)
      (case kp_NoBlock => k_is)
      (case sb_NoBlock => k_is)
      (case ty_NoBlock => k_is)
      (case xe_NoBlock => kernel_rfl)
      (case kt_NoBlock_BadDisk => kernel_rfl)
      (case kt_NoBlock_NoBlock => kernel_rfl)
      (case kt_NoBlock_NoContent => kernel_rfl)
      (case kt_NoBlock_ValueError => kernel_rfl)
      (case kt_NoBlock_NothingWaits => kernel_rfl)
      (case kt_NoBlock_NoNumber => kernel_rfl)
      (case ex_NoContent => kernel_rfl)
      (case kp_NoContent => k_is)
      (case sb_NoContent => k_is)
      (case ty_NoContent => k_is)
      (case xe_NoContent => kernel_rfl)
      (case kt_NoContent_BadDisk => kernel_rfl)
      (case kt_NoContent_NoBlock => kernel_rfl)
      (case kt_NoContent_NoContent => kernel_rfl)
      (case kt_NoContent_ValueError => kernel_rfl)
      (case kt_NoContent_NothingWaits => kernel_rfl)
      (case kt_NoContent_NoNumber => kernel_rfl)
      (case ex_NothingWaits => kernel_rfl)
      (case kp_NothingWaits => k_is)
      (case sb_NothingWaits => k_is)
      (case ty_NothingWaits => k_is)
      (case xe_NothingWaits => kernel_rfl)
      (case kt_NothingWaits_BadDisk => kernel_rfl)
      (case kt_NothingWaits_NoBlock => kernel_rfl)
      (case kt_NothingWaits_NoContent => kernel_rfl)
      (case kt_NothingWaits_ValueError => kernel_rfl)
      (case kt_NothingWaits_NothingWaits => kernel_rfl)
      (case kt_NothingWaits_NoNumber => kernel_rfl)
      (case ex_Stopped => kernel_rfl)
      (case kp_Stopped => k_is)
      (case sb_Stopped => k_is)
      (case ty_Stopped => k_is)
      (case xe_Stopped => kernel_rfl)
      (case kt_Stopped_BadDisk => kernel_rfl)
      (case kt_Stopped_NoBlock => kernel_rfl)
      (case kt_Stopped_NoContent => kernel_rfl)
      (case kt_Stopped_ValueError => kernel_rfl)
      (case kt_Stopped_NothingWaits => kernel_rfl)
      (case kt_Stopped_NoNumber => kernel_rfl)
      (case ex_NoNumber => kernel_rfl)
      (case kp_NoNumber => k_is)
      (case sb_NoNumber => k_is)
      (case ty_NoNumber => k_is)
      (case xe_NoNumber => kernel_rfl)
      (case kt_NoNumber_BadDisk => kernel_rfl)
      (case kt_NoNumber_NoBlock => kernel_rfl)
      (case kt_NoNumber_NoContent => kernel_rfl)
      (case kt_NoNumber_ValueError => kernel_rfl)
      (case kt_NoNumber_NothingWaits => kernel_rfl)
      (case kt_NoNumber_NoNumber => kernel_rfl)
      (case pg_Disk => k_is)
      (case hd_Disk => k_is)
      (case po_Disk => k_is)
      (case sa_Disk => k_is)
      (case ca_Disk => k_is)
      (case cn_Disk => k_is)
      (case ct_Disk => k_is)
      (case cm_Disk => k_is)
      (case kt_Disk_int => kernel_rfl)
      (case kt_Disk_bool => kernel_rfl)
      (case kt_Disk_str => kernel_rfl)
      (case kt_Disk_tuple => kernel_rfl)
      (case kt_Disk_list => kernel_rfl)
      (case kt_Disk_dict => kernel_rfl)
      (case nf_Disk_kept_lying => k_is)
      (case nf_Disk_kept_waiting => k_is)
      (case nf_Disk_kept_power => k_is)
      (case nf_Disk_kept_reached => k_is)
      (case a25 => k_is)
      (case i25 => k_is)
      (case l25 => k_is)
      (case c25 => k_is)
      (case k25 => k_is)
      (case ms_Disk => k_is)
      (case kc_Disk => k_is)
      (case a26 => k_is)
      (case i26 => k_is)
      (case l26 => k_is)
      (case c26 => k_is)
      (case k26 => k_is)
      (case a27 => k_is)
      (case i27 => k_is)
      (case l27 => k_is)
      (case c27 => k_is)
      (case k27 => k_is)
      (case a28 => k_is)
      (case i28 => k_is)
      (case l28 => k_is)
      (case c28 => k_is)
      (case k28 => k_is)
      (case a29 => k_is)
      (case i29 => k_is)
      (case l29 => k_is)
      (case c29 => k_is)
      (case k29 => k_is)
      (case a30 => k_is)
      (case i30 => k_is)
      (case l30 => k_is)
      (case c30 => k_is)
      (case k30 => k_is)
      (case a31 => k_is)
      (case i31 => k_is)
      (case l31 => k_is)
      (case c31 => k_is)
      (case k31 => k_is)
      (case a32 => k_is)
      (case i32 => k_is)
      (case l32 => k_is)
      (case c32 => k_is)
      (case k32 => k_is)
      (case a33 => k_is)
      (case i33 => k_is)
      (case l33 => k_is)
      (case c33 => k_is)
      (case k33 => k_is)
      (case a34 => k_is)
      (case i34 => k_is)
      (case l34 => k_is)
      (case c34 => k_is)
      (case k34 => k_is)
      (case a35 => k_is)
      (case i35 => k_is)
      (case l35 => k_is)
      (case c35 => k_is)
      (case k35 => k_is)
      (case a36 => k_is)
      (case i36 => k_is)
      (case l36 => k_is)
      (case c36 => k_is)
      (case k36 => k_is)
    case hT => intro p hp; simp only [List.mem_cons, List.not_mem_nil, or_false] at hp; rcases hp with rfl <;> exact PySem.W.km_tabs_of Y _ (by decide)
    case nT => intro p hp; simp only [List.mem_cons, List.not_mem_nil, or_false] at hp; rcases hp with rfl <;> kernel_rfl
    case hC => intro p hp; simp only [List.mem_cons, List.not_mem_nil, or_false] at hp; rcases hp with rfl <;> exact PySem.W.codeHd_of_K KX (by kernel_rfl)
    case hF =>
      refine' ⟨_, _, PySem.W.mg_of KX G ?q1, K02.funC_mk (st := K02.s_law) ?q2 ?q3 ?q4⟩
      (case q1 => k_is)
      (case q2 => k_is)
      (case q3 => k_is)
      (case q4 => k_is)
