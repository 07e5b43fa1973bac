import PyProof.Rows.All
import Wide.All
import OpenK.AllK
import Wide.FinOn
import HandS.ForMost
import HandS.Exc
import HandS.TryOnly
import HandS.ExcOwn
import HandS.WordsExc
import HandS.Wide
import HandS.SortInts
import HandS.IsInst
import HandS.Deep
import HandS.Walk
import HandS.Style
import KE.GoesEnum
import HandS.EndBits
import HandS.TupAny
import PySem.Challenge.RW_wholeways_k41_whole_needed_versions
set_option Elab.async false
set_option linter.all false
set_option maxRecDepth 100000
set_option maxHeartbeats 4000000
/-! A layer of plain data over the hand layer: values are trees (D), what may change stands in a store by address (SS). -/
namespace DP
open PySem L2

/-- plain data: what never changes is a tree; ref: an object by its address -/
inductive D where
  | non | bl (b : Bool) | int (i : Int) | str (x : Str) | tup (xs : List D) | fl (xs : List D) | ref (a : Addr) | ty (n : String)
/-- what may change -/
inductive MO where
  | lst (xs : List D) | dk (kvs : List (Key × D)) | dt (kvs : List (List Key × D)) | ins (C : Addr) (fs : List (Str × D)) | xd (fs : List (Str × D))
abbrev SS := Addr → Option MO
abbrev DEnv := List (Option D)
def sup (S : SS) (a : Addr) (o : MO) : SS := fun b => if b = a then some o else S b
def sdel (S : SS) (a : Addr) : SS := fun b => if b = a then none else S b
theorem sup_same {S : SS} {a : Addr} {o : MO} : sup S a o a = some o := if_pos rfl
theorem sup_ne {S : SS} {a b : Addr} {o : MO} (h : b ≠ a) : sup S a o b = S b := if_neg h
theorem sdel_same {S : SS} {a : Addr} : sdel S a a = none := if_pos rfl
theorem sdel_ne {S : SS} {a b : Addr} (h : b ≠ a) : sdel S a b = S b := if_neg h
theorem sup_sup {S : SS} {a : Addr} {o u : MO} : sup (sup S a o) a u = sup S a u := by
  funext b; unfold sup; split <;> rfl
theorem sdel_sup {S : SS} {a : Addr} {o : MO} (h : S a = none) : sdel (sup S a o) a = S := by
  funext b; unfold sdel sup; split
  · rename_i e; subst e; exact h.symm
  · rfl
/-- the part of the heap that never changes -/
def im (H : Hp) (S : SS) : Hp := fun a => match S a with | none => H a | some _ => none
theorem im_of {H : Hp} {S : SS} {a : Addr} {o : HO} (h : S a = none) (e : H a = some o) : im H S a = some o := by
  unfold im; rw [h]; exact e
theorem of_im {H : Hp} {S : SS} {a : Addr} {o : HO} (e : im H S a = some o) : S a = none ∧ H a = some o := by
  unfold im at e
  cases h : S a with
  | none => rw [h] at e; exact ⟨rfl, e⟩
  | some u => rw [h] at e; cases e

mutual
def Rep (K : PySem.W.Frag) (G : Hp) : D → V → Prop
  | .non, v => v = .non
  | .bl b, v => v = .bl b
  | .int i, v => v = .int i
  | .str x, v => v = .str x
  | .ref a, v => v = .ref a
  | .ty n, v => v = .ty n
  | .tup xs, v => ∃ a vs, v = .ref a ∧ SqT K G a vs ∧ Reps K G xs vs
  | .fl xs, v => ∃ a vs, v = .ref a ∧ SqL K G a vs ∧ Reps K G xs vs
def Reps (K : PySem.W.Frag) (G : Hp) : List D → List V → Prop
  | [], vs => vs = []
  | d :: ds, vs => ∃ v r, vs = v :: r ∧ Rep K G d v ∧ Reps K G ds r
end
def RepP {κ : Type} (K : PySem.W.Frag) (G : Hp) : List (κ × D) → List (κ × V) → Prop
  | [], vs => vs = []
  | (k, d) :: r, vs => ∃ v t, vs = (k, v) :: t ∧ Rep K G d v ∧ RepP K G r t
def Sub (G G' : Hp) : Prop := ∀ a o, G a = some o → G' a = some o
section
variable {K : PySem.W.Frag} {G G' : Hp} {H H' H2 : Hp} {S S' S2 : SS} {a : Addr}
theorem Sub.refl : Sub G G := fun _ _ h => h
theorem Sub.rd {u : HO} (e : Sub G G') (h : Rd G a u) : Rd G' a u := by
  rcases h with h | ⟨o, h⟩
  · exact .inl (e a _ h)
  · exact .inr ⟨o, e a _ h⟩
theorem Sub.l {xs : List V} (e : Sub G G') (h : SqL K G a xs) : SqL K G' a xs := by
  rcases h with h | h
  · exact .inl (e.rd h)
  · exact .inr h
theorem Sub.t {xs : List V} (e : Sub G G') (h : SqT K G a xs) : SqT K G' a xs := by
  rcases h with h | h
  · exact .inl (e.rd h)
  · exact .inr h
mutual
theorem Rep.mono (e : Sub G G') : ∀ (d : D) (v : V), Rep K G d v → Rep K G' d v
  | .non, v, h => by unfold Rep at *; exact h
  | .bl b, v, h => by unfold Rep at *; exact h
  | .int i, v, h => by unfold Rep at *; exact h
  | .str x, v, h => by unfold Rep at *; exact h
  | .ref a, v, h => by unfold Rep at *; exact h
  | .ty n, v, h => by unfold Rep at *; exact h
  | .tup xs, v, h => by
    unfold Rep at *
    obtain ⟨a, vs, e1, e2, e3⟩ := h
    exact ⟨a, vs, e1, e.t e2, Reps.mono e xs vs e3⟩
  | .fl xs, v, h => by
    unfold Rep at *
    obtain ⟨a, vs, e1, e2, e3⟩ := h
    exact ⟨a, vs, e1, e.l e2, Reps.mono e xs vs e3⟩
theorem Reps.mono (e : Sub G G') : ∀ (ds : List D) (vs : List V), Reps K G ds vs → Reps K G' ds vs
  | [], vs, h => by unfold Reps at *; exact h
  | d :: ds, vs, h => by
    unfold Reps at *
    obtain ⟨v, r, e1, e2, e3⟩ := h
    exact ⟨v, r, e1, Rep.mono e d v e2, Reps.mono e ds r e3⟩
end
theorem RepP.mono {κ : Type} (e : Sub G G') : ∀ (ds : List (κ × D)) (vs : List (κ × V)), RepP K G ds vs → RepP K G' ds vs
  | [], vs, h => h
  | (k, d) :: ds, vs, h => by
    obtain ⟨v, r, e1, e2, e3⟩ := h
    exact ⟨v, r, e1, Rep.mono e d v e2, RepP.mono e ds r e3⟩
theorem Reps.length : ∀ {ds : List D} {vs : List V}, Reps K G ds vs → ds.length = vs.length
  | [], vs, h => by unfold Reps at h; subst h; rfl
  | d :: ds, vs, h => by
    unfold Reps at h
    obtain ⟨v, r, rfl, _, h3⟩ := h
    simp only [List.length_cons, Reps.length h3]
theorem Reps.nil : Reps K G [] [] := by unfold Reps; rfl
theorem Reps.cons {d : D} {v : V} {ds : List D} {vs : List V} (h : Rep K G d v) (t : Reps K G ds vs) : Reps K G (d :: ds) (v :: vs) := by
  unfold Reps; exact ⟨v, vs, rfl, h, t⟩
theorem Reps.get : ∀ {ds : List D} {vs : List V} {i : Nat} {d : D}, Reps K G ds vs → ds[i]? = some d → ∃ v, vs[i]? = some v ∧ Rep K G d v
  | [], vs, i, d, h, e => by simp at e
  | d :: ds, vs, i, d', h, e => by
    unfold Reps at h
    obtain ⟨v, r, rfl, h2, h3⟩ := h
    cases i with
    | zero => simp at e; subst e; exact ⟨v, rfl, h2⟩
    | succ i =>
      obtain ⟨v', e1, e2⟩ := Reps.get (i := i) h3 (by simpa using e)
      exact ⟨v', by simpa using e1, e2⟩
theorem Reps.back {ds : List D} {vs : List V} {i : Nat} {v : V} (h : Reps K G ds vs) (e : vs[i]? = some v) : ∃ d, ds[i]? = some d ∧ Rep K G d v := by
  have hl := h.length
  obtain ⟨hi, _⟩ := List.getElem?_eq_some_iff.mp e
  have hi' : i < ds.length := by omega
  obtain ⟨v', e1, e2⟩ := h.get (List.getElem?_eq_getElem hi')
  rw [e] at e1
  cases e1
  exact ⟨_, List.getElem?_eq_getElem hi', e2⟩
theorem Reps.append : ∀ {ds es : List D} {vs us : List V}, Reps K G ds vs → Reps K G es us → Reps K G (ds ++ es) (vs ++ us)
  | [], es, vs, us, h, t => by unfold Reps at h; subst h; exact t
  | d :: ds, es, vs, us, h, t => by
    unfold Reps at h
    obtain ⟨v, r, rfl, h2, h3⟩ := h
    exact Reps.cons h2 (Reps.append h3 t)
theorem Reps.set : ∀ {ds : List D} {vs : List V} (i : Nat) {d : D} {v : V}, Reps K G ds vs → Rep K G d v → Reps K G (ds.set i d) (vs.set i v)
  | [], vs, i, d, v, h, r => by unfold Reps at h; subst h; exact Reps.nil
  | d :: ds, vs, 0, d', v', h, r => by
    unfold Reps at h
    obtain ⟨v, t, rfl, h2, h3⟩ := h
    exact Reps.cons r h3
  | d :: ds, vs, i + 1, d', v', h, r => by
    unfold Reps at h
    obtain ⟨v, t, rfl, h2, h3⟩ := h
    exact Reps.cons h2 (Reps.set i h3 r)
theorem Reps.take : ∀ {ds : List D} {vs : List V} (n : Nat), Reps K G ds vs → Reps K G (ds.take n) (vs.take n)
  | [], vs, n, h => by unfold Reps at h; subst h; simp [Reps.nil]
  | d :: ds, vs, 0, h => by simp [Reps.nil]
  | d :: ds, vs, n + 1, h => by
    unfold Reps at h
    obtain ⟨v, t, rfl, h2, h3⟩ := h
    exact Reps.cons h2 (Reps.take n h3)
theorem Reps.drop : ∀ {ds : List D} {vs : List V} (n : Nat), Reps K G ds vs → Reps K G (ds.drop n) (vs.drop n)
  | [], vs, n, h => by unfold Reps at h; subst h; simp [Reps.nil]
  | d :: ds, vs, 0, h => h
  | d :: ds, vs, n + 1, h => by
    unfold Reps at h
    obtain ⟨v, t, rfl, h2, h3⟩ := h
    exact Reps.drop n h3
theorem Reps.reverse : ∀ {ds : List D} {vs : List V}, Reps K G ds vs → Reps K G ds.reverse vs.reverse
  | [], vs, h => by unfold Reps at h; subst h; exact Reps.nil
  | d :: ds, vs, h => by
    unfold Reps at h
    obtain ⟨v, t, rfl, h2, h3⟩ := h
    rw [List.reverse_cons, List.reverse_cons]
    exact Reps.append (Reps.reverse h3) (Reps.cons h2 Reps.nil)
theorem rep_non {v : V} : Rep K G .non v ↔ v = .non := by unfold Rep; exact Iff.rfl
theorem rep_bl {v : V} {b : Bool} : Rep K G (.bl b) v ↔ v = .bl b := by unfold Rep; exact Iff.rfl
theorem rep_int {v : V} {i : Int} : Rep K G (.int i) v ↔ v = .int i := by unfold Rep; exact Iff.rfl
theorem rep_str {v : V} {x : Str} : Rep K G (.str x) v ↔ v = .str x := by unfold Rep; exact Iff.rfl
theorem rep_ref {v : V} {a : Addr} : Rep K G (.ref a) v ↔ v = .ref a := by unfold Rep; exact Iff.rfl
theorem rep_ty {v : V} {n : String} : Rep K G (.ty n) v ↔ v = .ty n := by unfold Rep; exact Iff.rfl
theorem rep_tup {v : V} {xs : List D} : Rep K G (.tup xs) v ↔ ∃ a vs, v = .ref a ∧ SqT K G a vs ∧ Reps K G xs vs := by constructor <;> (intro h; unfold Rep at *; exact h)
theorem rep_fl {v : V} {xs : List D} : Rep K G (.fl xs) v ↔ ∃ a vs, v = .ref a ∧ SqL K G a vs ∧ Reps K G xs vs := by constructor <;> (intro h; unfold Rep at *; exact h)
theorem reps_ints : ∀ {ns : List Int} {vs : List V}, Reps K G (ns.map D.int) vs → vs = ns.map V.int
  | [], vs, h => by unfold Reps at h; exact h
  | n :: ns, vs, h => by
    unfold List.map Reps at h
    obtain ⟨v, t, rfl, h2, h3⟩ := h
    rw [rep_int.mp h2, reps_ints h3] <;> rfl
theorem reps_ints' : ∀ {ns : List Int}, Reps K G (ns.map D.int) (ns.map V.int)
  | [] => Reps.nil
  | n :: ns => Reps.cons (rep_int.mpr rfl) reps_ints'
theorem reps_bls : ∀ {ns : List Bool} {vs : List V}, Reps K G (ns.map D.bl) vs → vs = ns.map V.bl
  | [], vs, h => by unfold Reps at h; exact h
  | n :: ns, vs, h => by
    unfold List.map Reps at h
    obtain ⟨v, t, rfl, h2, h3⟩ := h
    rw [rep_bl.mp h2, reps_bls h3] <;> rfl
theorem reps_strs : ∀ {ns : List Str} {vs : List V}, Reps K G (ns.map D.str) vs → vs = ns.map V.str
  | [], vs, h => by unfold Reps at h; exact h
  | n :: ns, vs, h => by
    unfold List.map Reps at h
    obtain ⟨v, t, rfl, h2, h3⟩ := h
    rw [rep_str.mp h2, reps_strs h3] <;> rfl
theorem reps_strs' : ∀ {ns : List Str}, Reps K G (ns.map D.str) (ns.map V.str)
  | [] => Reps.nil
  | n :: ns => Reps.cons (rep_str.mpr rfl) reps_strs'

/-- the store stands in the heap -/
def SimO (K : PySem.W.Frag) (H : Hp) (S : SS) (a : Addr) : MO → Prop
  | .lst xs => ∃ vs, H a = some (.lst vs) ∧ Reps K (im H S) xs vs
  | .dk kvs => ∃ vs, H a = some (.dK vs) ∧ RepP K (im H S) kvs vs
  | .dt kvs => ∃ vs, H a = some (.dT vs) ∧ RepP K (im H S) kvs vs
  | .ins C fs => ∃ dx vs, H a = some (.ins C dx vs) ∧ RepP K (im H S) fs vs
  | .xd fs => ∃ vs, H a = some (.xd vs) ∧ RepP K (im H S) fs vs
def Sim (K : PySem.W.Frag) (H : Hp) (S : SS) : Prop := ∀ a o, S a = some o → SimO K H S a o
def Stp (H : Hp) (S : SS) (H' : Hp) (S' : SS) : Prop := Sub (im H S) (im H' S')
theorem Stp.refl : Stp H S H S := Sub.refl
theorem Stp.trans (h1 : Stp H S H' S') (h2 : Stp H' S' H2 S2) : Stp H S H2 S2 := fun a o e => h2 a o (h1 a o e)
theorem SimO.mono {o : MO} (e : Sub (im H S) (im H' S')) (k : H' a = H a) (h : SimO K H S a o) : SimO K H' S' a o := by
  cases o with
  | lst xs => obtain ⟨vs, e1, e2⟩ := h; exact ⟨vs, k.trans e1, e2.mono e⟩
  | dk xs => obtain ⟨vs, e1, e2⟩ := h; exact ⟨vs, k.trans e1, e2.mono e⟩
  | dt xs => obtain ⟨vs, e1, e2⟩ := h; exact ⟨vs, k.trans e1, e2.mono e⟩
  | ins C fs => obtain ⟨dx, vs, e1, e2⟩ := h; exact ⟨dx, vs, k.trans e1, e2.mono e⟩
  | xd fs => obtain ⟨vs, e1, e2⟩ := h; exact ⟨vs, k.trans e1, e2.mono e⟩
theorem SimO.there {o : MO} (h : SimO K H S a o) : ∃ u, H a = some u := by
  cases o with
  | lst xs => obtain ⟨vs, e1, e2⟩ := h; exact ⟨_, e1⟩
  | dk xs => obtain ⟨vs, e1, e2⟩ := h; exact ⟨_, e1⟩
  | dt xs => obtain ⟨vs, e1, e2⟩ := h; exact ⟨_, e1⟩
  | ins C fs => obtain ⟨dx, vs, e1, e2⟩ := h; exact ⟨_, e1⟩
  | xd fs => obtain ⟨vs, e1, e2⟩ := h; exact ⟨_, e1⟩
theorem Sim.free (s : Sim K H S) (h : H a = none) : S a = none := by
  cases e : S a with
  | none => rfl
  | some o =>
    obtain ⟨u, hu⟩ := (s a o e).there
    rw [h] at hu; cases hu
/-- a new object that never changes -/
theorem Sim.new {o : HO} (s : Sim K H S) (h : H a = none) : Stp H S (upd H a o) S ∧ Sim K (upd H a o) S ∧ im (upd H a o) S a = some o := by
  have st : Stp H S (upd H a o) S := fun b u e => by
    obtain ⟨e1, e2⟩ := of_im e
    exact im_of e1 (by rw [upd_ne (ne_of_none e2 h)]; exact e2)
  refine ⟨st, fun b u e => (s b u e).mono st ?_, im_of (s.free h) upd_same⟩
  obtain ⟨x, hx⟩ := (s b u e).there
  exact upd_ne (ne_of_none hx h)
/-- a new object that may change -/
theorem Sim.newM {o : HO} {m : MO} (s : Sim K H S) (h : H a = none) (k : ∀ H' S', Sub (im H S) (im H' S') → H' a = some o → SimO K H' S' a m) : Stp H S (upd H a o) (sup S a m) ∧ Sim K (upd H a o) (sup S a m) := by
  have st : Stp H S (upd H a o) (sup S a m) := fun b u e => by
    obtain ⟨e1, e2⟩ := of_im e
    have hb : b ≠ a := ne_of_none e2 h
    exact im_of (by rw [sup_ne hb]; exact e1) (by rw [upd_ne hb]; exact e2)
  refine ⟨st, fun b u e => ?_⟩
  by_cases hb : b = a
  · subst hb
    rw [sup_same] at e; cases e
    exact k _ _ st upd_same
  · rw [sup_ne hb] at e
    exact (s b u e).mono st (upd_ne hb)
/-- an object of the store is changed -/
theorem Sim.write {o : HO} {m0 m : MO} (s : Sim K H S) (h : S a = some m0) (k : ∀ H' S', Sub (im H S) (im H' S') → H' a = some o → SimO K H' S' a m) : Stp H S (upd H a o) (sup S a m) ∧ Sim K (upd H a o) (sup S a m) := by
  have st : Stp H S (upd H a o) (sup S a m) := fun b u e => by
    obtain ⟨e1, e2⟩ := of_im e
    have hb : b ≠ a := fun z => by subst z; rw [h] at e1; cases e1
    exact im_of (by rw [sup_ne hb]; exact e1) (by rw [upd_ne hb]; exact e2)
  refine ⟨st, fun b u e => ?_⟩
  by_cases hb : b = a
  · subst hb
    rw [sup_same] at e; cases e
    exact k _ _ st upd_same
  · rw [sup_ne hb] at e
    exact (s b u e).mono st (upd_ne hb)
/-- from now on it never changes -/
theorem Sim.freeze (s : Sim K H S) : Stp H S H (sdel S a) ∧ Sim K H (sdel S a) := by
  have st : Stp H S H (sdel S a) := fun b u e => by
    obtain ⟨e1, e2⟩ := of_im e
    refine im_of ?_ e2
    unfold sdel; split
    · rfl
    · exact e1
  refine ⟨st, fun b u e => ?_⟩
  by_cases hb : b = a
  · subst hb; rw [sdel_same] at e; cases e
  · rw [sdel_ne hb] at e
    exact (s b u e).mono st rfl
/-- a list by its items: one that never changes, or one of the store -/
def IsL (S : SS) (d : D) (ds : List D) : Prop := d = .fl ds ∨ ∃ a, d = .ref a ∧ S a = some (.lst ds)
theorem IsL.fl {ds : List D} : IsL S (.fl ds) ds := .inl rfl
theorem IsL.ref {ds : List D} (h : S a = some (.lst ds)) : IsL S (.ref a) ds := .inr ⟨a, rfl, h⟩
theorem sub_im : Sub (im H S) H := fun _ _ e => (of_im e).2
theorem IsL.sq {d : D} {ds : List D} {v : V} (h : IsL S d ds) (r : Rep K (im H S) d v) (s : Sim K H S) : ∃ a vs, v = .ref a ∧ SqL K H a vs ∧ Reps K (im H S) ds vs := by
  rcases h with rfl | ⟨a, rfl, e⟩
  · obtain ⟨a, vs, e1, e2, e3⟩ := rep_fl.mp r
    exact ⟨a, vs, e1, sub_im.l e2, e3⟩
  · obtain ⟨vs, e1, e2⟩ := s a _ e
    exact ⟨a, vs, rep_ref.mp r, SqL.of e1, e2⟩
theorem tup_sq {ds : List D} {v : V} (r : Rep K (im H S) (.tup ds) v) : ∃ a vs, v = .ref a ∧ SqT K H a vs ∧ Reps K (im H S) ds vs := by
  obtain ⟨a, vs, e1, e2, e3⟩ := rep_tup.mp r
  exact ⟨a, vs, e1, sub_im.t e2, e3⟩
end
end DP

namespace DP
open PySem L2

/-! ### the widest readings -/
def tE (X : Cx) (e : Expr) : TE := fun σ H R => ∀ (pins : List (Addr × Obj)) (s : Shared), L2.Inv X pins σ H s → wpAny (model X.prog X.w) X.A (eval e X.env) (EP X pins σ R) X.xe s
def tT (X : Cx) (e : Expr) : TT := fun σ H R => ∀ (pins : List (Addr × Obj)) (s : Shared), L2.Inv X pins σ H s → wpAny (model X.prog X.w) X.A (isTrue e X.env (eval e X.env)) (TP X pins σ R) X.xe s
def tW (X : Cx) (e : Expr) : TT := fun σ H R => ∀ (whole : Sem Value) (pins : List (Addr × Obj)) (s : Shared), L2.Inv X pins σ H s → wpAny (model X.prog X.w) X.A (isTrue e X.env whole) (TP X pins σ R) X.xe s
def tA (X : Cx) (es : List Expr) : TA := fun σ H R => ∀ (pos : Pos) (pins : List (Addr × Obj)) (s : Shared), L2.Inv X pins σ H s → wpAny (model X.prog X.w) X.A (spliced (backTo pos (starEach es X.env))) (AP X pins σ R) X.xe s
def tS (X : Cx) (st : Stmt) : TS := fun D σ H => ∀ (pins : List (Addr × Obj)) (s : Shared), L2.Inv X pins σ H s → wpAny (model X.prog X.w) X.A (exec st X.env) (SP X pins D) X.xe s
def tSs (X : Cx) (st : List Stmt) : TS := fun D σ H => ∀ (pins : List (Addr × Obj)) (s : Shared), L2.Inv X pins σ H s → wpAny (model X.prog X.w) X.A (execs st X.env) (SP X pins D) X.xe s
def tGt (X : Cx) (tg : Expr) : TG := fun v σ H R => ∀ (pins : List (Addr × Obj)) (s : Shared) (u : Value), L2.Inv X pins σ H s → RelV v u → wpAny (model X.prog X.w) X.A (assign tg X.env u) (fun _ s' => ∃ σ' H', L2.Inv X pins σ' H' s' ∧ R σ' H') X.xe s
def tO (X : Cx) (f : Value → Value → Sem Value) : R2 := fun x y H R => ∀ (pins : List (Addr × Obj)) (s : Shared) (σ : L2.St) (v u : Value), L2.Inv X pins σ H s → RelV x v → RelV y u → wpAny (model X.prog X.w) X.A (f v u) (EP X pins σ R) X.xe s
def tIt (X : Cx) (tg iter : Expr) : TI := fun σ H R => ∀ (pins : List (Addr × Obj)) (s : Shared), L2.Inv X pins σ H s →
    wpAny (model X.prog X.w) X.A (eval iter X.env) (fun v s1 => wpAny (model X.prog X.w) X.A (pyIter v) (PIE X pins σ tg R) X.xe s1) X.xe s
section
variable {X : Cx} {e tg iter : Expr} {es : List Expr} {st : Stmt} {sts : List Stmt}
theorem PEt : PE X e (tE X e) := ⟨fun pins s σ H Q I h => h pins s I⟩
theorem PTt : PT X e (tT X e) := ⟨fun pins s σ H Q I h => h pins s I⟩
theorem PWt : PW X e (tW X e) := ⟨fun wh pins s σ H Q I h => h wh pins s I⟩
theorem PAt : PA X es (tA X es) := ⟨fun pos pins s σ H Q I h => h pos pins s I⟩
theorem PSt : PS X st (tS X st) := ⟨fun pins s σ H Q I h => h pins s I⟩
theorem PSst : PSs X sts (tSs X sts) := ⟨fun pins s σ H Q I h => h pins s I⟩
theorem PGt : PG X tg (tGt X tg) := ⟨fun pins s σ H v u Q I r h => h pins s u I r⟩
theorem PIt : PI X tg iter (tIt X tg iter) := ⟨fun pins s σ H R I h => h pins s I⟩
theorem OpRt {f : Value → Value → Sem Value} : OpR X f (tO X f) := fun pins s σ H x y v u Q I rx ry h => h pins s σ v u I rx ry
theorem tE_mono {σ : L2.St} {H : Hp} {R R' : VK} (h : tE X e σ H R) (k : ∀ v H', R v H' → R' v H') : tE X e σ H R' := fun pins s I =>
  thn (h pins s I) fun u s' ⟨v, H', I', r, q⟩ => ⟨v, H', I', r, k v H' q⟩
theorem tT_mono {σ : L2.St} {H : Hp} {R R' : Bool → Hp → Prop} (h : tT X e σ H R) (k : ∀ v H', R v H' → R' v H') : tT X e σ H R' := fun pins s I =>
  thn (h pins s I) fun u s' ⟨H', I', q⟩ => ⟨H', I', k u H' q⟩
theorem tW_mono {σ : L2.St} {H : Hp} {R R' : Bool → Hp → Prop} (h : tW X e σ H R) (k : ∀ v H', R v H' → R' v H') : tW X e σ H R' := fun wh pins s I =>
  thn (h wh pins s I) fun u s' ⟨H', I', q⟩ => ⟨H', I', k u H' q⟩
theorem tA_mono {σ : L2.St} {H : Hp} {R R' : List V → Hp → Prop} (h : tA X es σ H R) (k : ∀ v H', R v H' → R' v H') : tA X es σ H R' := fun pos pins s I =>
  thn (h pos pins s I) fun u s' ⟨v, H', I', r, q⟩ => ⟨v, H', I', r, k v H' q⟩
theorem tO_mono {f : Value → Value → Sem Value} {x y : V} {H : Hp} {R R' : VK} (h : tO X f x y H R) (k : ∀ v H', R v H' → R' v H') : tO X f x y H R' := fun pins s σ v u I rx ry =>
  thn (h pins s σ v u I rx ry) fun u s' ⟨v, H', I', r, q⟩ => ⟨v, H', I', r, k v H' q⟩
theorem tGt_mono {v : V} {σ : L2.St} {H : Hp} {R R' : L2.St → Hp → Prop} (h : tGt X tg v σ H R) (k : ∀ v H', R v H' → R' v H') : tGt X tg v σ H R' := fun pins s u I r =>
  thn (h pins s u I r) fun _ s' ⟨σ', H', I', q⟩ => ⟨σ', H', I', k σ' H' q⟩
structure EndsLe (D D' : Ends) : Prop where
  nx : ∀ σ H, D.nx σ H → D'.nx σ H
  rt : ∀ v H, D.rt v H → D'.rt v H
  bk : ∀ σ H, D.bk σ H → D'.bk σ H
  ct : ∀ σ H, D.ct σ H → D'.ct σ H
theorem SP_mono {pins : List (Addr × Obj)} {D D' : Ends} (k : EndsLe D D') {f : Flow} {s : Shared} (h : SP X pins D f s) : SP X pins D' f s := by
  cases f with
  | next => obtain ⟨σ, H, I, q⟩ := h; exact ⟨σ, H, I, k.nx _ _ q⟩
  | brk => obtain ⟨σ, H, I, q⟩ := h; exact ⟨σ, H, I, k.bk _ _ q⟩
  | cont => obtain ⟨σ, H, I, q⟩ := h; exact ⟨σ, H, I, k.ct _ _ q⟩
  | ret u => obtain ⟨v, σ, H, I, r, q⟩ := h; exact ⟨v, σ, H, I, r, k.rt _ _ q⟩
theorem tS_mono {D D' : Ends} {σ : L2.St} {H : Hp} (h : tS X st D σ H) (k : EndsLe D D') : tS X st D' σ H := fun pins s I => thn (h pins s I) fun f s' q => SP_mono k q
theorem tSs_mono {D D' : Ends} {σ : L2.St} {H : Hp} (h : tSs X sts D σ H) (k : EndsLe D D') : tSs X sts D' σ H := fun pins s I => thn (h pins s I) fun f s' q => SP_mono k q
end

/-! ### the context, the state -/
structure Ctx where
  X : Cx
  W : WX
  tk : Takes X W
  DX : Value → Option Addr → DEnv → SS → Prop
structure Sl (K : PySem.W.Frag) (H : Hp) (S : SS) (σ : L2.St) (ρ : DEnv) : Prop where
  len : ρ.length = σ.length
  at_ : ∀ (i : Nat) (d : D), ρ[i]? = some (some d) → ∃ v, σ[i]? = some (some v) ∧ Rep K (im H S) d v
structure Ds (c : Ctx) (σ : L2.St) (H : Hp) (ρ : DEnv) (S : SS) : Prop where
  sl : Sl c.X.K H S σ ρ
  sim : Sim c.X.K H S
  ex : ∀ cls d σ' H' ρ' S', c.DX cls d ρ' S' → Sl c.X.K H' S' σ' ρ' → Sim c.X.K H' S' → Stp H S H' S' → c.W cls d σ' H'
/-- what is wanted of a value -/
def pst (K : PySem.W.Frag) (H : Hp) (S : SS) (Q : D → SS → Prop) : VK := fun v H' => ∃ d S', Rep K (im H' S') d v ∧ Sim K H' S' ∧ Stp H S H' S' ∧ Q d S'
def pstT (K : PySem.W.Frag) (H : Hp) (S : SS) (Q : Bool → SS → Prop) : Bool → Hp → Prop := fun b H' => ∃ S', Sim K H' S' ∧ Stp H S H' S' ∧ Q b S'
def pstA (K : PySem.W.Frag) (H : Hp) (S : SS) (Q : List D → SS → Prop) : List V → Hp → Prop := fun vs H' => ∃ ds S', Reps K (im H' S') ds vs ∧ Sim K H' S' ∧ Stp H S H' S' ∧ Q ds S'
def pstN (K : PySem.W.Frag) (H : Hp) (S : SS) (Q : DEnv → SS → Prop) : L2.St → Hp → Prop := fun σ' H' => ∃ ρ' S', Sl K H' S' σ' ρ' ∧ Sim K H' S' ∧ Stp H S H' S' ∧ Q ρ' S'
section
variable {K : PySem.W.Frag} {H H' : Hp} {S S' : SS} {c : Ctx} {σ : L2.St} {ρ : DEnv}
theorem Sl.step (h : Sl K H S σ ρ) (st : Stp H S H' S') : Sl K H' S' σ ρ := ⟨h.len, fun i d e => let ⟨v, e1, e2⟩ := h.at_ i d e; ⟨v, e1, e2.mono st⟩⟩
theorem Sl.set {i : Nat} {d : D} {v : V} (h : Sl K H S σ ρ) (r : Rep K (im H S) d v) : Sl K H S (σ.set i (some v)) (ρ.set i (some d)) := by
  refine ⟨by rw [List.length_set, List.length_set]; exact h.len, fun j e hj => ?_⟩
  by_cases hi : i = j
  · subst hi
    by_cases hl : i < ρ.length
    · rw [List.getElem?_set_self hl] at hj
      cases hj
      exact ⟨v, List.getElem?_set_self (by rw [← h.len]; exact hl), r⟩
    · rw [List.getElem?_eq_none (by rw [List.length_set]; omega)] at hj; cases hj
  · rw [List.getElem?_set_ne hi] at hj
    rw [List.getElem?_set_ne hi]
    exact h.at_ j e hj
theorem Sl.wipe (h : Sl K H S σ ρ) (i : Nat) : Sl K H S (σ.set i none) (ρ.set i none) := by
  refine ⟨by rw [List.length_set, List.length_set]; exact h.len, fun j e hj => ?_⟩
  by_cases hi : i = j
  · subst hi
    by_cases hl : i < ρ.length
    · rw [List.getElem?_set_self hl] at hj; cases hj
    · rw [List.getElem?_eq_none (by rw [List.length_set]; omega)] at hj; cases hj
  · rw [List.getElem?_set_ne hi] at hj
    rw [List.getElem?_set_ne hi]
    exact h.at_ j e hj
theorem Ds.step (h : Ds c σ H ρ S) (sm : Sim c.X.K H' S') (st : Stp H S H' S') : Ds c σ H' ρ S' :=
  ⟨h.sl.step st, sm, fun cls d σ' H2 ρ' S2 q l m s2 => h.ex cls d σ' H2 ρ' S2 q l m (st.trans s2)⟩
theorem Ds.slots {σ' : L2.St} {ρ' : DEnv} (h : Ds c σ H ρ S) (l : Sl c.X.K H S σ' ρ') : Ds c σ' H ρ' S := ⟨l, h.sim, h.ex⟩
theorem pst_step {Q : D → SS → Prop} {v : V} {H2 : Hp} (st : Stp H S H' S') (h : pst K H' S' Q v H2) : pst K H S Q v H2 := by
  obtain ⟨d, S2, r, m, s2, q⟩ := h
  exact ⟨d, S2, r, m, st.trans s2, q⟩
theorem pstT_step {Q : Bool → SS → Prop} {v : Bool} {H2 : Hp} (st : Stp H S H' S') (h : pstT K H' S' Q v H2) : pstT K H S Q v H2 := by
  obtain ⟨S2, m, s2, q⟩ := h
  exact ⟨S2, m, st.trans s2, q⟩
theorem pstA_step {Q : List D → SS → Prop} {v : List V} {H2 : Hp} (st : Stp H S H' S') (h : pstA K H' S' Q v H2) : pstA K H S Q v H2 := by
  obtain ⟨d, S2, r, m, s2, q⟩ := h
  exact ⟨d, S2, r, m, st.trans s2, q⟩
theorem pstN_step {Q : DEnv → SS → Prop} {σ' : L2.St} {H2 : Hp} (st : Stp H S H' S') (h : pstN K H' S' Q σ' H2) : pstN K H S Q σ' H2 := by
  obtain ⟨d, S2, r, m, s2, q⟩ := h
  exact ⟨d, S2, r, m, st.trans s2, q⟩
end

/-! ### the judgements -/
abbrev NK := DEnv → SS → Prop
abbrev RK := D → SS → Prop
def pstE (K : PySem.W.Frag) (H : Hp) (S : SS) (nx : NK) (rt : RK) (bk ct : NK) : Ends := ⟨pstN K H S nx, pst K H S rt, pstN K H S bk, pstN K H S ct⟩
def JE (c : Ctx) (e : Expr) (ρ : DEnv) (S : SS) (Q : D → SS → Prop) : Prop := ∀ σ H, Ds c σ H ρ S → tE c.X e σ H (pst c.X.K H S Q)
def JT (c : Ctx) (e : Expr) (ρ : DEnv) (S : SS) (Q : Bool → SS → Prop) : Prop := ∀ σ H, Ds c σ H ρ S → tT c.X e σ H (pstT c.X.K H S Q)
def JW (c : Ctx) (e : Expr) (ρ : DEnv) (S : SS) (Q : Bool → SS → Prop) : Prop := ∀ σ H, Ds c σ H ρ S → tW c.X e σ H (pstT c.X.K H S Q)
def JA (c : Ctx) (es : List Expr) (ρ : DEnv) (S : SS) (Q : List D → SS → Prop) : Prop := ∀ σ H, Ds c σ H ρ S → tA c.X es σ H (pstA c.X.K H S Q)
def JS (c : Ctx) (st : Stmt) (ρ : DEnv) (S : SS) (nx : NK) (rt : RK) (bk ct : NK) : Prop := ∀ σ H, Ds c σ H ρ S → tS c.X st (pstE c.X.K H S nx rt bk ct) σ H
def JSs (c : Ctx) (st : List Stmt) (ρ : DEnv) (S : SS) (nx : NK) (rt : RK) (bk ct : NK) : Prop := ∀ σ H, Ds c σ H ρ S → tSs c.X st (pstE c.X.K H S nx rt bk ct) σ H
def JG (c : Ctx) (tg : Expr) (d : D) (ρ : DEnv) (S : SS) (Q : NK) : Prop := ∀ σ H v, Ds c σ H ρ S → Rep c.X.K (im H S) d v → tGt c.X tg v σ H (pstN c.X.K H S Q)
/-- two values and an operation -/
def OD (c : Ctx) (f : Value → Value → Sem Value) (x y : D) (S : SS) (Q : D → SS → Prop) : Prop :=
  ∀ H v w, Sim c.X.K H S → Rep c.X.K (im H S) x v → Rep c.X.K (im H S) y w → tO c.X f v w H (pst c.X.K H S Q)
section
variable {c : Ctx} {e a b d : Expr} {es : List Expr} {st : Stmt} {sts : List Stmt} {ρ : DEnv} {S : SS} {Q : D → SS → Prop} {QT : Bool → SS → Prop} {QA : List D → SS → Prop} {nx bk ct : NK} {rt : RK} {pos : Pos}
theorem JE.mono {Q' : D → SS → Prop} (h : JE c e ρ S Q) (k : ∀ d S', Q d S' → Q' d S') : JE c e ρ S Q' := fun σ H ds => tE_mono (h σ H ds) fun v H' ⟨d, S', r, m, s, q⟩ => ⟨d, S', r, m, s, k d S' q⟩
/-- from a rule of the hand layer -/
theorem JE.of {t : TE} (h : PE c.X e t) (k : ∀ σ H, Ds c σ H ρ S → t σ H (pst c.X.K H S Q)) : JE c e ρ S Q := fun σ H ds pins s I => h.run pins s σ H _ I (k σ H ds)
theorem JT.of {t : TT} (h : PT c.X e t) (k : ∀ σ H, Ds c σ H ρ S → t σ H (pstT c.X.K H S QT)) : JT c e ρ S QT := fun σ H ds pins s I => h.run pins s σ H _ I (k σ H ds)
theorem JW.of {t : TT} (h : PW c.X e t) (k : ∀ σ H, Ds c σ H ρ S → t σ H (pstT c.X.K H S QT)) : JW c e ρ S QT := fun σ H ds wh pins s I => h.run wh pins s σ H _ I (k σ H ds)
theorem JS.of {t : TS} (h : PS c.X st t) (k : ∀ σ H, Ds c σ H ρ S → t (pstE c.X.K H S nx rt bk ct) σ H) : JS c st ρ S nx rt bk ct := fun σ H ds pins s I => h.run pins s σ H _ I (k σ H ds)
theorem OD.of {f : Value → Value → Sem Value} {x y : D} {r : R2} (h : OpR c.X f r) (k : ∀ H v w, Sim c.X.K H S → Rep c.X.K (im H S) x v → Rep c.X.K (im H S) y w → r v w H (pst c.X.K H S Q)) : OD c f x y S Q :=
  fun H v w sm rx ry pins s σ u u' I r1 r2 => h pins s σ H v w u u' _ I r1 r2 (k H v w sm rx ry)
/-- a part's reading, then the rest -/
theorem JE.then {σ : L2.St} {H : Hp} {R : VK} (h : JE c e ρ S Q) (ds : Ds c σ H ρ S) (k : ∀ d S' v H', Rep c.X.K (im H' S') d v → Ds c σ H' ρ S' → Stp H S H' S' → Q d S' → R v H') : tE c.X e σ H R :=
  tE_mono (h σ H ds) fun v H' ⟨d, S', r, m, s, q⟩ => k d S' v H' r (ds.step m s) s q
theorem JT.then {σ : L2.St} {H : Hp} {R : Bool → Hp → Prop} (h : JT c e ρ S QT) (ds : Ds c σ H ρ S) (k : ∀ b S' H', Ds c σ H' ρ S' → Stp H S H' S' → QT b S' → R b H') : tT c.X e σ H R :=
  tT_mono (h σ H ds) fun v H' ⟨S', m, s, q⟩ => k v S' H' (ds.step m s) s q
theorem JW.then {σ : L2.St} {H : Hp} {R : Bool → Hp → Prop} (h : JW c e ρ S QT) (ds : Ds c σ H ρ S) (k : ∀ b S' H', Ds c σ H' ρ S' → Stp H S H' S' → QT b S' → R b H') : tW c.X e σ H R :=
  tW_mono (h σ H ds) fun v H' ⟨S', m, s, q⟩ => k v S' H' (ds.step m s) s q
theorem JA.then {σ : L2.St} {H : Hp} {R : List V → Hp → Prop} (h : JA c es ρ S QA) (ds : Ds c σ H ρ S) (k : ∀ d S' v H', Reps c.X.K (im H' S') d v → Ds c σ H' ρ S' → Stp H S H' S' → QA d S' → R v H') : tA c.X es σ H R :=
  tA_mono (h σ H ds) fun v H' ⟨d, S', r, m, s, q⟩ => k d S' v H' r (ds.step m s) s q
theorem pst_same {K : PySem.W.Frag} {H : Hp} {d : D} {v : V} (m : Sim K H S) (r : Rep K (im H S) d v) (q : Q d S) : pst K H S Q v H := ⟨d, S, r, m, Stp.refl, q⟩

/-! ### names, constants -/
theorem je_var (i : Nat) {d : D} {x : Str} (hd : ρ[i]? = some (some d)) (hN : c.X.N[i]? = some x) (hv : Vis c.X.env.scope x) (q : Q d S) (hx : (x == ("__debug__" : Str)) = false := by decide) (hy : (x == ("__classdict__" : Str)) = false := by decide) : JE c (.Name x pos) ρ S Q :=
  JE.of (pe_var hN hv hx hy) fun σ H ds => let ⟨v, e1, e2⟩ := ds.sl.at_ i d hd; ⟨v, e1, pst_same ds.sim e2 q⟩
theorem je_int {i : Int} {j : Nat} (q : Q (.int i) S) : JE c (.Constant (.int i) j pos) ρ S Q := JE.of pe_int fun σ H ds => pst_same ds.sim (rep_int.mpr rfl) q
theorem je_bl {i : Bool} {j : Nat} (q : Q (.bl i) S) : JE c (.Constant (.bool i) j pos) ρ S Q := JE.of pe_bl fun σ H ds => pst_same ds.sim (rep_bl.mpr rfl) q
theorem je_non {j : Nat} (q : Q .non S) : JE c (.Constant .none j pos) ρ S Q := JE.of pe_non fun σ H ds => pst_same ds.sim (rep_non.mpr rfl) q
theorem je_str {x : Str} {j : Nat} (q : Q (.str x) S) : JE c (.Constant (.str x) j pos) ρ S Q := JE.of pe_str fun σ H ds => pst_same ds.sim (rep_str.mpr rfl) q
/-- a module's constant -/
theorem je_gint {x : Str} {i : Int} {t : Tok} (hg : Gl c.X x) (hm : c.X.mg x = some (.int i t)) (q : Q (.int i) S) (hx : (x == ("__debug__" : Str)) = false := by decide) : JE c (.Name x pos) ρ S Q :=
  JE.of (pe_glob (v := .int i) hg hm ⟨t, rfl⟩ hx) fun σ H ds => pst_same ds.sim (rep_int.mpr rfl) q
theorem je_gstr {x y : Str} {t : Tok} (hg : Gl c.X x) (hm : c.X.mg x = some (.str y t)) (q : Q (.str y) S) (hx : (x == ("__debug__" : Str)) = false := by decide) : JE c (.Name x pos) ρ S Q :=
  JE.of (pe_glob (v := .str y) hg hm ⟨t, rfl⟩ hx) fun σ H ds => pst_same ds.sim (rep_str.mpr rfl) q
theorem je_gref {x : Str} {a : Addr} (hg : Gl c.X x) (hm : c.X.mg x = some (.ref a)) (q : Q (.ref a) S) (hx : (x == ("__debug__" : Str)) = false := by decide) : JE c (.Name x pos) ρ S Q :=
  JE.of (pe_glob (v := .ref a) hg hm rfl hx) fun σ H ds => pst_same ds.sim (rep_ref.mpr rfl) q
/-- a built-in type as a value -/
theorem je_ty {x : Str} {n : String} (hg : Gl c.X x) (hm : c.X.mg x = none) (hv : bootBuiltins x = some (.type n)) (q : Q (.ty n) S) (hn : x ≠ "__name__" := by decide) (hx : (x == ("__debug__" : Str)) = false := by decide) : JE c (.Name x pos) ρ S Q :=
  JE.of (pe_bltn (v := .ty n) hg hm hv rfl hn hx) fun σ H ds => pst_same ds.sim (rep_ty.mpr rfl) q

/-! ### operators -/
theorem je_bin {op : Operator} (h : JE c a ρ S fun x S1 => JE c b ρ S1 fun y S2 => OD c (binaryOp op) x y S2 Q) : JE c (.BinOp a op b pos) ρ S Q :=
  JE.of (pe_op OpRt PEt PEt) fun σ H ds => h.then ds fun x S1 v H1 r1 d1 s1 h1 => h1.then d1 fun y S2 w H2 r2 d2 s2 h2 =>
    tO_mono (h2 H2 v w d2.sim (r1.mono s2) r2) fun z H3 q => pst_step s1 (pst_step s2 q)
theorem je_cmp {op : CmpOp} (h : JE c a ρ S fun x S1 => JE c b ρ S1 fun y S2 => OD c (compareOp op) x y S2 Q) (hm : behindInMarks op b = false := by first | exact nomark _ | rfl) : JE c (.Compare a [op] [b] pos) ρ S Q :=
  JE.of (pe_cmpR OpRt PEt PEt hm) fun σ H ds => h.then ds fun x S1 v H1 r1 d1 s1 h1 => h1.then d1 fun y S2 w H2 r2 d2 s2 h2 =>
    tO_mono (h2 H2 v w d2.sim (r1.mono s2) r2) fun z H3 q => pst_step s1 (pst_step s2 q)
theorem jt_cmp {op : CmpOp} (h : JE c a ρ S fun x S1 => JE c b ρ S1 fun y S2 => OD c (compareOp op) x y S2 fun z S3 => ∃ k, z = .bl k ∧ QT k S3) (hm : behindInMarks op b = false := by first | exact nomark _ | rfl) : JT c (.Compare a [op] [b] pos) ρ S QT :=
  JT.of (pt_cmpR OpRt PEt PEt hm) fun σ H ds => h.then ds fun x S1 v H1 r1 d1 s1 h1 => h1.then d1 fun y S2 w H2 r2 d2 s2 h2 =>
    tO_mono (h2 H2 v w d2.sim (r1.mono s2) r2) fun z H3 ⟨zd, S3, r3, m3, s3, k, e3, q⟩ => by
      subst e3
      exact ⟨k, rep_bl.mp r3, S3, m3, (s1.trans s2).trans s3, q⟩
theorem je_chain {op op' : CmpOp} (h : JE c a ρ S fun x S1 => JE c b ρ S1 fun y S2 => OD c (compareOp op) x y S2 fun z S3 => ∃ k, z = .bl k ∧ if k = true then JE c d ρ S3 fun w S4 => OD c (compareOp op') y w S4 Q else Q (.bl false) S3)
    (hm : lastMarks [op, op'] [b, d] = false := by with_unfolding_all rfl) : JE c (.Compare a [op, op'] [b, d] pos) ρ S Q :=
  JE.of (pe_chain OpRt OpRt PEt PEt PEt hm) fun σ H ds => h.then ds fun x S1 v H1 r1 d1 s1 h1 => h1.then d1 fun y S2 w H2 r2 d2 s2 h2 =>
    tO_mono (h2 H2 v w d2.sim (r1.mono s2) r2) fun z H3 ⟨zd, S3, r3, m3, s3, k, e3, q⟩ => by
      subst e3
      refine ⟨k, rep_bl.mp r3, ?_⟩
      cases k with
      | true =>
        rw [if_pos rfl] at q ⊢
        exact q.then (d2.step m3 s3) fun w' S4 v4 H4 r4 d4 s4 h4 => tO_mono (h4 H4 _ _ d4.sim ((r2.mono s3).mono s4) r4) fun z5 H5 q5 => pst_step (((s1.trans s2).trans s3).trans s4) q5
      | false =>
        rw [if_neg Bool.false_ne_true] at q ⊢
        exact pst_step ((s1.trans s2).trans s3) (pst_same m3 (rep_bl.mpr rfl) q)
theorem jt_chain {op op' : CmpOp} (h : JE c a ρ S fun x S1 => JE c b ρ S1 fun y S2 => OD c (compareOp op) x y S2 fun z S3 => ∃ k, z = .bl k ∧ if k = true then JE c d ρ S3 fun w S4 => OD c (compareOp op') y w S4 fun z4 S5 => ∃ k4, z4 = .bl k4 ∧ QT k4 S5 else QT false S3)
    (hm : lastMarks [op, op'] [b, d] = false := by with_unfolding_all rfl) : JT c (.Compare a [op, op'] [b, d] pos) ρ S QT :=
  JT.of (pt_chain OpRt OpRt PEt PEt PEt hm) fun σ H ds => h.then ds fun x S1 v H1 r1 d1 s1 h1 => h1.then d1 fun y S2 w H2 r2 d2 s2 h2 =>
    tO_mono (h2 H2 v w d2.sim (r1.mono s2) r2) fun z H3 ⟨zd, S3, r3, m3, s3, k, e3, q⟩ => by
      subst e3
      refine ⟨k, rep_bl.mp r3, ?_⟩
      cases k with
      | true =>
        rw [if_pos rfl] at q ⊢
        refine q.then (d2.step m3 s3) fun w' S4 v4 H4 r4 d4 s4 h4 => tO_mono (h4 H4 _ _ d4.sim ((r2.mono s3).mono s4) r4) fun z5 H5 ⟨zd5, S5, r5, m5, s5, k5, e5, q5⟩ => ?_
        subst e5
        exact ⟨k5, rep_bl.mp r5, S5, m5, (((s1.trans s2).trans s3).trans s4).trans s5, q5⟩
      | false =>
        rw [if_neg Bool.false_ne_true] at q ⊢
        exact ⟨false, rfl, S3, m3, (s1.trans s2).trans s3, q⟩
theorem je_ifExp (h : JT c e ρ S fun k S1 => if k = true then JE c a ρ S1 Q else JE c b ρ S1 Q) : JE c (.IfExp e a b pos) ρ S Q :=
  JE.of (pe_ifExp PTt PEt PEt) fun σ H ds => h.then ds fun k S1 H1 d1 s1 q => by
    cases k with
    | true => rw [if_pos rfl] at q ⊢; exact q.then d1 fun x S2 v H2 r2 d2 s2 q2 => ⟨x, S2, r2, d2.sim, s1.trans s2, q2⟩
    | false => rw [if_neg Bool.false_ne_true] at q ⊢; exact q.then d1 fun x S2 v H2 r2 d2 s2 q2 => ⟨x, S2, r2, d2.sim, s1.trans s2, q2⟩
theorem je_one {op} (h : JE c a ρ S Q) : JE c (.BoolOp op [a] pos) ρ S Q := JE.of (pe_one PEt) fun σ H ds => h σ H ds
theorem je_and (h : JE c a ρ S fun x S1 => ∃ k, x = .bl k ∧ if k = true then JE c (.BoolOp .And (b :: es) pos) ρ S1 Q else Q (.bl false) S1) : JE c (.BoolOp .And (a :: b :: es) pos) ρ S Q :=
  JE.of (pe_and PEt PEt) fun σ H ds => h.then ds fun x S1 v H1 r1 d1 s1 ⟨k, e1, q⟩ => by
    subst e1
    refine ⟨k, rep_bl.mp r1, ?_⟩
    cases k with
    | true => rw [if_pos rfl] at q ⊢; exact q.then d1 fun x S2 v H2 r2 d2 s2 q2 => ⟨x, S2, r2, d2.sim, s1.trans s2, q2⟩
    | false => rw [if_neg Bool.false_ne_true] at q ⊢; exact pst_step s1 (pst_same d1.sim (rep_bl.mpr rfl) q)
theorem je_or (h : JE c a ρ S fun x S1 => ∃ k, x = .bl k ∧ if k = true then Q (.bl true) S1 else JE c (.BoolOp .Or (b :: es) pos) ρ S1 Q) : JE c (.BoolOp .Or (a :: b :: es) pos) ρ S Q :=
  JE.of (pe_or PEt PEt) fun σ H ds => h.then ds fun x S1 v H1 r1 d1 s1 ⟨k, e1, q⟩ => by
    subst e1
    refine ⟨k, rep_bl.mp r1, ?_⟩
    cases k with
    | false => rw [if_neg Bool.false_ne_true] at q ⊢; exact q.then d1 fun x S2 v H2 r2 d2 s2 q2 => ⟨x, S2, r2, d2.sim, s1.trans s2, q2⟩
    | true => rw [if_pos rfl] at q ⊢; exact pst_step s1 (pst_same d1.sim (rep_bl.mpr rfl) q)
theorem je_not (h : JE c a ρ S fun x S1 => ∃ k, x = .bl k ∧ Q (.bl (!k)) S1) : JE c (.UnaryOp .Not a pos) ρ S Q :=
  JE.of (pe_not PEt) fun σ H ds => h.then ds fun x S1 v H1 r1 d1 s1 ⟨k, e1, q⟩ => by
    subst e1
    exact ⟨k, rep_bl.mp r1, pst_step s1 (pst_same d1.sim (rep_bl.mpr rfl) q)⟩
theorem je_neg (h : JE c a ρ S fun x S1 => ∃ i, x = .int i ∧ Q (.int (-i)) S1) : JE c (.UnaryOp .USub a pos) ρ S Q :=
  JE.of (pe_un un_neg PEt) fun σ H ds => h.then ds fun x S1 v H1 r1 d1 s1 ⟨k, e1, q⟩ => by
    subst e1
    exact ⟨k, rep_int.mp r1, pst_step s1 (pst_same d1.sim (rep_int.mpr rfl) q)⟩

/-! ### tests -/
theorem jt_not (h : JT c a ρ S fun k S1 => QT (!k) S1) : JT c (.UnaryOp .Not a pos) ρ S QT :=
  JT.of (pt_not PTt) fun σ H ds => h.then ds fun k S1 H1 d1 s1 q => ⟨S1, d1.sim, s1, q⟩
theorem jt_w (h : JW c a ρ S QT) : JT c a ρ S QT := JT.of (PW.pt PWt) fun σ H ds => h σ H ds
theorem jw_and1 (h : JT c a ρ S QT) : JW c (.BoolOp .And [a] pos) ρ S QT := JW.of (pw_and1 PTt) fun σ H ds => h σ H ds
theorem jw_or1 (h : JT c a ρ S QT) : JW c (.BoolOp .Or [a] pos) ρ S QT := JW.of (pw_or1 PTt) fun σ H ds => h σ H ds
theorem jw_and (h : JT c a ρ S fun k S1 => if k = true then JW c (.BoolOp .And (b :: es) pos) ρ S1 QT else QT false S1) : JW c (.BoolOp .And (a :: b :: es) pos) ρ S QT :=
  JW.of (pw_and PTt PWt) fun σ H ds => h.then ds fun k S1 H1 d1 s1 q => by
    cases k with
    | true => rw [if_pos rfl] at q ⊢; exact q.then d1 fun k S2 H2 d2 s2 q2 => ⟨S2, d2.sim, s1.trans s2, q2⟩
    | false => rw [if_neg Bool.false_ne_true] at q ⊢; exact ⟨S1, d1.sim, s1, q⟩
theorem jw_or (h : JT c a ρ S fun k S1 => if k = true then QT true S1 else JW c (.BoolOp .Or (b :: es) pos) ρ S1 QT) : JW c (.BoolOp .Or (a :: b :: es) pos) ρ S QT :=
  JW.of (pw_or PTt PWt) fun σ H ds => h.then ds fun k S1 H1 d1 s1 q => by
    cases k with
    | false => rw [if_neg Bool.false_ne_true] at q ⊢; exact q.then d1 fun k S2 H2 d2 s2 q2 => ⟨S2, d2.sim, s1.trans s2, q2⟩
    | true => rw [if_pos rfl] at q ⊢; exact ⟨S1, d1.sim, s1, q⟩
/-- an expression that gives a flag -/
theorem jt_bl (h : JE c e ρ S fun x S1 => ∃ k, x = .bl k ∧ QT k S1) (he : ∀ whole, isTrue e c.X.env whole = (do let v ← whole; standAt e.pos; holding [v] (truthy v)) := by intro _; rfl) : JT c e ρ S QT :=
  JT.of (pt_val PEt he) fun σ H ds => h.then ds fun x S1 v H1 r1 d1 s1 ⟨k, e1, q⟩ => by
    subst e1
    exact ⟨k, rep_bl.mp r1, S1, d1.sim, s1, q⟩
/-- a value's truth -/
def TD (S : SS) (x : D) (k : Bool) : Prop := match x with
  | .non => k = false
  | .bl b => k = b
  | .int i => k = (i != 0)
  | .str y => y.length ≤ sizeLine ∧ k = ((y.length : Int) != 0)
  | .tup xs => k = !xs.isEmpty
  | .fl xs => k = !xs.isEmpty
  | .ref a => ∃ o, S a = some o ∧ match o with
    | .lst xs => k = !xs.isEmpty
    | .dk kvs => k = !kvs.isEmpty
    | _ => False
  | .ty _ => False
theorem reps_empty {K : PySem.W.Frag} {G : Hp} {xs : List D} {vs : List V} (r : Reps K G xs vs) : (!vs.isEmpty) = !xs.isEmpty := by
  have := r.length
  cases xs <;> cases vs <;> simp_all
theorem repP_len {κ : Type} {K : PySem.W.Frag} {G : Hp} : ∀ {xs : List (κ × D)} {vs : List (κ × V)}, RepP K G xs vs → xs.length = vs.length
  | [], vs, h => by cases h; rfl
  | (k, d) :: xs, vs, h => by
    obtain ⟨v, t, rfl, _, h3⟩ := h
    simp only [List.length_cons, repP_len h3]
theorem TD.ok {K : PySem.W.Frag} {H : Hp} {x : D} {k : Bool} {v : V} (h : TD S x k) (m : Sim K H S) (r : Rep K (im H S) x v) : TruV K v H k := by
  cases x with
  | non => rw [rep_non.mp r]; exact h
  | bl b => rw [rep_bl.mp r]; exact h
  | int i => rw [rep_int.mp r]; exact h
  | str y => rw [rep_str.mp r]; exact h
  | tup xs =>
    obtain ⟨a, vs, rfl, h1, h2⟩ := tup_sq r
    exact .inr (.inl ⟨vs, h1, by rw [reps_empty h2]; exact h⟩)
  | fl xs =>
    obtain ⟨a, vs, rfl, h1, h2⟩ := IsL.sq IsL.fl r m
    exact .inl ⟨vs, h1, by rw [reps_empty h2]; exact h⟩
  | ref a =>
    rw [rep_ref.mp r]
    obtain ⟨o, e, h⟩ := h
    have so := m a o e
    cases o with
    | lst xs => obtain ⟨vs, e1, e2⟩ := so; exact .inl ⟨vs, SqL.of e1, by rw [reps_empty e2]; exact h⟩
    | dk xs =>
      obtain ⟨vs, e1, e2⟩ := so
      have hl := repP_len e2
      exact .inr (.inr ⟨vs, e1, by cases xs <;> cases vs <;> simp_all⟩)
    | dt xs => exact h.elim
    | ins C fs => exact h.elim
    | xd fs => exact h.elim
  | ty n => exact h.elim
theorem jt_truth (h : JE c e ρ S fun x S1 => ∃ k, TD S1 x k ∧ QT k S1) (he : ∀ whole, isTrue e c.X.env whole = (do let v ← whole; standAt e.pos; holding [v] (truthy v)) := by intro _; rfl) : JT c e ρ S QT :=
  JT.of (pt_truth PEt he) fun σ H ds => h.then ds fun x S1 v H1 r1 d1 s1 ⟨k, e1, q⟩ => ⟨k, e1.ok d1.sim r1, S1, d1.sim, s1, q⟩

/-! ### argument lists, displays -/
theorem ja_nil (q : QA [] S) : JA c [] ρ S QA := fun σ H ds pos pins s I => pa_nil.run pos pins s σ H _ I ⟨[], S, Reps.nil, ds.sim, Stp.refl, q⟩
theorem ja_cons (h : JE c e ρ S fun x S1 => JA c es ρ S1 fun xs S2 => QA (x :: xs) S2) (hs : starEach (e :: es) c.X.env = (false, eval e c.X.env) :: starEach es c.X.env := by rfl) : JA c (e :: es) ρ S QA := fun σ H ds pos pins s I =>
  (pa_cons PEt PAt hs).run pos pins s σ H _ I (h.then ds fun x S1 v H1 r1 d1 s1 q1 => q1.then d1 fun xs S2 vs H2 r2 d2 s2 q2 => ⟨x :: xs, S2, Reps.cons (r1.mono s2) r2, d2.sim, s1.trans s2, q2⟩)
theorem je_tup {x1} (h : JA c es ρ S fun xs S1 => xs.length ≤ sizeLine ∧ Q (.tup xs) S1) : JE c (.Tuple es x1 pos) ρ S Q :=
  JE.of (pe_tup PAt) fun σ H ds => h.then ds fun xs S1 vs H1 r1 d1 s1 ⟨hl, q⟩ => ⟨by rw [← r1.length]; exact hl, fun p hp => by
    obtain ⟨st, sm, e⟩ := d1.sim.new (o := .tup vs) hp
    exact ⟨.tup xs, S1, rep_tup.mpr ⟨p, vs, rfl, SqT.of e, r1.mono st⟩, sm, s1.trans st, q⟩⟩
/-- a list that never changes from now on -/
theorem je_lst (h : JA c es ρ S fun xs S1 => xs.length ≤ sizeLine ∧ Q (.fl xs) S1) : JE c (.List es pos) ρ S Q :=
  JE.of (pe_lst PAt) fun σ H ds => h.then ds fun xs S1 vs H1 r1 d1 s1 ⟨hl, q⟩ => ⟨by rw [← r1.length]; exact hl, fun p hp => by
    obtain ⟨st, sm, e⟩ := d1.sim.new (o := .lst vs) hp
    exact ⟨.fl xs, S1, rep_fl.mpr ⟨p, vs, rfl, SqL.of e, r1.mono st⟩, sm, s1.trans st, q⟩⟩
/-- a list of the store -/
theorem je_lstM (h : JA c es ρ S fun xs S1 => xs.length ≤ sizeLine ∧ ∀ p, S1 p = none → Q (.ref p) (sup S1 p (.lst xs))) : JE c (.List es pos) ρ S Q :=
  JE.of (pe_lst PAt) fun σ H ds => h.then ds fun xs S1 vs H1 r1 d1 s1 ⟨hl, q⟩ => ⟨by rw [← r1.length]; exact hl, fun p hp => by
    obtain ⟨st, sm⟩ := d1.sim.newM (o := .lst vs) (m := .lst xs) hp fun H' S' sb e => ⟨vs, e, r1.mono sb⟩
    exact ⟨.ref p, _, rep_ref.mpr rfl, sm, s1.trans st, q p (d1.sim.free hp)⟩⟩

/-! ### statements -/
theorem pstE_step {K : PySem.W.Frag} {H H' : Hp} {S' : SS} (st : Stp H S H' S') : EndsLe (pstE K H' S' nx rt bk ct) (pstE K H S nx rt bk ct) :=
  ⟨fun _ _ h => pstN_step st h, fun _ _ h => pst_step st h, fun _ _ h => pstN_step st h, fun _ _ h => pstN_step st h⟩
theorem jss_nil (q : nx ρ S) : JSs c [] ρ S nx rt bk ct := fun σ H ds pins s I => pss_nil.run pins s σ H _ I ⟨ρ, S, ds.sl, ds.sim, Stp.refl, q⟩
theorem jss_cons (h : JS c st ρ S (fun ρ' S' => JSs c sts ρ' S' nx rt bk ct) rt bk ct) : JSs c (st :: sts) ρ S nx rt bk ct := fun σ H ds pins s I =>
  (pss_cons PSt PSst).run pins s σ H _ I (tS_mono (h σ H ds) ⟨fun σ' H' ⟨ρ', S', sl, sm, s1, q⟩ => tSs_mono (q σ' H' ((ds.step sm s1).slots sl)) (pstE_step s1), fun _ _ z => z, fun _ _ z => z, fun _ _ z => z⟩)
theorem js_pass (q : nx ρ S) : JS c (.Pass pos) ρ S nx rt bk ct := JS.of ps_pass fun σ H ds => ⟨ρ, S, ds.sl, ds.sim, Stp.refl, q⟩
theorem js_break (q : bk ρ S) : JS c (.Break pos) ρ S nx rt bk ct := JS.of ps_break fun σ H ds => ⟨ρ, S, ds.sl, ds.sim, Stp.refl, q⟩
theorem js_continue (q : ct ρ S) : JS c (.Continue pos) ρ S nx rt bk ct := JS.of ps_continue fun σ H ds => ⟨ρ, S, ds.sl, ds.sim, Stp.refl, q⟩
theorem js_doc {x j pos'} (q : nx ρ S) : JS c (.Expr (.Constant (.str x) j pos) pos') ρ S nx rt bk ct := JS.of ps_doc fun σ H ds => ⟨ρ, S, ds.sl, ds.sim, Stp.refl, q⟩
theorem js_expr (h : JE c e ρ S fun _ S1 => nx ρ S1) (hs : swapsWith e none pos.line c.X.env = pure false := by rfl) : JS c (.Expr e pos) ρ S nx rt bk ct :=
  JS.of (ps_expr PEt hs) fun σ H ds => h.then ds fun x S1 v H1 r1 d1 s1 q => ⟨ρ, S1, d1.sl, d1.sim, s1, q⟩
theorem js_ret (h : JE c e ρ S rt) : JS c (.Return (some e) pos) ρ S nx rt bk ct := JS.of (ps_ret PEt) fun σ H ds => h σ H ds
theorem js_retN (q : rt .non S) : JS c (.Return none pos) ρ S nx rt bk ct := JS.of ps_retN fun σ H ds => pst_same ds.sim (rep_non.mpr rfl) q
theorem js_if {sa sb : List Stmt} (h : JT c e ρ S fun k S1 => if k = true then JSs c sa ρ S1 nx rt bk ct else JSs c sb ρ S1 nx rt bk ct) : JS c (.If e sa sb pos) ρ S nx rt bk ct :=
  JS.of (ps_if PTt PSst PSst) fun σ H ds => h.then ds fun k S1 H1 d1 s1 q => by
    cases k with
    | true => rw [if_pos rfl] at q ⊢; exact tSs_mono (q σ H1 d1) (pstE_step s1)
    | false => rw [if_neg Bool.false_ne_true] at q ⊢; exact tSs_mono (q σ H1 d1) (pstE_step s1)
theorem js_never (h : False) : JS c st ρ S nx rt bk ct := h.elim
theorem js_set (i : Nat) {x : Str} {pos' : Pos} (h : JE c e ρ S fun d S1 => nx (ρ.set i (some d)) S1) (hN : c.X.N.Nodup) (hi : c.X.N[i]? = some x) (hx : Loc c.X.env.scope x) (hf : c.X.fn x = true ∨ c.X.env.scope.names.lookup x = some .local) (hs : swapsWith e (some (.Name x pos')) pos.line c.X.env = pure false := by rfl) :
    JS c (.Assign [.Name x pos'] e pos) ρ S nx rt bk ct :=
  JS.of (ps_set hN hi hx PEt hs hf) fun σ H ds => h.then ds fun d S1 v H1 r1 d1 s1 q => ⟨ρ.set i (some d), S1, d1.sl.set r1, d1.sim, s1, q⟩
/-- target = e -/
theorem js_asg {tg : Expr} (h : JE c e ρ S fun d S1 => JG c tg d ρ S1 nx) (hs : swapsWithSole [tg] e pos.line c.X.env = pure false := by rfl) (hw : swappedStores [tg] e c.X.env = pure none := by rfl)
    (h1 : (assignEach [tg] c.X.env).map (·.2) = [assign tg c.X.env] := by rfl) : JS c (.Assign [tg] e pos) ρ S nx rt bk ct :=
  JS.of (ps_asg PEt PGt hs hw h1) fun σ H ds => h.then ds fun d S1 v H1 r1 d1 s1 q => tGt_mono (q σ H1 v d1 r1) fun σ2 H2 q2 => pstN_step s1 q2
theorem JG.of {tg : Expr} {x : D} {t : TG} (h : PG c.X tg t) (k : ∀ σ H v, Ds c σ H ρ S → Rep c.X.K (im H S) x v → t v σ H (pstN c.X.K H S nx)) : JG c tg x ρ S nx := fun σ H v ds r pins s u I ru => h.run pins s σ H v u _ I ru (k σ H v ds r)
theorem jg_name (i : Nat) {x : Str} {y : D} (q : nx (ρ.set i (some y)) S) (hN : c.X.N.Nodup) (hi : c.X.N[i]? = some x) (hx : Loc c.X.env.scope x) (hf : c.X.fn x = true ∨ c.X.env.scope.names.lookup x = some .local) : JG c (.Name x pos) y ρ S nx :=
  JG.of (pg_name hN hi hx hf) fun σ H v ds r => ⟨ρ.set i (some y), S, ds.sl.set r, ds.sim, Stp.refl, q⟩
end
end DP

namespace DP
open PySem L2

section
variable {c : Ctx} {S : SS} {Q : D → SS → Prop} {x y : D} {i j : Int}
/-! ### operators by values -/
theorem od_i0 {f : Value → Value → Sem Value} {g : Int → Int → V} {r : D} (h : OpR c.X f (rI0 g)) (hr : ∀ K G, Rep K G r (g i j)) (q : Q r S) : OD c f (.int i) (.int j) S Q :=
  OD.of h fun H v w m rv rw => ⟨i, j, rep_int.mp rv, rep_int.mp rw, pst_same m (hr _ _) q⟩
theorem od_i {f : Value → Value → Sem Value} {C : Int → Int → Prop} {g : Int → Int → V} {r : D} (h : OpR c.X f (rI C g)) (hr : ∀ K G, Rep K G r (g i j)) (hc : C i j) (q : Q r S) : OD c f (.int i) (.int j) S Q :=
  OD.of h fun H v w m rv rw => ⟨i, j, rep_int.mp rv, rep_int.mp rw, hc, pst_same m (hr _ _) q⟩
theorem od_add (q : Q (.int (i + j)) S) : OD c (binaryOp .Add) (.int i) (.int j) S Q := od_i0 op_add (fun _ _ => rep_int.mpr rfl) q
theorem od_sub (q : Q (.int (i - j)) S) : OD c (binaryOp .Sub) (.int i) (.int j) S Q := od_i0 op_sub (fun _ _ => rep_int.mpr rfl) q
theorem od_mul (h : IntMulOk i j) (q : Q (.int (i * j)) S) : OD c (binaryOp .Mult) (.int i) (.int j) S Q :=
  od_i (C := IntMulOk) (g := fun i j => .int (i * j)) (opI fun _ _ _ _ _ _ _ hc q => PyProof.Rows.mul_int q hc) (fun _ _ => rep_int.mpr rfl) h q
theorem od_fdiv (h : CDivW i j) (q : Q (.int (i / j)) S) : OD c (binaryOp .FloorDiv) (.int i) (.int j) S Q := od_i op_fdivW (fun _ _ => rep_int.mpr rfl) h q
theorem od_mod (h : 0 < j) (q : Q (.int (i % j)) S) : OD c (binaryOp .Mod) (.int i) (.int j) S Q := od_i op_mod (fun _ _ => rep_int.mpr rfl) h q
theorem od_pow (h : CPow i j) (q : Q (.int (i ^ j.toNat)) S) : OD c (binaryOp .Pow) (.int i) (.int j) S Q := od_i op_pow (fun _ _ => rep_int.mpr rfl) h q
theorem od_lt (q : Q (.bl (decide (i < j))) S) : OD c (compareOp .Lt) (.int i) (.int j) S Q := od_i0 op_lt (fun _ _ => rep_bl.mpr rfl) q
theorem od_le (q : Q (.bl (decide (i ≤ j))) S) : OD c (compareOp .LtE) (.int i) (.int j) S Q := od_i0 op_le (fun _ _ => rep_bl.mpr rfl) q
theorem od_gt (q : Q (.bl (decide (j < i))) S) : OD c (compareOp .Gt) (.int i) (.int j) S Q := od_i0 op_gt (fun _ _ => rep_bl.mpr rfl) q
theorem od_ge (q : Q (.bl (decide (j ≤ i))) S) : OD c (compareOp .GtE) (.int i) (.int j) S Q := od_i0 op_ge (fun _ _ => rep_bl.mpr rfl) q
theorem dec_int_i : (decide (V.int i = V.int j)) = decide (i = j) := by
  by_cases h : i = j <;> simp [h]
theorem od_eqI (q : Q (.bl (decide (i = j))) S) : OD c (compareOp .Eq) (.int i) (.int j) S Q :=
  OD.of op_eq fun H v w m rv rw => by
    rw [rep_int.mp rv, rep_int.mp rw]
    exact ⟨rfl, pst_same m (rep_bl.mpr (congrArg V.bl dec_int_i)) q⟩
theorem od_neI (q : Q (.bl (!decide (i = j))) S) : OD c (compareOp .NotEq) (.int i) (.int j) S Q :=
  OD.of op_ne fun H v w m rv rw => by
    rw [rep_int.mp rv, rep_int.mp rw]
    exact ⟨rfl, pst_same m (rep_bl.mpr (congrArg (fun b => V.bl (!b)) dec_int_i)) q⟩
theorem od_eqS {a b : Str} (q : Q (.bl (decide (a = b))) S) : OD c (compareOp .Eq) (.str a) (.str b) S Q :=
  OD.of op_eq fun H v w m rv rw => by
    rw [rep_str.mp rv, rep_str.mp rw]
    exact ⟨rfl, pst_same m (rep_bl.mpr (by by_cases h : a = b <;> simp [h])) q⟩
theorem od_neS {a b : Str} (q : Q (.bl (!decide (a = b))) S) : OD c (compareOp .NotEq) (.str a) (.str b) S Q :=
  OD.of op_ne fun H v w m rv rw => by
    rw [rep_str.mp rv, rep_str.mp rw]
    exact ⟨rfl, pst_same m (rep_bl.mpr (by by_cases h : a = b <;> simp [h])) q⟩
@[reducible] def isNon : D → Bool
  | .non => true
  | _ => false
theorem isNon_ok {K : PySem.W.Frag} {G : Hp} {v : V} (r : Rep K G x v) : decide (v = .non) = isNon x := by
  cases x with
  | non => rw [rep_non.mp r]; rfl
  | bl b => rw [rep_bl.mp r]; rfl
  | int b => rw [rep_int.mp r]; rfl
  | str b => rw [rep_str.mp r]; rfl
  | ref b => rw [rep_ref.mp r]; rfl
  | ty b => rw [rep_ty.mp r]; rfl
  | tup b => obtain ⟨a, vs, rfl, _⟩ := rep_tup.mp r; rfl
  | fl b => obtain ⟨a, vs, rfl, _⟩ := rep_fl.mp r; rfl
theorem od_isN (q : Q (.bl (isNon x)) S) : OD c (compareOp .Is) x .non S Q :=
  OD.of op_isN fun H v w m rv rw => ⟨rep_non.mp rw, pst_same m (rep_bl.mpr (congrArg V.bl (isNon_ok rv))) q⟩
theorem od_notN (q : Q (.bl (!isNon x)) S) : OD c (compareOp .IsNot) x .non S Q :=
  OD.of op_notN fun H v w m rv rw => ⟨rep_non.mp rw, pst_same m (rep_bl.mpr (congrArg (fun b => V.bl (!b)) (isNon_ok rv))) q⟩
theorem od_isB {a b : Bool} (q : Q (.bl (decide (a = b))) S) : OD c (compareOp .Is) (.bl a) (.bl b) S Q :=
  OD.of op_isBl fun H v w m rv rw => ⟨a, b, rep_bl.mp rv, rep_bl.mp rw, pst_same m (rep_bl.mpr rfl) q⟩
theorem od_notB {a b : Bool} (q : Q (.bl (!decide (a = b))) S) : OD c (compareOp .IsNot) (.bl a) (.bl b) S Q :=
  OD.of op_notBl fun H v w m rv rw => ⟨a, b, rep_bl.mp rv, rep_bl.mp rw, pst_same m (rep_bl.mpr rfl) q⟩

/-! ### lists and tuples put together -/
theorem rCatS_ok : OpR c.X (binaryOp .Add) (fun x y H Q => ∃ l b xs zs, x = .ref l ∧ y = .ref b ∧ SqL c.X.K H l xs ∧ SqL c.X.K H b zs ∧ xs.length + zs.length ≤ sizeLine ∧ ∀ p, H p = none → Q (.ref p) (upd H p (.lst (xs ++ zs)))) := by
  intro pins s σ H x y v u Q I rx ry h
  obtain ⟨l, b, xs, zs, rfl, rfl, hH, hB, hz, q⟩ := h
  cases rx
  cases ry
  obtain ⟨its, r, ⟨⟨cls, dd, data, sl⟩, n, ho, hc, hdd, hd⟩, z⟩ := I.list hH
  obtain ⟨its2, r2, ⟨⟨cls2, dd2, data2, sl2⟩, n2, ho2, hc2, hdd2, hd2⟩, z2⟩ := I.list hB
  simp only at hc hd hc2 hd2 hdd hdd2
  subst hc hd hc2 hd2 hdd hdd2
  have hl := r.length
  have hl2 := r2.length
  have ea : its.toArray ++ its2.toArray = (its ++ its2).toArray := by simp
  refine PySem.concat_meets ⟨_, ho, rfl⟩ ⟨_, ho2, rfl⟩ PySem.noFill_list_add PySem.seq_list_add PySem.F.slot_list_add PySem.F.entry_list_add (PySem.F.args_list_add_2 _ _) (PyProof.Rows.list_addW l b its.toArray its2.toArray n n2 none none sl sl2 (by simp; omega)) ⟨ho, ho2, ?_⟩
  rw [ea]
  exact ⟨.ref _, _, I.lnew (t' := s.toks) (r.append r2) (by rw [List.length_append]; omega), rfl, q _ I.fresh⟩
theorem od_cat {xs ys : List D} (hx : IsL S x xs) (hy : IsL S y ys) (hl : xs.length + ys.length ≤ sizeLine) (q : Q (.fl (xs ++ ys)) S) : OD c (binaryOp .Add) x y S Q :=
  OD.of rCatS_ok fun H v w m rv rw => by
    obtain ⟨a, vs, rfl, h1, h2⟩ := hx.sq rv m
    obtain ⟨b, ws, rfl, h3, h4⟩ := hy.sq rw m
    refine ⟨a, b, vs, ws, rfl, rfl, h1, h3, by rw [← h2.length, ← h4.length]; exact hl, fun p hp => ?_⟩
    obtain ⟨st, sm, e⟩ := m.new (o := .lst (vs ++ ws)) hp
    exact ⟨_, S, rep_fl.mpr ⟨p, _, rfl, SqL.of e, (h2.mono st).append (h4.mono st)⟩, sm, st, q⟩
theorem od_catM {xs ys : List D} (hx : IsL S x xs) (hy : IsL S y ys) (hl : xs.length + ys.length ≤ sizeLine) (q : ∀ p, S p = none → Q (.ref p) (sup S p (.lst (xs ++ ys)))) : OD c (binaryOp .Add) x y S Q :=
  OD.of rCatS_ok fun H v w m rv rw => by
    obtain ⟨a, vs, rfl, h1, h2⟩ := hx.sq rv m
    obtain ⟨b, ws, rfl, h3, h4⟩ := hy.sq rw m
    refine ⟨a, b, vs, ws, rfl, rfl, h1, h3, by rw [← h2.length, ← h4.length]; exact hl, fun p hp => ?_⟩
    obtain ⟨st, sm⟩ := m.newM (o := .lst (vs ++ ws)) (m := .lst (xs ++ ys)) hp fun H' S' sb e => ⟨_, e, (h2.mono sb).append (h4.mono sb)⟩
    exact ⟨.ref p, _, rep_ref.mpr rfl, sm, st, q p (m.free hp)⟩
theorem od_catT {xs ys : List D} (hx : xs ≠ []) (hl : xs.length + ys.length ≤ sizeLine) (q : Q (.tup (xs ++ ys)) S) : OD c (binaryOp .Add) (.tup xs) (.tup ys) S Q :=
  OD.of op_catT fun H v w m rv rw => by
    obtain ⟨a, vs, rfl, h1, h2⟩ := tup_sq rv
    obtain ⟨b, ws, rfl, h3, h4⟩ := tup_sq rw
    have l1 := h2.length
    have l2 := h4.length
    refine ⟨a, b, vs, ws, rfl, rfl, h1, h3, fun z => hx (by rw [z] at l1; exact List.eq_nil_of_length_eq_zero l1), by rw [← h2.length, ← h4.length]; exact hl, fun z => ?_, fun _ p hp => ?_⟩
    · subst z
      obtain ⟨a', vs', e1, e2, e3⟩ := rep_tup.mp rv
      have e4 : ys = [] := List.eq_nil_of_length_eq_zero l2
      subst e4
      refine ⟨_, S, rep_tup.mpr ⟨a', vs', e1, e2, ?_⟩, m, Stp.refl, q⟩
      rw [List.append_nil]
      exact e3
    · obtain ⟨st, sm, e⟩ := m.new (o := .tup (vs ++ ws)) hp
      exact ⟨_, S, rep_tup.mpr ⟨p, _, rfl, SqT.of e, (h2.mono st).append (h4.mono st)⟩, sm, st, q⟩

/-! ### equality, membership -/
mutual
def toPy : D → PyData
  | .non => .none
  | .bl b => .bool b
  | .int i => .int i
  | .str x => .str x
  | .tup xs => .tuple (toPys xs)
  | .fl xs => .list (toPys xs)
  | .ref _ => .none
  | .ty _ => .none
def toPys : List D → List PyData
  | [] => []
  | x :: xs => toPy x :: toPys xs
end
theorem toPys_map : ∀ xs : List D, toPys xs = xs.map toPy
  | [] => rfl
  | x :: xs => by rw [List.map_cons, ← toPys_map xs, toPys]
mutual
/-- data through and through -/
def isDt : D → Bool
  | .ref _ => false
  | .ty _ => false
  | .tup xs => isDts xs
  | .fl xs => isDts xs
  | .non => true
  | .bl _ => true
  | .int _ => true
  | .str _ => true
def isDts : List D → Bool
  | [] => true
  | x :: xs => isDt x && isDts xs
end
theorem isDts_all : ∀ xs : List D, isDts xs = xs.all isDt
  | [] => rfl
  | x :: xs => by rw [List.all_cons, ← isDts_all xs, isDts]
mutual
theorem rep_dp {K : PySem.W.Frag} {H G : Hp} (sb : Sub G H) : ∀ (d : D) (v : V), isDt d = true → Rep K G d v → Dp K H v (toPy d)
  | .non, v, h, r => by rw [rep_non.mp r]; unfold toPy; exact .non
  | .bl b, v, h, r => by rw [rep_bl.mp r]; unfold toPy; exact .bl b
  | .int b, v, h, r => by rw [rep_int.mp r]; unfold toPy; exact .int b
  | .str b, v, h, r => by rw [rep_str.mp r]; unfold toPy; exact .str b
  | .ref a, v, h, r => by unfold isDt at h; cases h
  | .ty a, v, h, r => by unfold isDt at h; cases h
  | .tup xs, v, h, r => by
    obtain ⟨a, vs, rfl, h1, h2⟩ := rep_tup.mp r
    unfold isDt at h
    unfold toPy
    exact .tup (sb.t h1) (reps_dp sb xs vs h h2)
  | .fl xs, v, h, r => by
    obtain ⟨a, vs, rfl, h1, h2⟩ := rep_fl.mp r
    unfold isDt at h
    unfold toPy
    exact .lst (sb.l h1) (reps_dp sb xs vs h h2)
theorem reps_dp {K : PySem.W.Frag} {H G : Hp} (sb : Sub G H) : ∀ (ds : List D) (vs : List V), isDts ds = true → Reps K G ds vs → DpAll K H vs (toPys ds)
  | [], vs, h, r => by unfold Reps at r; subst r; unfold toPys; exact .nil
  | d :: ds, vs, h, r => by
    unfold Reps at r
    obtain ⟨v, t, rfl, h1, h2⟩ := r
    unfold isDts at h
    rw [Bool.and_eq_true] at h
    unfold toPys
    exact .cons (rep_dp sb d v h.1 h1) (reps_dp sb ds t h.2 h2)
end
def deq (a b : D) : Bool := PyData.eqv (toPy a) (toPy b)
def shp (d : D) : Bool := isDt d && SeqAt.shaped (toPy d)
theorem od_eqD (hu : c.X.A.units + 64 < cLine) (h1 : shp x = true) (h2 : shp y = true) (q : Q (.bl (deq x y)) S) : OD c (compareOp .Eq) x y S Q :=
  OD.of (op_eqD hu) fun H v w m rv rw => by
    unfold shp at h1 h2
    rw [Bool.and_eq_true] at h1 h2
    exact ⟨_, _, rep_dp sub_im x v h1.1 rv, rep_dp sub_im y w h2.1 rw, h1.2, h2.2, pst_same m (rep_bl.mpr rfl) q⟩
theorem od_neD (hu : c.X.A.units + 64 < cLine) (h1 : shp x = true) (h2 : shp y = true) (q : Q (.bl (!deq x y)) S) : OD c (compareOp .NotEq) x y S Q :=
  OD.of (op_neD hu) fun H v w m rv rw => by
    unfold shp at h1 h2
    rw [Bool.and_eq_true] at h1 h2
    exact ⟨_, _, rep_dp sub_im x v h1.1 rv, rep_dp sub_im y w h2.1 rw, h1.2, h2.2, pst_same m (rep_bl.mpr rfl) q⟩
theorem od_inD {ds : List D} (hu : c.X.A.units + 65 < cLine) (h1 : shp x = true) (h2 : shp (.fl ds) = true) (q : Q (.bl (ds.any fun z => deq z x)) S) : OD c (compareOp .In) x (.fl ds) S Q :=
  OD.of (op_inD hu) fun H v w m rv rw => by
    unfold shp at h1 h2
    rw [Bool.and_eq_true] at h1 h2
    have e := rep_dp sub_im (.fl ds) w h2.1 rw
    have e2 := h2.2
    unfold toPy at e e2
    refine ⟨_, _, rep_dp sub_im x v h1.1 rv, e, h1.2, e2, pst_same m (rep_bl.mpr ?_) q⟩
    rw [toPys_map, List.any_map] <;> rfl
theorem od_notInD {ds : List D} (hu : c.X.A.units + 65 < cLine) (h1 : shp x = true) (h2 : shp (.fl ds) = true) (q : Q (.bl (!ds.any fun z => deq z x)) S) : OD c (compareOp .NotIn) x (.fl ds) S Q :=
  OD.of (op_notInD hu) fun H v w m rv rw => by
    unfold shp at h1 h2
    rw [Bool.and_eq_true] at h1 h2
    have e := rep_dp sub_im (.fl ds) w h2.1 rw
    have e2 := h2.2
    unfold toPy at e e2
    refine ⟨_, _, rep_dp sub_im x v h1.1 rv, e, h1.2, e2, pst_same m (rep_bl.mpr ?_) q⟩
    rw [toPys_map, List.any_map] <;> rfl
/-- flat things in a list or a tuple -/
def flD : D → Bool
  | .non => true
  | .bl _ => true
  | .int _ => true
  | .str _ => true
  | _ => false
def toV : D → V
  | .non => .non
  | .bl b => .bl b
  | .int i => .int i
  | .str x => .str x
  | .ref a => .ref a
  | .ty n => .ty n
  | _ => .non
theorem fl_rep {K : PySem.W.Frag} {G : Hp} {v : V} (h : flD x = true) (r : Rep K G x v) : v = toV x ∧ flatV v = true := by
  cases x with
  | non => rw [rep_non.mp r]; exact ⟨rfl, rfl⟩
  | bl b => rw [rep_bl.mp r]; exact ⟨rfl, rfl⟩
  | int b => rw [rep_int.mp r]; exact ⟨rfl, rfl⟩
  | str b => rw [rep_str.mp r]; exact ⟨rfl, rfl⟩
  | _ => cases h
theorem fl_reps {K : PySem.W.Frag} {G : Hp} : ∀ {xs : List D} {vs : List V}, xs.all flD = true → Reps K G xs vs → vs = xs.map toV ∧ vs.all flatV = true
  | [], vs, h, r => by unfold Reps at r; subst r; exact ⟨rfl, rfl⟩
  | d :: ds, vs, h, r => by
    unfold Reps at r
    obtain ⟨v, t, rfl, h1, h2⟩ := r
    rw [List.all_cons, Bool.and_eq_true] at h
    obtain ⟨e1, e2⟩ := fl_rep h.1 h1
    obtain ⟨e3, e4⟩ := fl_reps h.2 h2
    refine ⟨by rw [e1, e3] <;> rfl, by rw [List.all_cons, e2, e4] <;> rfl⟩
/-- one of the items of a list or tuple of flat things -/
def inF (x : D) (xs : List D) : Bool := inV (toV x) (xs.map toV)
theorem od_in {xs : List D} (hy : IsL S y xs ∨ y = .tup xs) (hx : flD x = true) (ha : xs.all flD = true) (q : Q (.bl (inF x xs)) S) : OD c (compareOp .In) x y S Q :=
  OD.of op_in_seq fun H v w m rv rw => by
    obtain ⟨e1, e2⟩ := fl_rep hx rv
    rcases hy with hy | rfl
    · obtain ⟨b, ws, rfl, h3, h4⟩ := hy.sq rw m
      obtain ⟨e3, e4⟩ := fl_reps ha h4
      exact ⟨b, ws, rfl, .inl h3, e2, e4, pst_same m (rep_bl.mpr (by rw [e1, e3] <;> rfl)) q⟩
    · obtain ⟨b, ws, rfl, h3, h4⟩ := tup_sq rw
      obtain ⟨e3, e4⟩ := fl_reps ha h4
      exact ⟨b, ws, rfl, .inr h3, e2, e4, pst_same m (rep_bl.mpr (by rw [e1, e3] <;> rfl)) q⟩
theorem od_notIn {xs : List D} (hy : IsL S y xs ∨ y = .tup xs) (hx : flD x = true) (ha : xs.all flD = true) (q : Q (.bl (!inF x xs)) S) : OD c (compareOp .NotIn) x y S Q :=
  OD.of op_notIn_seq fun H v w m rv rw => by
    obtain ⟨e1, e2⟩ := fl_rep hx rv
    rcases hy with hy | rfl
    · obtain ⟨b, ws, rfl, h3, h4⟩ := hy.sq rw m
      obtain ⟨e3, e4⟩ := fl_reps ha h4
      exact ⟨b, ws, rfl, .inl h3, e2, e4, pst_same m (rep_bl.mpr (by rw [e1, e3] <;> rfl)) q⟩
    · obtain ⟨b, ws, rfl, h3, h4⟩ := tup_sq rw
      obtain ⟨e3, e4⟩ := fl_reps ha h4
      exact ⟨b, ws, rfl, .inr h3, e2, e4, pst_same m (rep_bl.mpr (by rw [e1, e3] <;> rfl)) q⟩
end

/-! ### subscripts -/
section
variable {c : Ctx} {e a b : Expr} {es : List Expr} {ρ : DEnv} {S : SS} {Q : D → SS → Prop} {pos : Pos} {nx bk ct : NK} {rt : RK}
theorem ixN_map {n m : Nat} (h : n = m) (i : Int) : ixN n i = ixN m i := by rw [h]
theorem atI_rep {K : PySem.W.Frag} {G : Hp} {xs : List D} {vs : List V} {i : Int} {d : D} (r : Reps K G xs vs) (h : atI xs i = some d) : ∃ v, atI vs i = some v ∧ Rep K G d v := by
  unfold atI at h ⊢
  rw [← r.length]
  cases e : ixN xs.length i with
  | none => rw [e] at h; cases h
  | some j =>
    rw [e] at h
    exact r.get (i := j) h
/-- x[i], a list or a tuple -/
theorem je_ix (h : JE c a ρ S fun x S1 => JE c b ρ S1 fun y S2 => ∃ xs i d, (IsL S2 x xs ∨ x = .tup xs) ∧ y = .int i ∧ atI xs i = some d ∧ Q d S2) (hs : PlainIx b := by exact fun _ _ => rfl) : JE c (.Subscript a b pos) ρ S Q :=
  JE.of (pe_ix (ix_list.or ix_tup) PEt PEt hs) fun σ H ds => h.then ds fun x S1 v H1 r1 d1 s1 h1 => h1.then d1 fun y S2 w H2 r2 d2 s2 ⟨xs, i, d, hx, hy, ha, q⟩ => by
    subst hy
    have r1' := r1.mono s2
    rcases hx with hx | rfl
    · obtain ⟨p, vs, rfl, h3, h4⟩ := hx.sq r1' d2.sim
      obtain ⟨z, hz, rz⟩ := atI_rep h4 ha
      exact .inl ⟨p, vs, i, z, rfl, rep_int.mp r2, h3, hz, d, S2, rz, d2.sim, s1.trans s2, q⟩
    · obtain ⟨p, vs, rfl, h3, h4⟩ := tup_sq r1'
      obtain ⟨z, hz, rz⟩ := atI_rep h4 ha
      exact .inr ⟨p, vs, i, z, rfl, rep_int.mp r2, h3, hz, d, S2, rz, d2.sim, s1.trans s2, q⟩
/-- a slice's part -/
def tPo (X : Cx) (e : Option Expr) : TO := fun σ H R => ∃ t, PO X e t ∧ t σ H R
theorem POt {X : Cx} {e : Option Expr} : PO X e (tPo X e) := ⟨fun pins s σ H Q I ⟨t, h, k⟩ => h.run pins s σ H Q I k⟩
def JO (c : Ctx) (e : Option Expr) (ρ : DEnv) (S : SS) (QO : Option Int → SS → Prop) : Prop := ∀ σ H, Ds c σ H ρ S → ∀ R : Option Int → Hp → Prop, (∀ o S' H', Ds c σ H' ρ S' → Stp H S H' S' → QO o S' → R o H') → tPo c.X e σ H R
theorem jo_none {QO : Option Int → SS → Prop} (q : QO none S) : JO c none ρ S QO := fun σ H ds R k => ⟨_, po_none, k none S H ds Stp.refl q⟩
theorem jo_some {QO : Option Int → SS → Prop} (h : JE c e ρ S fun x S1 => ∃ i, x = .int i ∧ QO (some i) S1) : JO c (some e) ρ S QO := fun σ H ds R k => ⟨_, po_some PEt, h.then ds fun x S1 v H1 r1 d1 s1 ⟨i, e1, q⟩ => by
  subst e1
  exact ⟨i, rep_int.mp r1, k (some i) S1 H1 d1 s1 q⟩⟩
def cutD (xs : List D) (lo hi : Option Int) : List D := (xs.drop (HT.sIx xs.length 0 lo)).take (HT.sIx xs.length xs.length hi - HT.sIx xs.length 0 lo)
theorem cut_rep {K : PySem.W.Frag} {G : Hp} {xs : List D} {vs : List V} {lo hi : Option Int} (r : Reps K G xs vs) : Reps K G (cutD xs lo hi) (cutV vs lo hi) := by
  unfold cutD cutV
  rw [r.length]
  exact (r.drop _).take _
/-- xs[lo:hi] of a list: a new list that never changes -/
theorem je_slice {lo hi : Option Expr} {p2 : Pos} (h : JE c e ρ S fun x S1 => JO c lo ρ S1 fun l S2 => JO c hi ρ S2 fun u S3 => ∃ xs, IsL S3 x xs ∧ Q (.fl (cutD xs l u)) S3) : JE c (.Subscript e (.Slice lo hi none p2) pos) ρ S Q :=
  JE.of (pe_slice sl_list PEt POt POt) fun σ H ds => h.then ds fun x S1 v H1 r1 d1 s1 h1 => h1 σ H1 d1 _ fun l S2 H2 d2 s2 h2 => h2 σ H2 d2 _ fun u S3 H3 d3 s3 ⟨xs, hx, q⟩ => by
    obtain ⟨p, vs, rfl, h3, h4⟩ := hx.sq ((r1.mono s2).mono s3) d3.sim
    refine ⟨p, vs, rfl, h3, fun a ha => ?_⟩
    obtain ⟨st, sm, e⟩ := d3.sim.new (o := .lst (cutV vs l u)) ha
    exact ⟨_, S3, rep_fl.mpr ⟨a, _, rfl, SqL.of e, (cut_rep h4).mono st⟩, sm, ((s1.trans s2).trans s3).trans st, q⟩
/-- xs[::-1] of a list -/
theorem je_rev {k : Nat} {p1 p2 p3 : Pos} (h : JE c e ρ S fun x S1 => ∃ xs, IsL S1 x xs ∧ Q (.fl xs.reverse) S1) : JE c (.Subscript e (.Slice none none (some (.UnaryOp .USub (.Constant (.int 1) k p1) p2)) p3) pos) ρ S Q :=
  JE.of (pe_revL PEt) fun σ H ds => h.then ds fun x S1 v H1 r1 d1 s1 ⟨xs, hx, q⟩ => by
    obtain ⟨p, vs, rfl, h3, h4⟩ := hx.sq r1 d1.sim
    refine ⟨p, vs, rfl, h3, fun a ha => ?_⟩
    obtain ⟨st, sm, e⟩ := d1.sim.new (o := .lst vs.reverse) ha
    exact ⟨_, S1, rep_fl.mpr ⟨a, _, rfl, SqL.of e, h4.reverse.mono st⟩, sm, s1.trans st, q⟩
/-- xs[i] = .. -/
theorem jg_ixL {o i : Expr} {y : D} (h : JE c o ρ S fun x S1 => JE c i ρ S1 fun k S2 => ∃ l xs n j, x = .ref l ∧ S2 l = some (.lst xs) ∧ k = .int n ∧ ixN xs.length n = some j ∧ nx ρ (sup S2 l (.lst (xs.set j y))))
    (ha : ∀ v, assign (.Subscript o i pos) c.X.env v = (do
      let ov ← holding [v] (eval o c.X.env)
      let iv ← holding [v, ov] (eval i c.X.env)
      standAt pos
      holding [v, ov, iv] (setItem ov iv v)
      release [v, ov, iv] []) := by intro _; rfl) : JG c (.Subscript o i pos) y ρ S nx :=
  JG.of (pg_sub PEt PEt set_list ha) fun σ H v ds r => h.then ds fun x S1 u H1 r1 d1 s1 h1 => h1.then d1 fun k S2 w H2 r2 d2 s2 ⟨l, xs, n, j, e1, e2, e3, e4, q⟩ => by
    subst e1 e3
    obtain ⟨vs, hv, rv⟩ := d2.sim l _ e2
    obtain ⟨st, sm⟩ := d2.sim.write (o := .lst (vs.set j v)) (m := .lst (xs.set j y)) e2 fun H' S' sb e => ⟨_, e, (rv.mono sb).set j (((r.mono s1).mono s2).mono sb)⟩
    exact ⟨l, vs, n, j, rep_ref.mp r1, rep_int.mp r2, hv, by rw [← rv.length]; exact e4, ρ, _, (d2.sl.step st), sm, (s1.trans s2).trans st, q⟩
/-- a, b, .. = a tuple -/
def JGs (c : Ctx) (es : List Expr) (ds : List D) (ρ : DEnv) (S : SS) (nx : NK) : Prop := ∀ σ H vs, Ds c σ H ρ S → Reps c.X.K (im H S) ds vs → ∃ t, PGs c.X es t ∧ t vs σ H (pstN c.X.K H S nx)
def tGs (X : Cx) (es : List Expr) : TGs := fun vs σ H R => ∃ t, PGs X es t ∧ t vs σ H R
theorem PGst {X : Cx} {es : List Expr} : PGs X es (tGs X es) := ⟨fun pins s σ H vs us Q I r ⟨t, h, k⟩ => h.run pins s σ H vs us Q I r k⟩
theorem jgs_nil (q : nx ρ S) : JGs c [] [] ρ S nx := fun σ H vs ds r => ⟨_, pgs_nil, by unfold Reps at r; exact r, ρ, S, ds.sl, ds.sim, Stp.refl, q⟩
theorem tGs_use {X : Cx} {es : List Expr} {vs : List V} {σ : L2.St} {H : Hp} {R R' : L2.St → Hp → Prop} (h : tGs X es vs σ H R) (k : ∀ σ' H', R σ' H' → R' σ' H') : ∃ t, PGs X es t ∧ t vs σ H R' :=
  ⟨fun vs σ H R' => ∃ R, tGs X es vs σ H R ∧ ∀ σ' H', R σ' H' → R' σ' H', ⟨fun pins s σ H vs us Q I r ⟨R, h, k⟩ => thn (PGst.run pins s σ H vs us R I r h) fun _ s' ⟨σ', H', I', q⟩ => ⟨σ', H', I', k _ _ q⟩⟩, R, h, k⟩
theorem jgs_cons {tg : Expr} {d : D} {ds : List D} (h : JG c tg d ρ S fun ρ1 S1 => JGs c es ds ρ1 S1 nx) (hs : (assignEach (tg :: es) c.X.env).map (·.2) = assign tg c.X.env :: (assignEach es c.X.env).map (·.2) := by rfl) : JGs c (tg :: es) (d :: ds) ρ S nx := fun σ H vs dst r => by
  unfold Reps at r
  obtain ⟨v, t, rfl, r1, r2⟩ := r
  refine ⟨_, pgs_cons PGt (⟨fun pins s σ H vs us Q I r ⟨R, h, k⟩ => thn (PGst.run pins s σ H vs us R I r h) fun _ s' ⟨σ', H', I', q⟩ => ⟨σ', H', I', k _ _ q⟩⟩ : PGs c.X es (fun vs σ H R' => ∃ R, tGs c.X es vs σ H R ∧ ∀ σ' H', R σ' H' → R' σ' H')) hs, v, t, rfl, ?_⟩
  refine tGt_mono (h σ H v dst r1) fun σ' H' ⟨ρ1, S1, sl, sm, s1, q⟩ => ?_
  exact ⟨_, q σ' H' t ((dst.step sm s1).slots sl) (r2.mono s1), fun σ2 H2 q2 => pstN_step s1 q2⟩
theorem jg_tup {ds : List D} {k : Nat} (h : JGs c es ds ρ S nx) (hl : ds.length = es.length) (hc : c.X.calm = true := by rfl) (hn : (assignEach es c.X.env).length = es.length := by rfl) (hst : (assignEach es c.X.env).findIdx? (·.1) = none := by rfl) : JG c (.Tuple es k pos) (.tup ds) ρ S nx :=
  JG.of (pg_tup hc PGst hn hst) fun σ H v dst r => by
    obtain ⟨a, vs, rfl, h1, h2⟩ := tup_sq r
    exact ⟨a, vs, rfl, h1, by rw [← h2.length, hl], h σ H vs dst h2⟩
/-- name op= e -/
theorem js_aug (i : Nat) {x : Str} {d : D} {op : Operator} {pos' : Pos} (hd : ρ[i]? = some (some d)) (h : JE c e ρ S fun y S1 => OD c (inplaceOp op) d y S1 fun z S2 => nx (ρ.set i (some z)) S2) (hN : c.X.N.Nodup) (hi : c.X.N[i]? = some x) (hx : Loc c.X.env.scope x) (hf : c.X.fn x = true ∨ c.X.env.scope.names.lookup x = some .local) : JS c (.AugAssign (.Name x pos') op e pos) ρ S nx rt bk ct :=
  JS.of (ps_aug (ti := fun x y H R => tO c.X (inplaceOp op) x y H R) hN hi hx PEt (fun pins s σ H x y v u Q I rx ry h => h pins s σ v u I rx ry) hf) fun σ H ds => by
    obtain ⟨v, e1, e2⟩ := ds.sl.at_ i d hd
    refine ⟨v, e1, h.then ds fun y S1 w H1 r1 d1 s1 q => ?_⟩
    exact tO_mono (q H1 v w d1.sim (e2.mono s1) r1) fun z H2 ⟨zd, S2, rz, m2, s2, q2⟩ => ⟨_, S2, (d1.sl.step s2).set rz, m2, s1.trans s2, q2⟩
theorem od_iadd {i j : Int} (q : Q (.int (i + j)) S) : OD c (inplaceOp .Add) (.int i) (.int j) S Q := od_i0 iop_add (fun _ _ => rep_int.mpr rfl) q
theorem od_isub {i j : Int} (q : Q (.int (i - j)) S) : OD c (inplaceOp .Sub) (.int i) (.int j) S Q := od_i0 iop_sub (fun _ _ => rep_int.mpr rfl) q
end
end DP

namespace DP
open PySem L2

/-! ### walks -/
/-- J gives the items ds, one a turn, while Cnd holds of the store -/
def ItOk (K : PySem.W.Frag) (J : It) (ds : List D) (Cnd : SS → Prop) (H0 : Hp) (S0 : SS) : Prop := ∀ H S, Sim K H S → Stp H0 S0 H S → Cnd S → ∀ i : Nat,
  (∀ d, ds[i]? = some d → J.go i H ∧ ∀ x H', J.yld i H x H' → Rep K (im H' S) d x ∧ Sim K H' S ∧ Stp H S H' S) ∧ (ds.length ≤ i → i = ds.length → J.stop i H)
def JI (c : Ctx) (tg iter : Expr) (ρ : DEnv) (S : SS) (R : List D → (SS → Prop) → SS → Prop) : Prop := ∀ σ H, Ds c σ H ρ S →
  tIt c.X tg iter σ H fun J H1 => ∃ ds Cnd S1, Sim c.X.K H1 S1 ∧ Stp H S H1 S1 ∧ ItOk c.X.K J ds Cnd H1 S1 ∧ R ds Cnd S1
section
variable {c : Ctx} {tg iter e a b : Expr} {es : List Expr} {body : List Stmt} {ρ : DEnv} {S : SS} {R : List D → (SS → Prop) → SS → Prop} {nx bk ct : NK} {rt : RK} {Q : D → SS → Prop} {pos : Pos}
theorem JI.of {t : TI} (h : PI c.X tg iter t) (k : ∀ σ H, Ds c σ H ρ S → t σ H fun J H1 => ∃ ds Cnd S1, Sim c.X.K H1 S1 ∧ Stp H S H1 S1 ∧ ItOk c.X.K J ds Cnd H1 S1 ∧ R ds Cnd S1) : JI c tg iter ρ S R := fun σ H ds pins s I => h.run pins s σ H _ I (k σ H ds)
theorem sq_back {K : PySem.W.Frag} {H0 H : Hp} {S0 S' : SS} {x : D} {v : V} {xs : List D} (hx : x = .fl xs) (r : Rep K (im H0 S0) x v) (st : Stp H0 S0 H S') : ∃ a vs, v = .ref a ∧ SqL K H a vs ∧ Reps K (im H S') xs vs := by
  subst hx
  obtain ⟨a, vs, rfl, h1, h2⟩ := rep_fl.mp r
  exact ⟨a, vs, rfl, sub_im.l (Sub.l st h1), h2.mono st⟩
/-- over a list: one that never changes -/
theorem ji_fl (h : JE c iter ρ S fun x S1 => ∃ xs, x = .fl xs ∧ R xs (fun _ => True) S1) : JI c tg iter ρ S R :=
  JI.of (pi_list PEt) fun σ H ds => h.then ds fun x S1 v H1 r1 d1 s1 ⟨xs, hx, q⟩ => by
    subst hx
    obtain ⟨a, vs, rfl, h1, h2⟩ := rep_fl.mp r1
    refine ⟨a, rfl, ⟨vs, sub_im.l h1⟩, xs, _, S1, d1.sim, s1, fun H2 S2 m2 st _ i => ⟨fun d hd => ?_, fun _ hl => ?_⟩, q⟩
    · have hs : SqL c.X.K H2 a vs := sub_im.l (Sub.l st h1)
      obtain ⟨z, hz, rz⟩ := h2.get hd
      refine ⟨⟨vs, z, hs, hz⟩, fun x H' y => ?_⟩
      obtain ⟨e, y⟩ := y
      subst e
      have := y vs hs
      rw [hz] at this; cases this
      exact ⟨rz.mono st, m2, Stp.refl⟩
    · exact ⟨vs, sub_im.l (Sub.l st h1), by rw [← h2.length]; omega⟩
/-- over a list of the store that stands still -/
theorem ji_lst (h : JE c iter ρ S fun x S1 => ∃ l xs, x = .ref l ∧ S1 l = some (.lst xs) ∧ R xs (fun S' => S' l = some (.lst xs)) S1) : JI c tg iter ρ S R :=
  JI.of (pi_list PEt) fun σ H ds => h.then ds fun x S1 v H1 r1 d1 s1 ⟨l, xs, hx, hl, q⟩ => by
    subst hx
    obtain ⟨vs, h1, h2⟩ := d1.sim l _ hl
    refine ⟨l, rep_ref.mp r1, ⟨vs, SqL.of h1⟩, xs, _, S1, d1.sim, s1, fun H2 S2 m2 st cn i => ?_, q⟩
    obtain ⟨ws, h3, h4⟩ := m2 l _ cn
    refine ⟨fun d hd => ?_, fun _ hl => ⟨ws, SqL.of h3, by rw [← h4.length]; omega⟩⟩
    obtain ⟨z, hz, rz⟩ := h4.get hd
    refine ⟨⟨ws, z, SqL.of h3, hz⟩, fun x H' y => ?_⟩
    obtain ⟨e, y⟩ := y
    subst e
    have := y ws (SqL.of h3)
    rw [hz] at this; cases this
    exact ⟨rz, m2, Stp.refl⟩
/-- over a tuple -/
theorem ji_tup (h : JE c iter ρ S fun x S1 => ∃ xs, x = .tup xs ∧ R xs (fun _ => True) S1) : JI c tg iter ρ S R :=
  JI.of (pi_tup PEt) fun σ H ds => h.then ds fun x S1 v H1 r1 d1 s1 ⟨xs, hx, q⟩ => by
    subst hx
    obtain ⟨a, vs, rfl, h1, h2⟩ := rep_tup.mp r1
    refine ⟨a, rfl, ⟨vs, sub_im.t h1⟩, xs, _, S1, d1.sim, s1, fun H2 S2 m2 st _ i => ⟨fun d hd => ?_, fun _ hl => ?_⟩, q⟩
    · have hs : SqT c.X.K H2 a vs := sub_im.t (Sub.t st h1)
      obtain ⟨z, hz, rz⟩ := h2.get hd
      refine ⟨⟨vs, z, hs, hz⟩, fun x H' y => ?_⟩
      obtain ⟨e, y⟩ := y
      subst e
      have := y vs hs
      rw [hz] at this; cases this
      exact ⟨rz.mono st, m2, Stp.refl⟩
    · exact ⟨vs, sub_im.t (Sub.t st h1), by rw [← h2.length]; omega⟩
def irng (lo : Int) (n : Nat) : List D := (List.range n).map fun (k : Nat) => D.int (lo + (k : Int))
theorem irng_len {lo : Int} {n : Nat} : (irng lo n).length = n := by unfold irng; rw [List.length_map, List.length_range]
theorem irng_get {lo : Int} {n i : Nat} {d : D} (h : (irng lo n)[i]? = some d) : i < n ∧ d = .int (lo + (i : Int)) := by
  unfold irng at h
  rw [List.getElem?_map] at h
  by_cases hi : i < n
  · rw [List.getElem?_range hi] at h
    simp at h
    exact ⟨hi, h.symm⟩
  · rw [List.getElem?_eq_none (by simpa using hi)] at h
    simp at h
theorem itr_ok {K : PySem.W.Frag} {lo : Int} {n : Nat} {H0 : Hp} {S0 : SS} : ItOk K (Itr lo n) (irng lo n) (fun _ => True) H0 S0 := fun H S m st _ i => ⟨fun d hd => by
    obtain ⟨h1, h2⟩ := irng_get hd
    subst h2
    refine ⟨h1, fun x H' y => ?_⟩
    obtain ⟨e1, e2⟩ := y
    subst e1 e2
    exact ⟨rep_int.mpr rfl, m, Stp.refl⟩, fun h _ => by rw [irng_len] at h; exact h⟩
theorem ji_range1 {p : Pos} (hm : c.X.mg "range" = none) (h : JE c a ρ S fun x S1 => ∃ n, x = .int n ∧ -(2 ^ 62) ≤ n ∧ n < 2 ^ 62 ∧ R (irng 0 n.toNat) (fun _ => True) S1) (hg : Gl c.X "range" := by rfl) (hs : starEach [a] c.X.env = [(false, eval a c.X.env)] := by rfl) : JI c tg (.Call (.Name "range" p) [a] [] pos) ρ S R :=
  JI.of (pi_range1 hg hm (pa_cons PEt pa_nil hs) hs) fun σ H ds => h.then ds fun x S1 v H1 r1 d1 s1 ⟨n, hx, h1, h2, q⟩ => by
    subst hx
    exact ⟨n, by rw [rep_int.mp r1], h1, h2, _, _, S1, d1.sim, s1, itr_ok, q⟩
theorem ji_range2 {p : Pos} (hm : c.X.mg "range" = none) (h : JE c a ρ S fun x S1 => JE c b ρ S1 fun y S2 => ∃ i j, x = .int i ∧ y = .int j ∧ (-(2 ^ 62) ≤ i ∧ i < 2 ^ 62 ∧ -(2 ^ 62) ≤ j ∧ j < 2 ^ 62) ∧ R (irng i (j - i).toNat) (fun _ => True) S2) (hg : Gl c.X "range" := by rfl)
    (hs1 : starEach [a, b] c.X.env = (false, eval a c.X.env) :: starEach [b] c.X.env := by rfl) (hs2 : starEach [b] c.X.env = (false, eval b c.X.env) :: starEach [] c.X.env := by rfl) (hs2' : starEach [b] c.X.env = [(false, eval b c.X.env)] := by rfl) (hs : starEach [a, b] c.X.env = [(false, eval a c.X.env), (false, eval b c.X.env)] := by rfl) (hs3 : (backTo pos (starEach [b] c.X.env)).any (·.1) = false := by rfl) : JI c tg (.Call (.Name "range" p) [a, b] [] pos) ρ S R :=
  JI.of (pi_range2 hg hm (pa_cons PEt (pa_cons PEt pa_nil hs2) hs1) hs hs2') fun σ H ds => h.then ds fun x S1 v H1 r1 d1 s1 h1 => h1.then d1 fun y S2 w H2 r2 d2 s2 ⟨i, j, e1, e2, h3, q⟩ => by
    subst e1 e2
    exact ⟨i, j, by rw [rep_int.mp r1, rep_int.mp r2], h3, _, _, S2, d2.sim, s1.trans s2, itr_ok, q⟩
/-- pairs, each a new tuple -/
theorem pair_ok {K : PySem.W.Frag} {H H' : Hp} {S' : SS} {T : Addr} {x y : V} {d d' : D} (m : Sim K H S') (hT : H T = none) (e : H' = upd H T (.tup [x, y])) (r : Rep K (im H S') d x) (r' : Rep K (im H S') d' y) : Rep K (im H' S') (.tup [d, d']) (.ref T) ∧ Sim K H' S' ∧ Stp H S' H' S' := by
  subst e
  obtain ⟨st, sm, e⟩ := m.new (o := .tup [x, y]) hT
  exact ⟨rep_tup.mpr ⟨T, _, rfl, SqT.of e, Reps.cons (r.mono st) (Reps.cons (r'.mono st) Reps.nil)⟩, sm, st⟩
def enums (xs : List D) : List D := xs.mapIdx fun i d => .tup [.int (i : Nat), d]
theorem ji_enum {elts : List Expr} {kk : Nat} {tpos p : Pos} (hm : c.X.mg "enumerate" = none) (h : JE c a ρ S fun x S1 => ∃ xs, x = .fl xs ∧ R (enums xs) (fun _ => True) S1) (hg : Gl c.X "enumerate" := by rfl) (hs : starEach [a] c.X.env = [(false, eval a c.X.env)] := by rfl) : JI c (.Tuple elts kk tpos) (.Call (.Name "enumerate" p) [a] [] pos) ρ S R :=
  JI.of (pi_enum hg hm (pa_cons PEt pa_nil hs) hs) fun σ H ds => h.then ds fun x S1 v H1 r1 d1 s1 ⟨xs, hx, q⟩ => by
    subst hx
    obtain ⟨a, vs, rfl, h1, h2⟩ := rep_fl.mp r1
    refine ⟨a, vs, rfl, sub_im.l h1, _, _, S1, d1.sim, s1, fun H2 S2 m2 st _ i => ⟨fun d hd => ?_, fun hle hl => ?_⟩, q⟩
    · have hs : SqL c.X.K H2 a vs := sub_im.l (Sub.l st h1)
      unfold enums at hd
      rw [List.getElem?_mapIdx] at hd
      cases e0 : xs[i]? with
      | none => rw [e0] at hd; cases hd
      | some d0 =>
        rw [e0] at hd
        cases hd
        obtain ⟨z, hz, rz⟩ := h2.get e0
        refine ⟨⟨vs, z, hs, hz⟩, fun x H' y => ?_⟩
        obtain ⟨T, x0, e1, e2, e3, e4⟩ := y
        have := e4 vs hs
        rw [hz] at this; cases this
        rw [e1]
        exact pair_ok m2 e2 e3 (rep_int.mpr rfl) (rz.mono st)
    · refine ⟨vs, sub_im.l (Sub.l st h1), ?_⟩
      unfold enums at hle
      rw [List.length_mapIdx] at hle
      rw [← h2.length]; exact hle
def zips : List D → List D → List D
  | x :: xs, y :: ys => .tup [x, y] :: zips xs ys
  | _, _ => []
theorem zips_len : ∀ {xs ys : List D}, (zips xs ys).length = min xs.length ys.length
  | [], _ => by simp [zips]
  | _ :: _, [] => by simp [zips]
  | x :: xs, y :: ys => by simp only [zips, List.length_cons, zips_len (xs := xs) (ys := ys)]; omega
theorem zips_get : ∀ {xs ys : List D} {i : Nat} {d : D}, (zips xs ys)[i]? = some d → ∃ x y, xs[i]? = some x ∧ ys[i]? = some y ∧ d = .tup [x, y]
  | [], _, i, d, h => by simp [zips] at h
  | _ :: _, [], i, d, h => by simp [zips] at h
  | x :: xs, y :: ys, 0, d, h => by simp [zips] at h; exact ⟨x, y, rfl, rfl, h.symm⟩
  | x :: xs, y :: ys, i + 1, d, h => by
    obtain ⟨x', y', h1, h2, h3⟩ := zips_get (i := i) (by simpa [zips] using h)
    exact ⟨x', y', by simpa using h1, by simpa using h2, h3⟩
theorem ji_zip {elts : List Expr} {kk : Nat} {tpos p : Pos} (hm : c.X.mg "zip" = none) (h : JE c a ρ S fun x S1 => JE c b ρ S1 fun y S2 => ∃ xs ys, x = .fl xs ∧ y = .fl ys ∧ R (zips xs ys) (fun _ => True) S2) (hg : Gl c.X "zip" := by rfl)
    (hs1 : starEach [a, b] c.X.env = (false, eval a c.X.env) :: starEach [b] c.X.env := by rfl) (hs2 : starEach [b] c.X.env = (false, eval b c.X.env) :: starEach [] c.X.env := by rfl) (hpl : (backTo pos (starEach [b] c.X.env)).any (·.1) = false := by rfl) : JI c (.Tuple elts kk tpos) (.Call (.Name "zip" p) [a, b] [] pos) ρ S R :=
  JI.of (pi_zip hg hm (pa_cons PEt (pa_cons PEt pa_nil hs2) hs1) hs1 hpl) fun σ H ds => h.then ds fun x S1 v H1 r1 d1 s1 h1 => h1.then d1 fun y S2 w H2 r2 d2 s2 ⟨xs, ys, e1, e2, q⟩ => by
    subst e1 e2
    obtain ⟨a, vs, rfl, h1, h2⟩ := rep_fl.mp (r1.mono s2)
    obtain ⟨b, ws, rfl, h3, h4⟩ := rep_fl.mp r2
    refine ⟨a, b, vs, ws, rfl, sub_im.l h1, sub_im.l h3, _, _, S2, d2.sim, s1.trans s2, fun H3 S3 m3 st _ i => ⟨fun d hd => ?_, fun hle hl => ?_⟩, q⟩
    · have hs : SqL c.X.K H3 a vs := sub_im.l (Sub.l st h1)
      have hs' : SqL c.X.K H3 b ws := sub_im.l (Sub.l st h3)
      obtain ⟨x0, y0, e1, e2, e3⟩ := zips_get hd
      subst e3
      obtain ⟨z, hz, rz⟩ := h2.get e1
      obtain ⟨z', hz', rz'⟩ := h4.get e2
      refine ⟨⟨vs, ws, z, z', hs, hs', hz, hz'⟩, fun x H' y => ?_⟩
      obtain ⟨T, u, u', q1, q2, q3, q4, q5⟩ := y
      have t1 := q4 vs hs
      rw [hz] at t1; cases t1
      have t2 := q5 ws hs'
      rw [hz'] at t2; cases t2
      rw [q1]
      exact pair_ok m3 q2 q3 (rz.mono st) (rz'.mono st)
    · refine ⟨vs, ws, sub_im.l (Sub.l st h1), sub_im.l (Sub.l st h3), ?_⟩
      rw [zips_len, h2.length, h4.length] at hle
      omega

/-! ### for -/
/-- the loop: an invariant by the turn -/
def ForD (c : Ctx) (tg : Expr) (body : List Stmt) (nx : NK) (rt : RK) (ρ : DEnv) (ds : List D) (Cnd : SS → Prop) (S : SS) : Prop := ∃ Iv : Nat → DEnv → SS → Prop, Iv 0 ρ S ∧ (∀ i ρ' S', Iv i ρ' S' → Cnd S') ∧
  (∀ i d ρ' S', ds[i]? = some d → Iv i ρ' S' → JG c tg d ρ' S' fun ρ2 S2 => JSs c body ρ2 S2 (Iv (i + 1)) rt nx (Iv (i + 1))) ∧ (∀ ρ' S', Iv ds.length ρ' S' → nx ρ' S')
theorem js_for (h : JI c tg iter ρ S (ForD c tg body nx rt ρ)) (po : PassesOwn (model c.X.prog c.X.w) c.X.A c.X.env c.X.xe) (hc : c.X.calm = true := by rfl) (hs : ∀ x, foldedSetIterable iter c.X.env x = pure x := by intro _; rfl) : JS c (.For tg iter body [] pos) ρ S nx rt bk ct :=
  JS.of (ps_for po hc PIt PGt PSst hs) fun σ H dst pins s I => by
    refine thn (h σ H dst pins s I) fun v s1 h1 => thn h1 fun itv s2 hp => ?_
    obtain ⟨it, fp, tn, J, H1, e, I2, T, st2, f2, ds, Cnd, S1, m1, s1', ok, Iv, i0, icn, turn, fin⟩ := hp
    refine ⟨it, fp, tn, J, H1, e, I2, T, st2, f2, fun i m σ' H' => m = ds.length - i ∧ i ≤ ds.length ∧ ∃ ρ' S', Ds c σ' H' ρ' S' ∧ Stp H1 S1 H' S' ∧ Iv i ρ' S', ⟨ds.length, by simp, Nat.zero_le _, ρ, S1, dst.step m1 s1', Stp.refl, i0⟩, ?_⟩
    rintro i m σ3 H3 ⟨rfl, hi, ρ3, S3, d3, s3, v3⟩
    have ok3 := ok H3 S3 d3.sim s3 (icn i ρ3 S3 v3) i
    by_cases hlt : i < ds.length
    · obtain ⟨go, yld⟩ := ok3.1 _ (List.getElem?_eq_getElem hlt)
      refine .inr ⟨go, fun σ' H' => i + 1 ≤ ds.length ∧ ∃ ρ' S', Ds c σ' H' ρ' S' ∧ Stp H1 S1 H' S' ∧ Iv (i + 1) ρ' S', fun σ' H' ⟨q1, q2⟩ => ⟨ds.length - (i + 1), by omega, rfl, q1, q2⟩, fun x H4 y => ?_⟩
      obtain ⟨r4, m4, s4⟩ := yld x H4 y
      refine tGt_mono (turn i _ ρ3 S3 (List.getElem?_eq_getElem hlt) v3 σ3 H4 x (d3.step m4 s4) r4) fun σ5 H5 ⟨ρ5, S5, sl5, m5, s5, q5⟩ => ?_
      have d5 : Ds c σ5 H5 ρ5 S5 := ((d3.step m4 s4).step m5 s5).slots sl5
      have st5 : Stp H1 S1 H5 S5 := (s3.trans s4).trans s5
      refine tSs_mono (q5 σ5 H5 d5) ⟨fun σ6 H6 ⟨ρ6, S6, sl6, m6, s6, q6⟩ => ⟨hlt, ρ6, S6, (d5.step m6 s6).slots sl6, st5.trans s6, q6⟩, fun v H6 q6 => pst_step (s1'.trans st5) q6, fun σ6 H6 q6 => pstN_step (s1'.trans st5) q6,
        fun σ6 H6 ⟨ρ6, S6, sl6, m6, s6, q6⟩ => ⟨hlt, ρ6, S6, (d5.step m6 s6).slots sl6, st5.trans s6, q6⟩⟩
    · have e : i = ds.length := by omega
      refine .inl ⟨ok3.2 (by omega) e, ?_⟩
      subst e
      exact ⟨ρ3, S3, d3.sl, d3.sim, s1'.trans s3, fin ρ3 S3 v3⟩
/-- the invariant over what is left to do -/
theorem ForD.todo {tg : Expr} {ds : List D} {Cnd : SS → Prop} (Iv : List D → DEnv → SS → Prop) (h0 : Iv ds ρ S) (hc : ∀ r ρ' S', Iv r ρ' S' → Cnd S')
    (hs : ∀ d r ρ' S', Iv (d :: r) ρ' S' → JG c tg d ρ' S' fun ρ2 S2 => JSs c body ρ2 S2 (Iv r) rt nx (Iv r)) (hd : ∀ ρ' S', Iv [] ρ' S' → nx ρ' S') : ForD c tg body nx rt ρ ds Cnd S := by
  refine ⟨fun i => Iv (ds.drop i), h0, fun i ρ' S' q => hc _ ρ' S' q, fun i d ρ' S' hd' q => ?_, fun ρ' S' q => hd ρ' S' (by have q' : Iv (ds.drop ds.length) ρ' S' := q; rw [List.drop_length] at q'; exact q')⟩
  obtain ⟨hi, e⟩ := List.getElem?_eq_some_iff.mp hd'
  have e1 : ds.drop i = d :: ds.drop (i + 1) := by rw [← e]; exact List.drop_eq_getElem_cons hi
  have q' : Iv (ds.drop i) ρ' S' := q
  rw [e1] at q'
  exact hs d _ ρ' S' q'
/-- while: an invariant with a number that falls -/
theorem js_while (Iv : Nat → DEnv → SS → Prop) (n0 : Nat) (h0 : Iv n0 ρ S)
    (hs : ∀ n ρ' S', Iv n ρ' S' → JT c e ρ' S' fun k S1 => if k = true then JSs c body ρ' S1 (fun ρ2 S2 => ∃ m, m < n ∧ Iv m ρ2 S2) rt nx (fun ρ2 S2 => ∃ m, m < n ∧ Iv m ρ2 S2) else nx ρ' S1)
    (po : PassesOwn (model c.X.prog c.X.w) c.X.A c.X.env c.X.xe) : JS c (.While e body [] pos) ρ S nx rt bk ct :=
  JS.of (ps_while po PTt PSst) fun σ H dst => by
    refine ⟨fun m σ' H' => ∃ ρ' S', Ds c σ' H' ρ' S' ∧ Stp H S H' S' ∧ Iv m ρ' S', ⟨n0, ρ, S, dst, Stp.refl, h0⟩, ?_⟩
    rintro m σ3 H3 ⟨ρ3, S3, d3, s3, v3⟩
    refine (hs m ρ3 S3 v3).then d3 fun k S4 H4 d4 s4 q => ?_
    cases k with
    | true =>
      rw [if_pos rfl] at q ⊢
      refine ⟨fun σ' H' => ∃ ρ' S', Ds c σ' H' ρ' S' ∧ Stp H S H' S' ∧ ∃ m', m' < m ∧ Iv m' ρ' S', fun σ' H' ⟨ρ', S', d', s', m', hm, v'⟩ => ⟨m', hm, ρ', S', d', s', v'⟩, ?_⟩
      exact tSs_mono (q σ3 H4 d4) ⟨fun σ6 H6 ⟨ρ6, S6, sl6, m6, s6, q6⟩ => ⟨ρ6, S6, (d4.step m6 s6).slots sl6, (s3.trans s4).trans s6, q6⟩, fun v H6 q6 => pst_step (s3.trans s4) q6, fun σ6 H6 q6 => pstN_step (s3.trans s4) q6,
        fun σ6 H6 ⟨ρ6, S6, sl6, m6, s6, q6⟩ => ⟨ρ6, S6, (d4.step m6 s6).slots sl6, (s3.trans s4).trans s6, q6⟩⟩
    | false =>
      rw [if_neg Bool.false_ne_true] at q ⊢
      exact ⟨ρ3, S4, d4.sl, d4.sim, s3.trans s4, q⟩

/-! ### list comprehensions -/
def blkC (c : Ctx) (s : Shared) (H : Hp) (scope : Scope) (C : Addr) (cl : List (Str × Addr)) (fp : List Addr) : Ctx where
  X := c.X.blk s H scope (compEnvC scope cl C c.X.env) fp
  W := fun _ _ _ _ => False
  tk := takes0
  DX := fun _ _ _ _ => False
def wipeD (ρ : DEnv) : List Nat → DEnv
  | [] => ρ
  | v :: vs => (wipeD ρ vs).set v none
theorem Sl.wipes {K : PySem.W.Frag} {H : Hp} {σ : L2.St} (h : Sl K H S σ ρ) : ∀ vs : List Nat, Sl K H S (L2.wipe σ vs) (wipeD ρ vs)
  | [] => h
  | v :: vs => (h.wipes vs).wipe v
/-- the tests of a comprehension -/
def JTs (c : Ctx) (ifs : List Expr) (ρ : DEnv) (S : SS) (QT : Bool → SS → Prop) : Prop := match ifs with
  | [] => QT true S
  | [t] => JT c t ρ S QT
  | _ => False
def tTs (X : Cx) (ifs : List Expr) : TT := fun σ H R => match ifs with
  | [] => R true H
  | [t] => tT X t σ H R
  | _ => False
theorem PTst {X : Cx} {ifs : List Expr} : PTs X ifs (tTs X ifs) := by
  match ifs with
  | [] => exact pts_nil
  | [t] => exact pts_one PTt
  | _ :: _ :: _ => exact ⟨fun pins s σ H Q I h => False.elim h⟩
theorem JTs.then {ifs : List Expr} {QT : Bool → SS → Prop} {σ : L2.St} {H : Hp} {R : Bool → Hp → Prop} (h : JTs c ifs ρ S QT) (ds : Ds c σ H ρ S) (k : ∀ b S' H', Ds c σ H' ρ S' → Stp H S H' S' → QT b S' → R b H') : tTs c.X ifs σ H R := by
  match ifs, h with
  | [], h => exact k true S H ds Stp.refl h
  | [t], h => exact JT.then h ds k
end
/-- a target: a name, or a tuple of names -/
inductive Pat where
  | n (i : Nat) | t (is : List Nat)
def gNs : List Nat → TGs
  | [] => gNil
  | i :: is => gCons (gName i) (gNs is)
def gPat (K : PySem.W.Frag) : Pat → TG
  | .n i => gName i
  | .t is => gTup K is.length (gNs is)
def Pat.slots : Pat → List Nat
  | .n i => [i]
  | .t is => is
def setN (ρ : DEnv) : List Nat → List D → DEnv
  | i :: is, d :: ds => setN (ρ.set i (some d)) is ds
  | _, _ => ρ
def bindP : Pat → D → DEnv → Option DEnv
  | .n i, d, ρ => some (ρ.set i (some d))
  | .t is, .tup ds, ρ => if ds.length = is.length then some (setN ρ is ds) else none
  | _, _, _ => none
theorem set_none_comm {σ : L2.St} {i j : Nat} {x : Option V} (h : j ≠ i) : (σ.set i x).set j none = (σ.set j none).set i x := List.set_comm x none (fun e => h e.symm)
theorem wipe_set {σ : L2.St} {i : Nat} {x : Option V} : ∀ {vs : List Nat}, i ∈ vs → wipe (σ.set i x) vs = wipe σ vs
  | [], h => absurd h (by simp)
  | v :: vs, h => by
    unfold wipe
    by_cases hv : v = i
    · subst hv
      by_cases hm : v ∈ vs
      · rw [wipe_set hm]
      · have key : ∀ us : List Nat, v ∉ us → wipe (σ.set v x) us = (wipe σ us).set v x := fun us => by
          induction us with
          | nil => intro _; rfl
          | cons u us ih =>
            intro hu
            unfold wipe
            rw [ih fun z => hu (List.mem_cons_of_mem _ z), set_none_comm fun z => hu (by rw [z]; exact List.mem_cons_self)]
        rw [key vs hm, List.set_set]
    · have hm : i ∈ vs := by
        rcases List.mem_cons.mp h with e | e
        · exact absurd e.symm hv
        · exact e
      rw [wipe_set hm]
theorem gNs_ok {K : PySem.W.Frag} {H : Hp} {S : SS} {ws : List Nat} {R : L2.St → Hp → Prop} : ∀ {is : List Nat} {ds : List D} {vs : List V} {σ : L2.St} {ρ : DEnv}, Sl K H S σ ρ → Reps K (im H S) ds vs → ds.length = is.length → (∀ i ∈ is, i ∈ ws) →
    (∀ σ2, Sl K H S σ2 (setN ρ is ds) → wipe σ2 ws = wipe σ ws → R σ2 H) → gNs is vs σ H R
  | [], [], vs, σ, ρ, sl, r, hl, hw, k => by
    unfold Reps at r
    exact ⟨r, k σ sl rfl⟩
  | [], _ :: _, _, _, _, _, _, hl, _, _ => by simp at hl
  | _ :: _, [], _, _, _, _, _, hl, _, _ => by simp at hl
  | i :: is, d :: ds, vs, σ, ρ, sl, r, hl, hw, k => by
    unfold Reps at r
    obtain ⟨v, t, e, r1, r2⟩ := r
    refine ⟨v, t, e, ?_⟩
    refine gNs_ok (σ := σ.set i (some v)) (ρ := ρ.set i (some d)) (sl.set r1) r2 (by simpa using hl) (fun j hj => hw j (List.mem_cons_of_mem _ hj)) fun σ2 s2 w2 => k σ2 s2 ?_
    rw [w2, wipe_set (hw i List.mem_cons_self)]
theorem bind_ok {K : PySem.W.Frag} {H : Hp} {S : SS} {ws : List Nat} {R : L2.St → Hp → Prop} {pat : Pat} {d : D} {v : V} {σ : L2.St} {ρ ρ2 : DEnv} (sl : Sl K H S σ ρ) (r : Rep K (im H S) d v) (h : bindP pat d ρ = some ρ2) (hw : ∀ i ∈ pat.slots, i ∈ ws)
    (k : ∀ σ2, Sl K H S σ2 ρ2 → wipe σ2 ws = wipe σ ws → R σ2 H) : gPat K pat v σ H R := by
  cases pat with
  | n i =>
    cases h
    exact k _ (sl.set r) (wipe_set (hw i List.mem_cons_self))
  | t is =>
    cases d with
    | tup ds =>
      have h' : (if ds.length = is.length then some (setN ρ is ds) else none) = some ρ2 := h
      by_cases hl : ds.length = is.length
      · rw [if_pos hl] at h'
        cases h'
        obtain ⟨a, vs, rfl, h1, h2⟩ := tup_sq r
        exact ⟨a, vs, rfl, h1, by rw [← h2.length, hl], gNs_ok sl h2 hl hw k⟩
      · rw [if_neg hl] at h'
        cases h'
    | _ => cases h
section
variable {c : Ctx} {tg iter elt : Expr} {ifs : List Expr} {scope : Scope} {ρ : DEnv} {S : SS} {Q : D → SS → Prop} {pos : Pos} {nx bk ct : NK} {rt : RK}
/-- a comprehension's turns: an invariant by the turn and the items so far; the store without the new list -/
def CompD (c : Ctx) (pat : Pat) (elt : Expr) (ifs : List Expr) (scope : Scope) (vs : List Nat) (ρ : DEnv) (Qf : Addr → List D → SS → Prop) (ds : List D) (Cnd : SS → Prop) (S : SS) : Prop := ∃ Iv : Nat → List D → SS → Prop, Iv 0 [] S ∧ ds.length < sizeLine ∧
  (∀ i acc S' Dl, S' Dl = none → Iv i acc S' → Cnd (sup S' Dl (.lst acc)) ∧ acc.length ≤ i) ∧
  (∀ (Dl : Addr) (i : Nat) (d : D) (acc : List D) (S' : SS), S' Dl = none → ds[i]? = some d → Iv i acc S' → ∃ ρ2, bindP pat d (wipeD ρ vs) = some ρ2 ∧
      ∀ (s : Shared) (H : Hp) (C : Addr) (cl : List (Str × Addr)) (fp : List Addr), JTs (blkC c s H scope C cl fp) ifs ρ2 (sup S' Dl (.lst acc)) fun k S3 => if k = true then
          ∀ (s : Shared) (H : Hp) (C : Addr) (cl : List (Str × Addr)) (fp : List Addr), JE (blkC c s H scope C cl fp) elt ρ2 S3 fun y S4 => S4 Dl = some (.lst acc) ∧ Iv (i + 1) (acc ++ [y]) (sdel S4 Dl)
        else S3 Dl = some (.lst acc) ∧ Iv (i + 1) acc (sdel S3 Dl)) ∧
  ∀ acc S' Dl, S' Dl = none → Iv ds.length acc S' → Qf Dl acc S'
theorem sup_sdel {S : SS} {a : Addr} {o : MO} : sup (sdel S a) a o = sup S a o := by
  funext b; unfold sup sdel; split <;> rfl
theorem sup_self {S : SS} {a : Addr} {o : MO} (h : S a = some o) : sup S a o = S := by
  funext b; unfold sup; split
  · rename_i e; subst e; exact h.symm
  · rfl
/-- what a list comprehension's reading asks -/
theorem lc_ok {pat : Pat} {vs : List Nat} {Qf : Addr → List D → SS → Prop} {R : VK} {σ : L2.St} {H : Hp} (hi : JI c tg iter ρ S (CompD c pat elt ifs scope vs ρ Qf)) (hw : ∀ i ∈ pat.slots, i ∈ vs) (dst : Ds c σ H ρ S)
    (hR : ∀ Dl acc S' H', S' Dl = none → Qf Dl acc S' → Sim c.X.K H' (sup S' Dl (.lst acc)) → Stp H S H' (sup S' Dl (.lst acc)) → R (.ref Dl) H') :
    tLc (tIt c.X tg iter) (gPat c.X.K pat) (fun σ H R => ∀ (s : Shared) (H0 : Hp) (C : Addr) (cl : List (Str × Addr)) (fp : List Addr), tTs (c.X.blk s H0 scope (compEnvC scope cl C c.X.env) fp) ifs σ H R)
      (fun σ H R => ∀ (s : Shared) (H0 : Hp) (C : Addr) (cl : List (Str × Addr)) (fp : List Addr), tE (c.X.blk s H0 scope (compEnvC scope cl C c.X.env) fp) elt σ H R) vs σ H R := by
  intro pins s I
  refine thn (hi σ H dst pins s I) fun v s1 h1 => thn h1 fun itv s2 hp => ?_
  obtain ⟨it, fp, tn, J, H1, e, I2, T, st2, f2, ds, Cnd, S1, m1, s1', ok, Iv, i0, hsz, icn, turn, fin⟩ := hp
  refine ⟨it, fp, tn, J, H1, e, I2, T, st2, f2, fun Dl hDl => ?_⟩
  have hS1 : S1 Dl = none := m1.free hDl
  obtain ⟨sN, mN⟩ := m1.newM (o := .lst []) (m := .lst []) hDl fun H' S' sb e => ⟨[], e, Reps.nil⟩
  refine ⟨fun i m H' => m = ds.length - i ∧ i ≤ ds.length ∧ ∃ acc S', S' Dl = none ∧ Sim c.X.K H' (sup S' Dl (.lst acc)) ∧ Stp H1 S1 H' (sup S' Dl (.lst acc)) ∧ Iv i acc S', ⟨ds.length, by simp, Nat.zero_le _, [], S1, hS1, mN, sN, i0⟩, ?_⟩
  rintro i m H3 ⟨rfl, hi', acc, S3, n3, m3, s3, v3⟩
  obtain ⟨cn3, al3⟩ := icn i acc S3 Dl n3 v3
  have ok3 := ok H3 _ m3 s3 cn3 i
  by_cases hlt : i < ds.length
  · have hd := List.getElem?_eq_getElem hlt
    obtain ⟨go, yld⟩ := ok3.1 _ hd
    refine .inr ⟨go, fun H' => i + 1 ≤ ds.length ∧ ∃ acc S', S' Dl = none ∧ Sim c.X.K H' (sup S' Dl (.lst acc)) ∧ Stp H1 S1 H' (sup S' Dl (.lst acc)) ∧ Iv (i + 1) acc S', fun H' ⟨q1, q2⟩ => ⟨ds.length - (i + 1), by omega, rfl, q1, q2⟩, fun x H4 y => ?_⟩
    obtain ⟨r4, m4, s4⟩ := yld x H4 y
    obtain ⟨ρ2, hb, jts⟩ := turn Dl i _ acc S3 n3 hd v3
    have slw : Sl c.X.K H4 (sup S3 Dl (.lst acc)) (wipe σ vs) (wipeD ρ vs) := ((dst.sl.step s1').step (s3.trans s4)).wipes vs
    have key : ∀ us : List Nat, (∀ u ∈ us, u ∈ vs) → wipe (wipe σ us) vs = wipe σ vs := fun us => by
      induction us with
      | nil => intro _; rfl
      | cons u us ih =>
        intro hu
        rw [wipe, wipe_set (hu u List.mem_cons_self), ih fun z hz => hu z (List.mem_cons_of_mem _ hz)]
    refine bind_ok slw r4 hb hw fun σ2 sl2 w2 => ⟨by rw [w2, key vs fun _ h => h], ?_⟩
    intro sB HB CB clB fpB
    have jt := jts sB HB CB clB fpB
    have d2 : Ds (blkC c sB HB scope CB clB fpB) σ2 H4 ρ2 (sup S3 Dl (.lst acc)) := ⟨sl2, m4, fun _ _ _ _ _ _ z => z.elim⟩
    refine jt.then d2 fun k S5 H5 d5 s5 q5 => ?_
    have st5 : Stp H1 S1 H5 S5 := (s3.trans s4).trans s5
    cases k with
    | false =>
      rw [if_neg Bool.false_ne_true] at q5 ⊢
      refine ⟨hlt, acc, sdel S5 Dl, sdel_same, ?_, ?_, q5.2⟩
      · rw [sup_sdel, sup_self q5.1]; exact d5.sim
      · rw [sup_sdel, sup_self q5.1]; exact st5
    | true =>
      rw [if_pos rfl] at q5 ⊢
      intro sC HC CC clC fpC
      have d5' : Ds (blkC c sC HC scope CC clC fpC) σ2 H5 ρ2 S5 := ⟨d5.sl, d5.sim, fun _ _ _ _ _ _ z => z.elim⟩
      refine (q5 sC HC CC clC fpC).then d5' fun y S6 w H6 r6 d6 s6 ⟨e6, q6⟩ => ?_
      obtain ⟨ws, hws, rws⟩ := d6.sim Dl _ e6
      obtain ⟨st7, sm7⟩ := d6.sim.write (o := .lst (ws ++ [w])) (m := .lst (acc ++ [y])) e6 fun H' S' sb e => ⟨_, e, (rws.mono sb).append (Reps.cons (r6.mono sb) Reps.nil)⟩
      have hl := rws.length
      refine ⟨ws, hws, by omega, hlt, acc ++ [y], sdel S6 Dl, sdel_same, ?_, ?_, q6⟩
      · rw [sup_sdel]; exact sm7
      · rw [sup_sdel]; exact (st5.trans s6).trans st7
  · have e : i = ds.length := by omega
    refine .inl ⟨ok3.2 (by omega) e, ?_⟩
    subst e
    exact hR Dl acc S3 H3 n3 (fin acc S3 Dl n3 v3) m3 (s1'.trans s3)
theorem lc_pts (X : Cx) : ∀ (s : Shared) (H : Hp) (C : Addr) (cl : List (Str × Addr)) (fp : List Addr), PTs (X.blk s H scope (compEnvC scope cl C X.env) fp) ifs (fun σ H R => ∀ (s : Shared) (H0 : Hp) (C : Addr) (cl : List (Str × Addr)) (fp : List Addr), tTs (X.blk s H0 scope (compEnvC scope cl C X.env) fp) ifs σ H R) :=
  fun s H C cl fp => ⟨fun pins s' σ H' Q I h => PTst.run pins s' σ H' Q I (h s H C cl fp)⟩
theorem lc_pe (X : Cx) : ∀ (s : Shared) (H : Hp) (C : Addr) (cl : List (Str × Addr)) (fp : List Addr), PE (X.blk s H scope (compEnvC scope cl C X.env) fp) elt (fun σ H R => ∀ (s : Shared) (H0 : Hp) (C : Addr) (cl : List (Str × Addr)) (fp : List Addr), tE (X.blk s H0 scope (compEnvC scope cl C X.env) fp) elt σ H R) :=
  fun s H C cl fp => ⟨fun pins s' σ H' Q I h => h s H C cl fp pins s' I⟩
/-- the target of a comprehension -/
def LcT (c : Ctx) (scope : Scope) (tg : Expr) (pat : Pat) : Prop := ∀ (s : Shared) (H : Hp) (C : Addr) (cl : List (Str × Addr)) (fp : List Addr), PG (c.X.blk s H scope (compEnvC scope cl C c.X.env) fp) tg (gPat c.X.K pat)
variable {pat : Pat} {own : List (Str × Nat)}
/-- [..]: a list that never changes -/
theorem je_lc (pat : Pat) (own : List (Str × Nat)) (hN : c.X.N.Nodup) (h : JI c tg iter ρ S (CompD c pat elt ifs scope (own.map (·.2)) ρ fun _ acc S' => Q (.fl acc) S')) (hg : LcT c scope tg pat) (ok : L2.blkC c.X.N c.X.env.scope scope own = true) (hw : pat.slots.all (fun i => (own.map (·.2)).contains i) = true := by rfl)
    (hc : c.X.calm = true := by rfl) (hs : ∀ x, foldedSetIterable iter c.X.env x = pure x := by intro _; rfl) : JE c (.ListComp elt [⟨tg, iter, ifs, 0⟩] scope pos) ρ S Q :=
  JE.of (pe_lc hc hN PIt (blkOk_by ok) hg (lc_pts c.X) (lc_pe c.X) hs) fun σ H dst => lc_ok h (fun i hi => by simpa using List.all_eq_true.mp hw i hi) dst fun Dl acc S' H' hn q m st => by
    obtain ⟨st2, m2⟩ := m.freeze (a := Dl)
    rw [sdel_sup hn] at st2 m2
    obtain ⟨vs, e1, e2⟩ := m Dl _ sup_same
    exact ⟨.fl acc, S', rep_fl.mpr ⟨Dl, vs, rfl, SqL.of (im_of hn e1), e2.mono st2⟩, m2, st.trans st2, q⟩
/-- [..]: a list of the store -/
theorem je_lcM (pat : Pat) (own : List (Str × Nat)) (hN : c.X.N.Nodup) (h : JI c tg iter ρ S (CompD c pat elt ifs scope (own.map (·.2)) ρ fun Dl acc S' => Q (.ref Dl) (sup S' Dl (.lst acc)))) (hg : LcT c scope tg pat) (ok : L2.blkC c.X.N c.X.env.scope scope own = true) (hw : pat.slots.all (fun i => (own.map (·.2)).contains i) = true := by rfl)
    (hc : c.X.calm = true := by rfl) (hs : ∀ x, foldedSetIterable iter c.X.env x = pure x := by intro _; rfl) : JE c (.ListComp elt [⟨tg, iter, ifs, 0⟩] scope pos) ρ S Q :=
  JE.of (pe_lc hc hN PIt (blkOk_by ok) hg (lc_pts c.X) (lc_pe c.X) hs) fun σ H dst => lc_ok h (fun i hi => by simpa using List.all_eq_true.mp hw i hi) dst fun Dl acc S' H' hn q m st => ⟨.ref Dl, _, rep_ref.mpr rfl, m, st, q⟩
theorem sw_comp {y : Str} {py : Pos} {l : Nat} (hk : c.X.env.scope.kind = .function) (hy : c.X.env.scope.names.lookup y = some .local) (hl : (py.line == pos.line) = true) (ha : (scope.names.any fun (n, k) => n == y && (k == .local || k == .cell)) = false) {gs : List Comprehension} :
    swapsWith (.ListComp elt gs scope pos) (some (.Name y py)) l c.X.env = pure true := sw_true hk hy hl ha
/-- name = [..] -/
theorem js_setLc (pat : Pat) (own : List (Str × Nat)) (i : Nat) {y : Str} {py spos : Pos} (hN : c.X.N.Nodup) (hy : c.X.N[i]? = some y) (hyl : c.X.env.scope.names.lookup y = some .local) (h : JI c tg iter ρ S (CompD c pat elt ifs scope (own.map (·.2)) ρ fun _ acc S' => nx (ρ.set i (some (.fl acc))) S')) (hg : LcT c scope tg pat) (ok : L2.blkC c.X.N c.X.env.scope scope own = true)
    (hsw : swapsWith (.ListComp elt [⟨tg, iter, ifs, 0⟩] scope pos) (some (.Name y py)) spos.line c.X.env = pure true) (hw : pat.slots.all (fun i => (own.map (·.2)).contains i) = true := by rfl)
    (hc : c.X.calm = true := by rfl) (hs : ∀ x, foldedSetIterable iter c.X.env x = pure x := by intro _; rfl) : JS c (.Assign [.Name y py] (.ListComp elt [⟨tg, iter, ifs, 0⟩] scope pos) spos) ρ S nx rt bk ct :=
  JS.of (ps_setLc hc hN hy hyl hsw PIt (blkOk_by ok) hg (lc_pts c.X) (lc_pe c.X) hs) fun σ H dst => lc_ok h (fun i hi => by simpa using List.all_eq_true.mp hw i hi) dst fun Dl acc S' H' hn q m st => by
    obtain ⟨st2, m2⟩ := m.freeze (a := Dl)
    rw [sdel_sup hn] at st2 m2
    obtain ⟨vs, e1, e2⟩ := m Dl _ sup_same
    exact ⟨ρ.set i (some (.fl acc)), S', (dst.sl.step (st.trans st2)).set (rep_fl.mpr ⟨Dl, vs, rfl, SqL.of (im_of hn e1), e2.mono st2⟩), m2, st.trans st2, q⟩
theorem js_setLcM (pat : Pat) (own : List (Str × Nat)) (i : Nat) {y : Str} {py spos : Pos} (hN : c.X.N.Nodup) (hy : c.X.N[i]? = some y) (hyl : c.X.env.scope.names.lookup y = some .local) (h : JI c tg iter ρ S (CompD c pat elt ifs scope (own.map (·.2)) ρ fun Dl acc S' => nx (ρ.set i (some (.ref Dl))) (sup S' Dl (.lst acc)))) (hg : LcT c scope tg pat) (ok : L2.blkC c.X.N c.X.env.scope scope own = true)
    (hsw : swapsWith (.ListComp elt [⟨tg, iter, ifs, 0⟩] scope pos) (some (.Name y py)) spos.line c.X.env = pure true) (hw : pat.slots.all (fun i => (own.map (·.2)).contains i) = true := by rfl)
    (hc : c.X.calm = true := by rfl) (hs : ∀ x, foldedSetIterable iter c.X.env x = pure x := by intro _; rfl) : JS c (.Assign [.Name y py] (.ListComp elt [⟨tg, iter, ifs, 0⟩] scope pos) spos) ρ S nx rt bk ct :=
  JS.of (ps_setLc hc hN hy hyl hsw PIt (blkOk_by ok) hg (lc_pts c.X) (lc_pe c.X) hs) fun σ H dst => lc_ok h (fun i hi => by simpa using List.all_eq_true.mp hw i hi) dst fun Dl acc S' H' hn q m st => ⟨ρ.set i (some (.ref Dl)), _, (dst.sl.step st).set (rep_ref.mpr rfl), m, st, q⟩
/-- elements that leave the store alone: f of each item that t lets through -/
theorem CompD.pure {vs : List Nat} {Qf : Addr → List D → SS → Prop} {ds : List D} {Cnd : SS → Prop} (t : D → Bool) (f : D → D) (hsz : ds.length < sizeLine) (hcn : ∀ Dl acc, S Dl = none → Cnd (sup S Dl (.lst acc)))
    (turn : ∀ (d : D) (S' : SS), d ∈ ds → ∃ ρ2, bindP pat d (wipeD ρ vs) = some ρ2 ∧ ∀ (s : Shared) (H : Hp) (C : Addr) (cl : List (Str × Addr)) (fp : List Addr), JTs (blkC c s H scope C cl fp) ifs ρ2 S' fun k S3 => S3 = S' ∧ k = t d ∧ (k = true →
      ∀ (s : Shared) (H : Hp) (C : Addr) (cl : List (Str × Addr)) (fp : List Addr), JE (blkC c s H scope C cl fp) elt ρ2 S' fun y S4 => S4 = S' ∧ y = f d))
    (q : ∀ Dl, S Dl = none → Qf Dl ((ds.filter t).map f) S) : CompD c pat elt ifs scope vs ρ Qf ds Cnd S := by
  refine ⟨fun i acc S' => S' = S ∧ acc = ((ds.take i).filter t).map f, ⟨rfl, rfl⟩, hsz, fun i acc S' Dl hn ⟨e1, e2⟩ => ?_, fun Dl i d acc S' hn hd ⟨e1, e2⟩ => ?_, fun acc S' Dl hn ⟨e1, e2⟩ => ?_⟩
  · subst e1
    refine ⟨hcn Dl acc hn, ?_⟩
    rw [e2, List.length_map]
    exact Nat.le_trans (List.length_filter_le _ _) (by rw [List.length_take]; omega)
  · subst e1
    obtain ⟨ρ2, hb, h⟩ := turn d (sup S' Dl (.lst acc)) (List.mem_of_getElem? hd)
    refine ⟨ρ2, hb, fun s H C cl fp => ?_⟩
    have tk : ds.take (i + 1) = ds.take i ++ [d] := by
      obtain ⟨hi, e⟩ := List.getElem?_eq_some_iff.mp hd
      rw [List.take_add_one, hd]; rfl
    have weak : ∀ {QT QT' : Bool → SS → Prop}, (∀ k S3, QT k S3 → QT' k S3) → JTs (blkC c s H scope C cl fp) ifs ρ2 (sup S' Dl (.lst acc)) QT → JTs (blkC c s H scope C cl fp) ifs ρ2 (sup S' Dl (.lst acc)) QT' := fun {QT QT'} w h => by
      match ifs, h with
      | [], h => exact w _ _ h
      | [t'], h => exact fun σ H ds => tT_mono (h σ H ds) fun v H' ⟨S', m, s, q⟩ => ⟨S', m, s, w _ _ q⟩
    refine weak (fun k S3 ⟨e3, e4, e5⟩ => ?_) (h s H C cl fp)
    subst e3
    cases k with
    | true =>
      rw [if_pos rfl]
      intro s H C cl fp
      refine (e5 rfl s H C cl fp).mono fun y S4 ⟨e6, e7⟩ => ?_
      subst e6 e7
      refine ⟨sup_same, sdel_sup hn, ?_⟩
      rw [tk, List.filter_append, List.map_append, ← e2, List.filter_cons, if_pos e4.symm]; rfl
    | false =>
      rw [if_neg Bool.false_ne_true]
      refine ⟨sup_same, sdel_sup hn, ?_⟩
      rw [tk, List.filter_append, List.map_append, ← e2, List.filter_cons, if_neg (by rw [← e4]; exact Bool.false_ne_true)]
      simp
  · subst e1
    rw [e2, List.take_length]
    exact q Dl hn
end
end DP

namespace DP
open PySem L2

/-! ### names of a def, short -/
structure Nv (c : Ctx) (i : Nat) (x : Str) : Prop where
  at_ : c.X.N[i]? = some x
  vis : Vis c.X.env.scope x
  db : (x == ("__debug__" : Str)) = false
  cd : (x == ("__classdict__" : Str)) = false
structure Nm (c : Ctx) (i : Nat) (x : Str) : Prop where
  at_ : c.X.N[i]? = some x
  loc : Loc c.X.env.scope x
  fn : c.X.fn x = true ∨ c.X.env.scope.names.lookup x = some .local
  db : (x == ("__debug__" : Str)) = false
  cd : (x == ("__classdict__" : Str)) = false
theorem Nm.v {c : Ctx} {i : Nat} {x : Str} (n : Nm c i x) : Nv c i x := ⟨n.at_, n.loc.elim .inl fun h => .inr (.inl h), n.db, n.cd⟩
section
variable {c : Ctx} {e : Expr} {es : List Expr} {ρ : DEnv} {S : SS} {Q : D → SS → Prop} {pos : Pos} {nx bk ct : NK} {rt : RK}
theorem je_name {i : Nat} {x : Str} {d : D} (n : Nm c i x) (hd : ρ[i]? = some (some d)) (q : Q d S) : JE c (.Name x pos) ρ S Q := je_var i hd n.at_ n.v.vis q n.db n.cd
theorem je_namev {i : Nat} {x : Str} {d : D} (n : Nv c i x) (hd : ρ[i]? = some (some d)) (q : Q d S) : JE c (.Name x pos) ρ S Q := je_var i hd n.at_ n.vis q n.db n.cd
theorem js_st {i : Nat} {x : Str} {pos' : Pos} (n : Nm c i x) (nd : c.X.N.Nodup) (h : JE c e ρ S fun d S1 => nx (ρ.set i (some d)) S1) (hs : swapsWith e (some (.Name x pos')) pos.line c.X.env = pure false := by rfl) : JS c (.Assign [.Name x pos'] e pos) ρ S nx rt bk ct :=
  js_set i h nd n.at_ n.loc n.fn hs
theorem jg_nm {i : Nat} {x : Str} {y : D} (n : Nm c i x) (nd : c.X.N.Nodup) (q : nx (ρ.set i (some y)) S) : JG c (.Name x pos) y ρ S nx := jg_name i q nd n.at_ n.loc n.fn

/-! ### calls of what is built in -/
def tC (X : Cx) (f : Value) : List V → Hp → VK → Prop := fun vs H R => ∀ (pins : List (Addr × Obj)) (s : Shared) (σ : L2.St) (us : List Value), L2.Inv X pins σ H s → Vals vs us → wpAny (model X.prog X.w) X.A (call f us) (EP X pins σ R) X.xe s
theorem CallRt {X : Cx} {f : Value} : CallR X f (tC X f) := fun pins s σ H vs us Q I r h => h pins s σ us I r
def CD (c : Ctx) (f : Value) (ds : List D) (S : SS) (Q : D → SS → Prop) : Prop := ∀ H vs, Sim c.X.K H S → Reps c.X.K (im H S) ds vs → tC c.X f vs H (pst c.X.K H S Q)
theorem CD.of {f : Value} {ds : List D} {r : List V → Hp → VK → Prop} (h : CallR c.X f r) (k : ∀ H vs, Sim c.X.K H S → Reps c.X.K (im H S) ds vs → r vs H (pst c.X.K H S Q)) : CD c f ds S Q := fun H vs m rv pins s σ us I r => h pins s σ H vs us _ I r (k H vs m rv)
theorem tC_mono {X : Cx} {f : Value} {vs : List V} {H : Hp} {R R' : VK} (h : tC X f vs H R) (k : ∀ v H', R v H' → R' v H') : tC X f vs H R' := fun pins s σ us I r => thn (h pins s σ us I r) fun u s' ⟨v, H', I', r', q⟩ => ⟨v, H', I', r', k v H' q⟩
theorem je_callB {x : Str} {id : String} {p : Pos} (hm : c.X.mg x = none) (hv : bootBuiltins x = some (.builtin id)) (h : JA c (e :: es) ρ S fun ds S1 => CD c (.builtin id) ds S1 Q) (hg : Gl c.X x := by rfl) (hn : x ≠ "__name__" := by decide) (hdb : (x == ("__debug__" : Str)) = false := by decide)
    (he : starEach (e :: es) c.X.env = (false, eval e c.X.env) :: starEach es c.X.env := by rfl) (hpl : (backTo pos (starEach es c.X.env)).any (·.1) = false := by rfl) : JE c (.Call (.Name x p) (e :: es) [] pos) ρ S Q :=
  JE.of (pe_callB CallRt hg hm hv PAt hn hdb he hpl) fun σ H ds => h.then ds fun dsa S1 vs H1 r d1 s1 q => tC_mono (q H1 vs d1.sim r) fun v H' q => pst_step s1 q
theorem je_callTy {x : Str} {T : String} {p : Pos} (hm : c.X.mg x = none) (hv : bootBuiltins x = some (.type T)) (h : JA c (e :: es) ρ S fun ds S1 => CD c (.type T) ds S1 Q) (hg : Gl c.X x := by rfl) (hn : x ≠ "__name__" := by decide) (hdb : (x == ("__debug__" : Str)) = false := by decide)
    (he : starEach (e :: es) c.X.env = (false, eval e c.X.env) :: starEach es c.X.env := by rfl) (hpl : (backTo pos (starEach es c.X.env)).any (·.1) = false := by rfl) : JE c (.Call (.Name x p) (e :: es) [] pos) ρ S Q :=
  JE.of (pe_callTy CallRt hg hm hv PAt hn hdb he hpl) fun σ H ds => h.then ds fun dsa S1 vs H1 r d1 s1 q => tC_mono (q H1 vs d1.sim r) fun v H' q => pst_step s1 q
end
theorem reps1 {K : PySem.W.Frag} {G : Hp} {d : D} {vs : List V} (h : Reps K G [d] vs) : ∃ v, vs = [v] ∧ Rep K G d v := by
  unfold Reps at h
  obtain ⟨v, t, rfl, h1, h2⟩ := h
  unfold Reps at h2
  subst h2
  exact ⟨v, rfl, h1⟩
theorem reps2 {K : PySem.W.Frag} {G : Hp} {d e : D} {vs : List V} (h : Reps K G [d, e] vs) : ∃ v w, vs = [v, w] ∧ Rep K G d v ∧ Rep K G e w := by
  unfold Reps at h
  obtain ⟨v, t, rfl, h1, h2⟩ := h
  obtain ⟨w, rfl, h3⟩ := reps1 h2
  exact ⟨v, w, rfl, h1, h3⟩
section
variable {c : Ctx} {S : SS} {Q : D → SS → Prop} {x y : D} {i j : Int}
/-- a sequence: a list or a tuple -/
def IsQ (S : SS) (x : D) (xs : List D) : Prop := IsL S x xs ∨ x = .tup xs
theorem IsQ.sq {K : PySem.W.Frag} {H : Hp} {xs : List D} {v : V} (h : IsQ S x xs) (r : Rep K (im H S) x v) (s : Sim K H S) : ∃ a vs, v = .ref a ∧ (SqL K H a vs ∨ SqT K H a vs) ∧ Reps K (im H S) xs vs := by
  rcases h with h | rfl
  · obtain ⟨a, vs, e1, e2, e3⟩ := h.sq r s
    exact ⟨a, vs, e1, .inl e2, e3⟩
  · obtain ⟨a, vs, e1, e2, e3⟩ := tup_sq r
    exact ⟨a, vs, e1, .inr e2, e3⟩
theorem cd_len {xs : List D} (h : IsQ S x xs) (q : Q (.int (xs.length : Int)) S) : CD c (.builtin "len") [x] S Q :=
  CD.of call_len_seq fun H vs m r => by
    obtain ⟨v, rfl, r1⟩ := reps1 r
    obtain ⟨a, ws, rfl, e2, e3⟩ := h.sq r1 m
    exact ⟨a, ws, rfl, e2, pst_same m (rep_int.mpr (by rw [e3.length])) q⟩
theorem cd_lenS {z : Str} (h : z.length ≤ sizeLine) (q : Q (.int (z.length : Int)) S) : CD c (.builtin "len") [.str z] S Q :=
  CD.of call_len_str fun H vs m r => by
    obtain ⟨v, rfl, r1⟩ := reps1 r
    exact ⟨z, by rw [rep_str.mp r1], h, pst_same m (rep_int.mpr rfl) q⟩
theorem cd_abs (q : Q (.int (if i < 0 then -i else i)) S) : CD c (.builtin "abs") [.int i] S Q :=
  CD.of call_abs fun H vs m r => by
    obtain ⟨v, rfl, r1⟩ := reps1 r
    exact ⟨i, by rw [rep_int.mp r1], pst_same m (rep_int.mpr rfl) q⟩
theorem cd_min2 (hc : c.X.calm = true) (q : Q (.int (if j < i then j else i)) S) : CD c (.builtin "min") [.int i, .int j] S Q :=
  CD.of (call_min2 hc) fun H vs m r => by
    obtain ⟨v, w, rfl, r1, r2⟩ := reps2 r
    exact ⟨i, j, by rw [rep_int.mp r1, rep_int.mp r2], pst_same m (rep_int.mpr rfl) q⟩
theorem cd_max2 (hc : c.X.calm = true) (q : Q (.int (if j > i then j else i)) S) : CD c (.builtin "max") [.int i, .int j] S Q :=
  CD.of (call_max2 hc) fun H vs m r => by
    obtain ⟨v, w, rfl, r1, r2⟩ := reps2 r
    exact ⟨i, j, by rw [rep_int.mp r1, rep_int.mp r2], pst_same m (rep_int.mpr rfl) q⟩
theorem cd_int (q : Q (.int i) S) : CD c (.type "int") [.int i] S Q :=
  CD.of call_int1 fun H vs m r => by
    obtain ⟨v, rfl, r1⟩ := reps1 r
    exact .inl ⟨i, by rw [rep_int.mp r1], pst_same m (rep_int.mpr rfl) q⟩
theorem cd_list {xs : List D} (h : IsQ S x xs) (q : Q (.fl xs) S) : CD c (.type "list") [x] S Q :=
  CD.of call_list_of fun H vs m r => by
    obtain ⟨v, rfl, r1⟩ := reps1 r
    obtain ⟨a, ws, rfl, e2, e3⟩ := h.sq r1 m
    refine ⟨a, ws, rfl, e2, fun l hl => ?_⟩
    obtain ⟨st, sm, e⟩ := m.new (o := .lst ws) hl
    exact ⟨_, S, rep_fl.mpr ⟨l, ws, rfl, SqL.of e, e3.mono st⟩, sm, st, q⟩
theorem cd_listM {xs : List D} (h : IsQ S x xs) (q : ∀ p, S p = none → Q (.ref p) (sup S p (.lst xs))) : CD c (.type "list") [x] S Q :=
  CD.of call_list_of fun H vs m r => by
    obtain ⟨v, rfl, r1⟩ := reps1 r
    obtain ⟨a, ws, rfl, e2, e3⟩ := h.sq r1 m
    refine ⟨a, ws, rfl, e2, fun l hl => ?_⟩
    obtain ⟨st, sm⟩ := m.newM (o := .lst ws) (m := .lst xs) hl fun H' S' sb e => ⟨ws, e, e3.mono sb⟩
    exact ⟨_, _, rep_ref.mpr rfl, sm, st, q l (m.free hl)⟩
theorem cd_tuple {xs : List D} (h : IsQ S x xs) (q : Q (.tup xs) S) : CD c (.type "tuple") [x] S Q :=
  CD.of call_tuple_of fun H vs m r => by
    obtain ⟨v, rfl, r1⟩ := reps1 r
    rcases h with h | rfl
    · obtain ⟨a, ws, rfl, e2, e3⟩ := h.sq r1 m
      refine ⟨a, ws, rfl, .inl ⟨e2, fun l hl => ?_⟩⟩
      obtain ⟨st, sm, e⟩ := m.new (o := .tup ws) hl
      exact ⟨_, S, rep_tup.mpr ⟨l, ws, rfl, SqT.of e, e3.mono st⟩, sm, st, q⟩
    · obtain ⟨a, ws, rfl, e2, e3⟩ := tup_sq r1
      exact ⟨a, ws, rfl, .inr ⟨e2, pst_same m r1 q⟩⟩
theorem cd_sortedI {ns : List Int} (h : IsL S x (ns.map D.int)) (q : ∀ ns' : List Int, ns'.Perm ns → ns'.Pairwise (· ≤ ·) → Q (.fl (ns'.map D.int)) S) : CD c (.builtin "sorted") [x] S Q :=
  CD.of cr_sortedI fun H vs m r => by
    obtain ⟨v, rfl, r1⟩ := reps1 r
    obtain ⟨a, ws, rfl, e2, e3⟩ := h.sq r1 m
    have e4 := reps_ints e3
    subst e4
    refine ⟨a, ns, rfl, e2, fun ns' p hp hs hn => ?_⟩
    obtain ⟨st, sm, e⟩ := m.new (o := .lst (ns'.map V.int)) hn
    exact ⟨_, S, rep_fl.mpr ⟨p, _, rfl, SqL.of e, reps_ints'⟩, sm, st, q ns' hp hs⟩
theorem cd_sortedS {xs : List Str} (h : IsL S x (xs.map D.str)) (hl : xs.length < 64) (q : ∀ ys : List Str, ys.Perm xs → PyProof.Rows.sortedS ys = true → Q (.fl (ys.map D.str)) S) : CD c (.builtin "sorted") [x] S Q :=
  CD.of cr_sortedS fun H vs m r => by
    obtain ⟨v, rfl, r1⟩ := reps1 r
    obtain ⟨a, ws, rfl, e2, e3⟩ := h.sq r1 m
    have e4 := reps_strs e3
    subst e4
    refine ⟨a, xs, rfl, e2, hl, fun ns' p hp hs hn => ?_⟩
    obtain ⟨st, sm, e⟩ := m.new (o := .lst (ns'.map V.str)) hn
    exact ⟨_, S, rep_fl.mpr ⟨p, _, rfl, SqL.of e, reps_strs'⟩, sm, st, q ns' hp hs⟩
theorem cd_all {bs : List Bool} (hc : c.X.calm = true) (h : IsL S x (bs.map D.bl)) (q : Q (.bl (bs.all id)) S) : CD c (.builtin "all") [x] S Q :=
  CD.of (cr_all hc) fun H vs m r => by
    obtain ⟨v, rfl, r1⟩ := reps1 r
    obtain ⟨a, ws, rfl, e2, e3⟩ := h.sq r1 m
    have e4 := reps_bls e3
    subst e4
    exact ⟨a, bs, rfl, e2, pst_same m (rep_bl.mpr rfl) q⟩
theorem cd_any {bs : List Bool} (hc : c.X.calm = true) (h : IsL S x (bs.map D.bl)) (q : Q (.bl (bs.any id)) S) : CD c (.builtin "any") [x] S Q :=
  CD.of (cr_any hc) fun H vs m r => by
    obtain ⟨v, rfl, r1⟩ := reps1 r
    obtain ⟨a, ws, rfl, e2, e3⟩ := h.sq r1 m
    have e4 := reps_bls e3
    subst e4
    exact ⟨a, bs, rfl, e2, pst_same m (rep_bl.mpr rfl) q⟩
theorem cd_sum {ns : List Int} (hc : c.X.calm = true) (h : IsL S x (ns.map D.int)) (q : Q (.int ns.sum) S) : CD c (.builtin "sum") [x] S Q :=
  CD.of (cr_sum hc) fun H vs m r => by
    obtain ⟨v, rfl, r1⟩ := reps1 r
    obtain ⟨a, ws, rfl, e2, e3⟩ := h.sq r1 m
    have e4 := reps_ints e3
    subst e4
    exact ⟨a, ns, rfl, e2, pst_same m (rep_int.mpr rfl) q⟩
/-! isinstance -/
/-- the name of a value's built-in type -/
def tyN (S : SS) : D → Option String
  | .non => some "NoneType"
  | .bl _ => some "bool"
  | .int _ => some "int"
  | .str _ => some "str"
  | .tup _ => some "tuple"
  | .fl _ => some "list"
  | .ref a => match S a with
    | some (.lst _) => some "list"
    | some (.dk _) => some "dict"
    | some (.dt _) => some "dict"
    | _ => none
  | .ty _ => none
theorem tyN_ok {K : PySem.W.Frag} {H : Hp} {v : V} {n : String} (h : tyN S x = some n) (r : Rep K (im H S) x v) (m : Sim K H S) : TyX K H v (.type n) := by
  cases x with
  | non => cases h; rw [rep_non.mp r]; exact .base .non
  | bl b => cases h; rw [rep_bl.mp r]; exact .base (.bl b)
  | int b => cases h; rw [rep_int.mp r]; exact .base (.int b)
  | str b => cases h; rw [rep_str.mp r]; exact .base (.str b)
  | ty b => cases h
  | tup xs =>
    cases h
    obtain ⟨a, vs, rfl, e2, _⟩ := tup_sq r
    rcases e2 with (e2 | ⟨o, e2⟩) | ⟨o, _, _, e2, e3, _⟩
    · exact .base (.tup e2)
    · exact .fTuple e2
    · exact .kTuple e2 e3
  | fl xs =>
    cases h
    obtain ⟨a, vs, rfl, e2, _⟩ := IsL.sq IsL.fl r m
    rcases e2 with (e2 | ⟨o, e2⟩) | ⟨o, _, _, e2, e3, _⟩
    · exact .base (.lst e2)
    · exact .base (.frz e2)
    · exact .kList e2 e3
  | ref a =>
    rw [rep_ref.mp r]
    have h' : (match S a with | some (.lst _) => some "list" | some (.dk _) => some "dict" | some (.dt _) => some "dict" | _ => none) = some n := h
    cases e : S a with
    | none => rw [e] at h'; cases h'
    | some o =>
      rw [e] at h'
      have so := m a o e
      cases o with
      | lst xs => cases h'; obtain ⟨vs, e1, _⟩ := so; exact .base (.lst e1)
      | dk xs => cases h'; obtain ⟨vs, e1, _⟩ := so; exact .base (.dK e1)
      | dt xs => cases h'; obtain ⟨vs, e1, _⟩ := so; exact .base (.dT e1)
      | ins C fs => cases h'
      | xd fs => cases h'
theorem cd_isi {n m : String} {b : Bool} (h : tyN S x = some n) (hk : kitB n m = some b) (q : Q (.bl b) S) : CD c (.builtin "isinstance") [x, .ty m] S Q :=
  CD.of call_isi fun H vs sm r => by
    obtain ⟨v, w, rfl, r1, r2⟩ := reps2 r
    rw [rep_ty.mp r2]
    exact ⟨v, .ty m, _, _, b, rfl, .ty m, tyN_ok h r1 sm, kit_ty hk, pst_same sm (rep_bl.mpr rfl) q⟩
theorem tys_ok {K : PySem.W.Frag} {G : Hp} : ∀ {ms : List String} {cs : List V}, Reps K G (ms.map D.ty) cs → cs = ms.map V.ty ∧ Paired ClsV cs (ms.map Value.type)
  | [], cs, h => by unfold List.map Reps at h; subst h; exact ⟨rfl, .nil⟩
  | n :: ms, cs, h => by
    unfold List.map Reps at h
    obtain ⟨w, t, rfl, h1, h2⟩ := h
    obtain ⟨e1, e2⟩ := tys_ok h2
    rw [rep_ty.mp h1]
    exact ⟨by rw [e1] <;> rfl, .cons (.ty n) e2⟩
/-- isinstance(x, (T1, T2, ..)) of built-in types; the tuple laid just now -/
theorem cd_isiT {n : String} {ms : List String} {b : Bool} (h : tyN S x = some n) (hk : ∀ K, PySem.W.kitAny K (.type n) (ms.map Value.type) = some b) (q : Q (.bl b) S) :
    ∀ H vs, Sim c.X.K H S → ∀ v tp cs, vs = [v, .ref tp] → Rep c.X.K (im H S) x v → H tp = some (.tup cs) → Reps c.X.K (im H S) (ms.map D.ty) cs → rIsiT c.X.K vs H (pst c.X.K H S Q) := fun H vs sm v tp cs e r ht rc => by
  subst e
  have e1 := tys_ok rc
  exact ⟨v, tp, cs, _, _, b, rfl, ht, e1.2, tyN_ok h r sm, hk _, pst_same sm (rep_bl.mpr rfl) q⟩
end

/-! ### methods of what is built in -/
section
variable {c : Ctx} {o e : Expr} {es : List Expr} {ρ : DEnv} {S : SS} {Q : D → SS → Prop} {apos cpos : Pos}
/-- l.append(e) -/
theorem je_append (h : JE c o ρ S fun x S1 => ∃ l, x = .ref l ∧ (∃ ys, S1 l = some (.lst ys)) ∧ JE c e ρ S1 fun y S2 => ∃ xs, S2 l = some (.lst xs) ∧ xs.length < sizeLine ∧ Q .non (sup S2 l (.lst (xs ++ [y]))))
    (hbase : attributeBase o "append" c.X.env (eval o c.X.env) = eval o c.X.env := by rfl)
    (hfew : ((backTo cpos (starEach [e] c.X.env)).all (fun x => !x.1) && (backToKw cpos (keywordEach [] c.X.env)).all (fun x => x.1.isSome) && decide (([e] : List Expr).length + ([] : List Keyword).length + (if ([] : List Keyword).isEmpty then 0 else 1) < 30)) = true := by rfl)
    (hline : (apos.endLine == cpos.line) = true := by rfl) (hs : starEach [e] c.X.env = (false, eval e c.X.env) :: starEach [] c.X.env := by rfl) (hpl : (backTo cpos (starEach [] c.X.env)).any (·.1) = false := by rfl) : JE c (.Call (.Attribute o "append" apos) [e] [] cpos) ρ S Q :=
  JE.of (pe_bm PySem.F.plainAttrs_list PySem.F.slot_list_append PySem.F.type_list_append mt_append PEt (pa_cons PEt pa_nil hs) hbase hfew hline hs hpl) fun σ H ds => h.then ds fun x S1 v H1 r1 d1 s1 ⟨l, e1, ⟨ys, e0⟩, h2⟩ => by
    subst e1
    rw [rep_ref.mp r1]
    obtain ⟨us, hu, _⟩ := d1.sim l _ e0
    refine ⟨.inl ⟨rfl, us, SqL.of hu⟩, h2.then d1 fun y S2 w H2 r2 d2 s2 ⟨xs, e3, hl, q⟩ => ?_⟩
    obtain ⟨vs, hv, rv⟩ := d2.sim l _ e3
    obtain ⟨st, sm⟩ := d2.sim.write (o := .lst (vs ++ [w])) (m := .lst (xs ++ [y])) e3 fun H' S' sb e => ⟨_, e, (rv.mono sb).append (Reps.cons (r2.mono sb) Reps.nil)⟩
    exact ⟨l, vs, w, rfl, rfl, hv, by rw [← rv.length]; exact hl, .non, _, rep_non.mpr rfl, sm, (s1.trans s2).trans st, q⟩
end

/-! ### defs -/
abbrev DSp := List D → SS → (D → SS → Prop) → (Value → Option Addr → SS → Prop) → Prop
def lift (K : PySem.W.Frag) (sp : DSp) : Sp := fun vs H Q E => ∃ ds S Qd Ed, Reps K (im H S) ds vs ∧ Sim K H S ∧ sp ds S Qd Ed ∧ (∀ d S' v H', Qd d S' → Rep K (im H' S') d v → Sim K H' S' → Stp H S H' S' → Q v H') ∧
  ∀ cls dd S' H', Ed cls dd S' → Sim K H' S' → Stp H S H' S' → E cls dd H'
/-- the def that stands at the module's name x keeps sp -/
structure Fn (P : Program) (w : World) (K : PySem.W.Frag) (mg : Str → Option Value) (base : Heap) (k : Nat) (x : Str) (sp : DSp) : Prop where
  ex : ∃ f fd ps, mg x = some (.ref f) ∧ PySem.W.keepIn K (.ref f) = true ∧ Binds K fd ps [] ∧ FnOk P w K mg base (L2.CX P w) k f fd ps (lift K sp)
section
variable {c : Ctx} {e : Expr} {es : List Expr} {ρ : DEnv} {S : SS} {Q : D → SS → Prop} {pos p : Pos} {x : Str} {k : Nat} {sp : DSp}
theorem lift_use {K : PySem.W.Frag} {σ : L2.St} {H : Hp} {ds : List D} {vs : List V} {S0 : SS} {H0 : Hp} (d1 : Ds c σ H ρ S) (s1 : Stp H0 S0 H S) (r : Reps c.X.K (im H S) ds vs) (q : sp ds S Q fun cls d S' => c.DX cls d ρ S') : lift c.X.K sp vs H (pst c.X.K H0 S0 Q) (WE c.W σ) :=
  ⟨ds, S, Q, fun cls d S' => c.DX cls d ρ S', r, d1.sim, q, fun d S' v H' hq rv m st => ⟨d, S', rv, m, s1.trans st, hq⟩, fun cls dd S' H' hq m st => d1.ex cls dd σ H' ρ S' hq (d1.sl.step st) m st⟩
theorem je_call (F : Fn c.X.prog c.X.w c.X.K c.X.mg c.X.base k x sp) (hr : Room k c.X.A) (h : JA c (e :: es) ρ S fun ds S1 => sp ds S1 Q fun cls d S' => c.DX cls d ρ S') (hg : Gl c.X x := by rfl) (hdb : (x == ("__debug__" : Str)) = false := by decide)
    (he : starEach (e :: es) c.X.env = (false, eval e c.X.env) :: starEach es c.X.env := by rfl) (hpl : (backTo pos (starEach es c.X.env)).any (·.1) = false := by rfl) : JE c (.Call (.Name x p) (e :: es) [] pos) ρ S Q := by
  obtain ⟨f, fd, ps, hm, hk, hb, F⟩ := F.ex
  exact JE.of (pe_callS F hr hg hm hk hb (passAt c.tk) PAt hdb he hpl) fun σ H ds => h.then ds fun dsa S1 vs H1 r d1 s1 q => lift_use (K := c.X.K) d1 s1 r q
theorem je_call0 (F : Fn c.X.prog c.X.w c.X.K c.X.mg c.X.base k x sp) (hr : Room k c.X.A) (h : sp [] S Q fun cls d S' => c.DX cls d ρ S') (hg : Gl c.X x := by rfl) (hdb : (x == ("__debug__" : Str)) = false := by decide) : JE c (.Call (.Name x p) [] [] pos) ρ S Q := by
  obtain ⟨f, fd, ps, hm, hk, hb, F⟩ := F.ex
  intro σ H ds pins s I
  refine wpAny_Call_Name_kw (ld_glob I hg hm ?_ hdb)
  exact PySem.W.callWith_K0 I.kIn hk (run_fnS (us := []) (E := WE c.W) F hr hb (passAt c.tk σ) I .nil (lift_use (K := c.X.K) ds Stp.refl Reps.nil h))
end
def startD : List Str → List D → DEnv
  | [], _ => []
  | _ :: N, [] => none :: startD N []
  | _ :: N, d :: ds => some d :: startD N ds
/-- the context of a def's body -/
def fnC (P : Program) (w : World) (K : PySem.W.Frag) (mg : Str → Option Value) (base : Heap) (N : List Str) (qual : Str) (st : Stmt) (f : Addr) (cdv : Value) (A : Around) (outer : List Env) (s : Shared) (H : Hp) (E : XK) (Ed : Value → Option Addr → SS → Prop) : Ctx where
  X := cxOf (L2.CX P w) P w K mg base N qual (defScope st) f cdv A outer s H E
  W := fun cls d _ H' => E cls d H'
  tk := takes_of rfl rfl rfl rfl
  DX := fun cls d _ S' => Ed cls d S'
theorem fnC_po {P : Program} {w : World} {K : PySem.W.Frag} {mg : Str → Option Value} {base : Heap} {N : List Str} {qual : Str} {st : Stmt} {f : Addr} {cdv : Value} {A : Around} {outer : List Env} {s : Shared} {H : Hp} {E : XK} {Ed : Value → Option Addr → SS → Prop} :
    PassesOwn (model (fnC P w K mg base N qual st f cdv A outer s H E Ed).X.prog (fnC P w K mg base N qual st f cdv A outer s H E Ed).X.w) (fnC P w K mg base N qual st f cdv A outer s H E Ed).X.A (fnC P w K mg base N qual st f cdv A outer s H E Ed).X.env (fnC P w K mg base N qual st f cdv A outer s H E Ed).X.xe := passes_of rfl
theorem start_none {K : PySem.W.Frag} {H : Hp} {S : SS} : ∀ (N : List Str) {i : Nat} {d : D}, (startD N [])[i]? = some (some d) → False
  | [], i, d, h => by simp [startD] at h
  | _ :: N, 0, d, h => by simp [startD] at h
  | _ :: N, i + 1, d, h => start_none (K := K) (H := H) (S := S) N (i := i) (d := d) (by simpa [startD] using h)
theorem startD_len : ∀ (N : List Str) (ds : List D), (startD N ds).length = N.length
  | [], _ => rfl
  | _ :: N, [] => by simp [startD, startD_len N []]
  | _ :: N, d :: ds => by simp [startD, startD_len N ds]
theorem start_sl {K : PySem.W.Frag} {H : Hp} {S : SS} {N : List Str} {ds : List D} {vs : List V} (r : Reps K (im H S) ds vs) (hl : ds.length ≤ N.length) : Sl K H S (L2.start N vs) (startD N ds) := by
  have hlen := r.length
  refine ⟨?_, fun i d h => ?_⟩
  · rw [startD_len]
    unfold L2.start
    rw [List.length_append, List.length_map, List.length_replicate]
    omega
  · have key : ∀ (N : List Str) (ds : List D) (vs : List V) (i : Nat) (d : D), Reps K (im H S) ds vs → ds.length ≤ N.length → (startD N ds)[i]? = some (some d) → ∃ v, (vs.map some ++ List.replicate (N.length - vs.length) none)[i]? = some (some v) ∧ Rep K (im H S) d v := by
      intro N
      induction N with
      | nil => intro ds vs i d r hl h; simp [startD] at h
      | cons n N ih =>
        intro ds vs i d r hl h
        cases ds with
        | nil => exact (start_none (K := K) (H := H) (S := S) (n :: N) h).elim
        | cons d0 ds =>
          unfold Reps at r
          obtain ⟨v, t, rfl, r1, r2⟩ := r
          cases i with
          | zero =>
            simp [startD] at h
            subst h
            exact ⟨v, by simp, r1⟩
          | succ i =>
            obtain ⟨v', e1, e2⟩ := ih ds t i d r2 (by simpa using hl) (by simpa [startD] using h)
            refine ⟨v', ?_, e2⟩
            have e3 : (n :: N).length - (v :: t).length = N.length - t.length := by simp
            rw [e3]
            simpa using e1
    exact key N ds vs i d r hl h
/-- THE RULE for a def -/
theorem fn_mk {P : Program} {w : World} {K : PySem.W.Frag} {mg : Str → Option Value} {base : Heap} {x nm qual : Str} {st : Stmt} {f : Addr} {fd : FuncData} {N ps : List Str} {k : Nat} {sp : DSp} (F : Fun K nm qual st f fd) (hm : mg x = some (.ref f)) (hb : Binds K fd ps [])
    (Sc : FnScope N ps (defScope st)) (hl : ∀ ds S Q E, sp ds S Q E → ds.length = ps.length)
    (body : ∀ (cdv : Value) (A : Around) (outer : List Env) (s : Shared) (H : Hp) (E : XK) (Ed : Value → Option Addr → SS → Prop) (ds : List D) (S : SS) (Q : D → SS → Prop), Room k (fnC P w K mg base N qual st f cdv A outer s H E Ed).X.A → sp ds S Q Ed →
      JSs (fnC P w K mg base N qual st f cdv A outer s H E Ed) (defBody st) (startD N ds) S (fun _ S' => Q .non S') Q (fun _ _ => False) (fun _ _ => False)) : Fn P w K mg base (k + 1) x sp := by
  refine ⟨f, fd, ps, hm, F.kp, hb, F.okX Sc (fun vs H Q E ⟨ds, S, Qd, Ed, r, _, h, _⟩ => by rw [← r.length]; exact hl ds S Qd Ed h) fun cdv A outer s H vs Q E hr ⟨ds, S, Qd, Ed, r, m, h, hQ, hE⟩ => ?_⟩
  have hps : ps.length ≤ N.length := by
    have := congrArg List.length Sc.pre
    rw [List.length_take] at this
    omega
  have sl : Sl K H S (L2.start N vs) (startD N ds) := start_sl r (by rw [hl ds S Qd Ed h]; exact hps)
  have j := body cdv A outer s H E Ed ds S Qd hr h
  refine ⟨_, PSst, tSs_mono (j (L2.start N vs) H ⟨sl, m, fun cls d σ' H' ρ' S' q _ m' st' => hE cls d S' H' q m' st'⟩) ⟨fun σ' H' ⟨ρ', S', _, m', st', q⟩ => hQ .non S' .non H' q (rep_non.mpr rfl) m' st', fun v H' ⟨d, S', rv, m', st', q⟩ => hQ d S' v H' q rv m' st', fun σ' H' ⟨_, _, _, _, _, q⟩ => q.elim, fun σ' H' ⟨_, _, _, _, _, q⟩ => q.elim⟩⟩
end DP

namespace PySem
open AutoSeq1 (wpAny_loadPart')
set_option maxHeartbeats 1000000 in
theorem dp_enum_newB {v : Value} {o : Obj} {H : Heap → Prop} (B : Begins v o H) :
    Meets (Builtin.«enumerate.__new__» ⟨[.type "enumerate", v], []⟩) (fun _ R s => H s.heap ∧
      R (.ok (.ret (.ref (s.heap.push o).objs.size))) { s with heap := (s.heap.push o).push { cls := .type "enumerate", data := .fields #[.none, .bool false, .ref s.heap.objs.size, rawInt 0, .none, .none] } }) :=
  .of_wp fun prog w A R s h => by
    obtain ⟨hp, g, d, tk, os⟩ := s; obtain ⟨h1, h⟩ := h
    have hsub := sub_enumerate
    have q1 : ∀ {A' : Around} {E : Value → Shared → Prop} {Q : Value → Shared → Prop}, Q (.ref hp.objs.size) ⟨hp.push o, g, d, tk, os⟩ → wpAny (model prog w) A' (pyIter v) Q E ⟨hp, g, d, tk, os⟩ :=
      fun q => B.iter prog w _ _ ⟨hp, g, d, tk, os⟩ _ h1 q
    wp_walk using q1
    refine wpAny_stack_any fun st => wpAny_pure ?_
    split
    · rename_i c _ _ _ _ _
      cases (c == Value.type "enumerate")
      · wp_walk using q1
        exact ⟨_, rfl, h⟩
      · wp_walk using q1
        exact ⟨_, rfl, h⟩
    · wp_walk using q1
      exact ⟨_, rfl, h⟩
theorem dp_call_enum {prog : Program} {w : World} {A : Around} {E : Value → Shared → Prop} {s : Shared} {v : Value} {o : Obj} {H : Heap → Prop} {Q : Value → Shared → Prop} (B : Begins v o H) (h1 : H s.heap)
    (h : ∀ h', IsEnum h' (s.heap.objs.size + 1) s.heap.objs.size 0 .none → h'.get? s.heap.objs.size = some o → h'.objs.size = s.heap.objs.size + 2 →
      (∀ b o, s.heap.get? b = some o → h'.get? b = some o) → Q (.ref (s.heap.objs.size + 1)) { s with heap := h' }) :
    wpAny (model prog w) A (call (.type "enumerate") [v]) Q E s := by
  refine callType_new F.called_enumerate (by decide) (F.typeCall_enumerate_1 _) (F.newCall_enumerate_1 _) (fun obj => F.args_object_init_2 obj _) F.entry_enumerate_new
    (dp_enum_newB B) ⟨h1, ?_⟩
  have hz : (s.heap.push o).objs.size = s.heap.objs.size + 1 := Heap.size_push ..
  show _ ∧ _
  rw [hz]
  have he : IsEnum ((s.heap.push o).push { cls := .type "enumerate", data := .fields #[.none, .bool false, .ref s.heap.objs.size, rawInt 0, .none, .none] }) (s.heap.objs.size + 1) s.heap.objs.size 0 .none := by
    have := Heap.get?_push_size (s.heap.push o) (o := { cls := .type "enumerate", data := .fields #[.none, .bool false, .ref s.heap.objs.size, rawInt 0, .none, .none] }) rfl
    rw [hz] at this; exact this
  refine ⟨⟨_, he, rfl⟩, h _ he (Heap.get?_push_of_some _ (Heap.get?_push_size _ B.free)) (by rw [Heap.size_push, hz]) fun b o x => Heap.get?_push_of_some _ (Heap.get?_push_of_some _ x)⟩
end PySem
namespace DP
open PySem L2
/-! ### enumerate(tuple) -/
def IteT (K : PySem.W.Frag) (a : Addr) : It :=
  ⟨fun i H => ∃ (xs : List V) (x : V), SqT K H a xs ∧ xs[i]? = some x, fun i H v H' => ∃ T x, v = .ref T ∧ H T = none ∧ H' = upd H T (.tup [.int (i : Nat), x]) ∧ ∀ xs, SqT K H a xs → xs[i]? = some x, fun i H => ∃ xs : List V, SqT K H a xs ∧ xs.length = i⟩
theorem turn_enumT {P : Program} {w : World} {K : PySem.W.Frag} {elts : List Expr} {kk : Nat} {tpos : Pos} (a e it : Addr) :
    Turn P w K (.Tuple elts kk tpos) (IteT K a) [e, it] e (fun i h => (∃ old, IsEnum h e it ((i : Nat) : Int) old) ∧ h.IsTupleIter it a i ∧ e ≠ it) where
  mem := by simp
  obj := fun i h st b hb => by
    obtain ⟨⟨old, he⟩, ⟨o, ho, hc, hd⟩, _⟩ := st
    have e' : b = e ∨ b = it := by simpa using hb
    rcases e' with z | z
    · rw [z]; exact ⟨_, he, fun v q => nomatch q⟩
    · rw [z]; exact ⟨o, ho, fun v q => by rw [hd] at q; cases q⟩
  keep := fun i h h' st k => let ⟨⟨old, he⟩, hi, hne⟩ := st; ⟨⟨old, k e (by simp) _ he⟩, hi.at fun o q => k it (by simp) o q, hne⟩
  item := by
    intro X hP hw hK hc i pins s σ H E I hf st hg
    subst hP hw hK
    obtain ⟨⟨old, he⟩, hit, hne⟩ := st
    obtain ⟨xs, x, hq, hx⟩ := hg
    obtain ⟨its, rv, p, hz⟩ := I.tuple hq
    obtain ⟨u, hu, ru⟩ := rv.get hx
    have hel : e < s.heap.objs.size := Heap.lt_size he
    have hil : it < s.heap.objs.size := by obtain ⟨_, q, _⟩ := hit; exact Heap.lt_size q
    have hia : a ≠ it := fun z => by
      subst z
      obtain ⟨o1, q1, q2, _⟩ := hit
      obtain ⟨o2, q3, q4, _⟩ := p
      rw [q1] at q3; cases q3
      rw [q2] at q4
      exact absurd q4 (by decide)
    have hea : e ≠ a := fun z => by
      subst z
      obtain ⟨o2, q3, q4, _⟩ := p
      rw [show s.heap.get? e = some _ from he] at q3; cases q3
      exact absurd (Value.type.inj q4) (by decide)
    have hlt : i < its.toArray.size := by
      obtain ⟨hi, _⟩ := List.getElem?_eq_some_iff.mp hu
      simpa using hi
    refine wpAny_pyNext_enum_itemD (Draws.tuple (A := X.A.in1) (I.ok.hd hc) it a hia its.toArray) he ⟨hit, p⟩ hlt hne (by simp only [List.mem_cons, List.not_mem_nil, or_false, not_or]; exact ⟨hne, hea⟩) fun y h' tk hy ho hit' hT hsz hk => ?_
    have ey : y = u := by
      have : its.toArray[i]? = some y := hy
      rw [show its.toArray[i]? = its[i]? by simp] at this
      rw [hu] at this; exact (Option.some.inj this).symm
    subst ey
    refine ⟨_, rfl, wpAny_letOwnedTupleGo_enum (s := { s with heap := h', toks := tk + 1 }) ho fun h'' he' sb => ?_⟩
    have hT2 : h''.get? s.heap.objs.size = some { cls := .type "tuple", data := .seq #[.int i tk, y] } := (sb.2 _ (Nat.ne_of_gt hel)).trans hT
    have new : ObjOk X.prog X.w (upd H s.heap.objs.size (.tup [.int (i : Nat), x])) h'' s.heap.objs.size (.tup [.int (i : Nat), x]) :=
      ⟨by show 2 ≤ sizeLine; decide, [.int i tk, y], .cons ⟨_, rfl⟩ (.cons ru .nil), ⟨_, hT2, rfl, _, rfl⟩⟩
    have I1 : L2.Inv X pins σ (upd H s.heap.objs.size (.tup [.int (i : Nat), x])) { s with heap := h'', toks := tk + 1 } :=
      I.turnedNew (ch := [e, it]) (fun b ob hb q => (sb.2 b (fun z => hb (by simp [z]))).trans (hk b ob (fun z => hb (by simp [z])) (fun z => hb (by simp [z])) q)) hf (Nat.le_refl _) new
    refine ⟨.ref s.heap.objs.size, _, I1, rfl, ⟨_, x, rfl, I.hok.fresh (Nat.le_refl _), rfl, fun ys hy => by rw [I.tuple_inj hy hq]; exact hx⟩, ⟨⟨y, ?_⟩, hit'.1.at fun o q => (sb.2 it (Ne.symm hne)).trans q, hne⟩, fun b hb => ?_⟩
    · have e1 : ((i + 1 : Nat) : Int) = (i : Int) + 1 := by omega
      rw [e1]; exact he'
    · have hb' : b < s.heap.objs.size := by
        have e' : b = e ∨ b = it := by simpa using hb
        rcases e' with z | z
        · rw [z]; exact hel
        · rw [z]; exact hil
      rw [upd_ne (Nat.ne_of_lt hb')]
      exact (hf b hb).1
  done := by
    intro X hP hw hK hc i pins s σ H E I hf st hg
    subst hP hw hK
    obtain ⟨⟨old, he⟩, hit, hne⟩ := st
    obtain ⟨xs, hq, hx⟩ := hg
    obtain ⟨its, rv, p, hz⟩ := I.tuple hq
    have hl := rv.length
    have hia : a ≠ it := fun z => by
      subst z
      obtain ⟨o1, q1, q2, _⟩ := hit
      obtain ⟨o2, q3, q4, _⟩ := p
      rw [q1] at q3; cases q3
      rw [q2] at q4
      exact absurd q4 (by decide)
    have hi : its.toArray.size = i := by rw [List.size_toArray]; omega
    obtain ⟨f0, f1, f2, f3, f4, f5⟩ := hf it (by simp)
    refine wpAny_pyNext_enum_endD (n := its.toArray.size) (Draws.tuple (A := X.A.in1) (I.ok.hd hc) it a hia its.toArray) he ⟨by rw [hi]; exact hit, p⟩ fun h' eb => ⟨rfl, I.turned (t' := s.toks) (fun b o hb q => eb b o hb q) f0 f1 f3 f4 f5⟩
  self := fun A i s Q E st h => let ⟨⟨_, he⟩, _⟩ := st; wpAny_pyIter_enum he h
def iEnumT (K : PySem.W.Frag) (ta : TA) : TI := fun σ H R => ta σ H fun vs H1 => ∃ a xs, vs = [.ref a] ∧ SqT K H1 a xs ∧ R (IteT K a) H1
theorem pi_enumT {X : Cx} {e : Expr} {ta : TA} {p pos tpos : Pos} {elts : List Expr} {kk : Nat} (hg : Gl X "enumerate") (hm : X.mg "enumerate" = none) (ha : PA X [e] ta) (hs : starEach [e] X.env = [(false, eval e X.env)] := by rfl) :
    PI X (.Tuple elts kk tpos) (.Call (.Name "enumerate" p) [e] [] pos) (iEnumT X.K ta) := by
  refine ⟨fun pins s σ H R I h => ?_⟩
  refine PyProof.Rows.Call_ (ld_blt I hg hm PyProof.Rows.boot_enumerate (PyProof.Rows.callWith_type1 (thn (ha.run pos pins s σ H _ I h) fun us s1 ⟨vs, H1, I1, r1, q1⟩ => ?_) hs rfl))
  obtain ⟨a, xs, ex, hq, q⟩ := q1
  subst ex
  cases r1 with
  | cons r rr =>
    cases rr
    cases r
    obtain ⟨its, rv, p', hz⟩ := I1.tuple hq
    refine dp_call_enum (begins_tuple a its.toArray) p' fun h' he hit hsz hk => wpAny_pyIter_enum he ?_
    have I2 : L2.Inv X pins σ H1 { s1 with heap := h' } := I1.kept (t' := s1.toks) hk
    refine ⟨s1.heap.objs.size + 1, [s1.heap.objs.size + 1, s1.heap.objs.size], _, _, H1, rfl, I2, turn_enumT a (s1.heap.objs.size + 1) s1.heap.objs.size, ⟨⟨.none, he⟩, ⟨_, hit, rfl, rfl⟩, Nat.succ_ne_self _⟩, fun b hb => ?_, q⟩
    have e' : b = s1.heap.objs.size + 1 ∨ b = s1.heap.objs.size := by simpa using hb
    have hle : s1.heap.objs.size ≤ b := by
      rcases e' with z | z
      · rw [z]; exact Nat.le_add_right _ _
      · rw [z]; exact Nat.le_refl _
    exact I1.fpOk hle (I1.hok.fresh hle)
section
variable {c : Ctx} {a e : Expr} {es : List Expr} {ρ : DEnv} {S : SS} {R : List D → (SS → Prop) → SS → Prop} {Q : D → SS → Prop} {pos : Pos}
theorem ji_enumT {elts : List Expr} {kk : Nat} {tpos p : Pos} (hm : c.X.mg "enumerate" = none) (h : JE c a ρ S fun x S1 => ∃ xs, x = .tup xs ∧ R (enums xs) (fun _ => True) S1) (hg : Gl c.X "enumerate" := by rfl) (hs : starEach [a] c.X.env = [(false, eval a c.X.env)] := by rfl) : JI c (.Tuple elts kk tpos) (.Call (.Name "enumerate" p) [a] [] pos) ρ S R :=
  JI.of (pi_enumT hg hm (pa_cons PEt pa_nil hs) hs) fun σ H ds => h.then ds fun x S1 v H1 r1 d1 s1 ⟨xs, hx, q⟩ => by
    subst hx
    obtain ⟨a, vs, rfl, h1, h2⟩ := rep_tup.mp r1
    refine ⟨a, vs, rfl, sub_im.t h1, _, _, S1, d1.sim, s1, fun H2 S2 m2 st _ i => ⟨fun d hd => ?_, fun hle hl => ?_⟩, q⟩
    · have hs : SqT c.X.K H2 a vs := sub_im.t (Sub.t st h1)
      unfold enums at hd
      rw [List.getElem?_mapIdx] at hd
      cases e0 : xs[i]? with
      | none => rw [e0] at hd; cases hd
      | some d0 =>
        rw [e0] at hd
        cases hd
        obtain ⟨z, hz, rz⟩ := h2.get e0
        refine ⟨⟨vs, z, hs, hz⟩, fun x H' y => ?_⟩
        obtain ⟨T, x0, e1, e2, e3, e4⟩ := y
        have := e4 vs hs
        rw [hz] at this; cases this
        rw [e1]
        exact pair_ok m2 e2 e3 (rep_int.mpr rfl) (rz.mono st)
    · refine ⟨vs, sub_im.t (Sub.t st h1), ?_⟩
      rw [hl]
      unfold enums
      rw [List.length_mapIdx]
      exact h2.length.symm
end
/-! ### t[::-1] of a tuple -/
theorem sliceApplied_rev {prog : Program} {w : World} {A : Around} {E : Value → Shared → Prop} {s : Shared} {sl : Addr} {vs : Value} {n : Nat} {Q : Int × Int × Nat → Shared → Prop} (hs : s.heap.IsSliceOf sl .none .none vs) (pk : IsPart vs (some (-1)))
    (h : Q ((n : Int) - 1, -1, n) s) : wpAny (model prog w) A (Builtin.Slice.sliceApplied (.ref sl) (pure (n : Int))) Q E s := by
  obtain ⟨os, hos, hcs, hds⟩ := id hs
  unfold Builtin.Slice.sliceApplied Builtin.Slice.sliceFields
  refine wpAny_bind (wpAny_bind (wpAny_field hos hds (x := .none) rfl (wpAny_bind (wpAny_field hos hds (x := .none) rfl (wpAny_bind (wpAny_field hos hds (x := vs) rfl (wpAny_pure ?_)))))))
  refine wpAny_bind (HT.slicePart_ pk ?_)
  show wpAny _ _ (if ((-1 : Int) == 0) = true then _ else _) _ _ s
  rw [if_neg (by decide)]
  refine wpAny_bind (PyProof.Rows.slicePart_none (wpAny_bind (PyProof.Rows.slicePart_none (wpAny_bind (wpAny_pure ?_)))))
  show wpAny _ _ (match Builtin.Slice.sliceAdjust none none (-1) (n : Int) with | (lo, hi) => pure (lo, (-1 : Int), Builtin.Slice.slicePlaces lo hi (-1))) _ _ s
  have e1 : Builtin.Slice.sliceAdjust none none (-1) (n : Int) = ((n : Int) - 1, -1) := by
    unfold Builtin.Slice.sliceAdjust
    simp
  rw [e1]
  show wpAny _ _ (pure ((n : Int) - 1, (-1 : Int), Builtin.Slice.slicePlaces ((n : Int) - 1) (-1) (-1))) _ _ s
  have e2 : Builtin.Slice.slicePlaces ((n : Int) - 1) (-1) (-1) = n := by
    unfold Builtin.Slice.slicePlaces
    cases n with
    | zero => decide
    | succ n => simp; omega
  rw [e2]
  exact wpAny_pure h
theorem fm_congr {α β : Type} {f g : α → Option β} : ∀ (l : List α), (∀ x ∈ l, f x = g x) → l.filterMap f = l.filterMap g
  | [], _ => rfl
  | x :: xs, h => by
    have h1 := h x List.mem_cons_self
    have h2 := fm_congr xs fun y hy => h y (List.mem_cons_of_mem _ hy)
    rw [List.filterMap_cons, List.filterMap_cons, h1, h2]
theorem pick_rev (xs : Array Value) : ((List.range xs.size).filterMap fun (m : Nat) => xs[(((xs.size : Int) - 1) + (m : Int) * (-1)).toNat]?).toArray = xs.toList.reverse.toArray := by
  have e : ((List.range xs.size).filterMap fun (m : Nat) => xs[(((xs.size : Int) - 1) + (m : Int) * (-1)).toNat]?) = ((List.range xs.size).map fun k => xs.size - 1 - k).filterMap (xs[·]?) := by
    rw [List.filterMap_map]
    refine fm_congr _ fun m hm => ?_
    show xs[(((xs.size : Int) - 1) + (m : Int) * (-1)).toNat]? = xs[xs.size - 1 - m]?
    have hm' : m < xs.size := List.mem_range.mp hm
    have : (((xs.size : Int) - 1) + (m : Int) * (-1)).toNat = xs.size - 1 - m := by omega
    rw [this]
  rw [e, PySem.W.krv_range, List.filterMap_reverse, PySem.W.krv_all]
theorem getItem_tuple_rev {prog : Program} {w : World} {A : Around} {E : Value → Shared → Prop} {s : Shared} {t sl : Addr} {items : Array Value} {vs : Value} {Q : Value → Shared → Prop} (ht : PyProof.Rows.IsTup s.heap t items) (hs : s.heap.IsSliceOf sl .none .none vs) (pk : IsPart vs (some (-1)))
    (h : Q (.ref s.heap.objs.size) { s with heap := s.heap.push { cls := .type "tuple", data := .seq items.toList.reverse.toArray } })
    (hsz : items.size ≤ sizeLine) : wpAny (model prog w) A (getItem (.ref t) (.ref sl)) Q E s := by
  have htake : sizeOk (.seq items.toList.reverse.toArray) := by
    show items.toList.reverse.toArray.size ≤ sizeLine
    rw [List.size_toArray, List.length_reverse, Array.length_toList]
    exact hsz
  obtain ⟨os, hos, hcs, hds⟩ := id hs
  have hTs : s.TypeIs (.ref sl) "slice" := ⟨os, hos, hcs⟩
  unfold getItem
  try with_reducible refine wpAny_holding ?_
  first | refine wpAny_bind (wpAny_pure ?_) | skip
  refine wpAny_bind (wpAny_sequenceKey ht.typeIs (by decide) ?_)
  refine wpAny_bind (wpAny_callSpecial?_slot (name := Str.ofString "__getitem__") ht.typeIs PyProof.Rows.slot_tuple_getitem
    (wpAny_call_entry PyProof.Rows.slot_tuple_getitem ht.typeIs PyProof.Rows.entry_tuple_getitem ?_ (PyProof.Rows.args_tuple_getitem _ _)))
  show wpAny _ _ (Builtin.Tuple.tupleItemsOf (.ref t) >>= _) _ _ s
  refine wpAny_bind (PyProof.Rows.tupleItemsOf_ ht ?_)
  refine wpAny_bind (wpAny_typeOf hTs ?_)
  rw [if_pos (by decide)]
  refine wpAny_bind (sliceApplied_rev hs pk ?_)
  have hno : ¬ ((((items.size : Int) - 1) == 0 && (-1 : Int) == 1 && items.size == items.size) = true) := by
    intro q
    rw [Bool.and_eq_true, Bool.and_eq_true] at q
    exact absurd q.1.2 (by decide)
  show wpAny _ _ (if (((items.size : Int) - 1) == 0 && (-1 : Int) == 1 && items.size == items.size) = true then _ else _) _ _ s
  rw [if_neg hno, pick_rev]
  first
    | exact wpAny_bind (m := Builtin.Tuple.tupleExact _) (wpAny_newObj_type (wpAny_pure ⟨_, rfl, wpAny_pure h⟩) htake)
    | exact wpAny_bind (m := Builtin.Tuple.tupleExact _) (wpAny_newObj_type (wpAny_bind (wpAny_pure (wpAny_pure ⟨_, rfl, wpAny_pure h⟩))) htake)
    | exact wpAny_bind (wpAny_bind (m := Builtin.Tuple.tupleExact _) (wpAny_newObj_type (wpAny_pure (wpAny_pure ⟨_, rfl, wpAny_pure h⟩)) htake))
    | exact wpAny_bind (wpAny_bind (m := Builtin.Tuple.tupleExact _) (wpAny_newObj_type (wpAny_pure ⟨_, rfl, wpAny_pure h⟩) htake))
def tRevT (K : PySem.W.Frag) (te : TE) : TE := fun σ H Q => te σ H fun x H1 => ∃ a xs, x = .ref a ∧ SqT K H1 a xs ∧ ∀ p, H1 p = none → Q (.ref p) (upd H1 p (.tup xs.reverse))
theorem pe_revT {X : Cx} {pos : Pos} {e : Expr} {te : TE} {k : Nat} {p1 p2 p3 : Pos} (he : PE X e te) : PE X (.Subscript e (.Slice none none (some (.UnaryOp .USub (.Constant (.int 1) k p1) p2)) p3) pos) (tRevT X.K te) := by
  refine ⟨fun pins s σ H Q I h => ?_⟩
  refine PyProof.Rows.Subscript_ (thn (he.run pins s σ H _ I h) fun v s1 ⟨x, H1, I1, r1, q1⟩ => ?_)
  obtain ⟨a, xs, ex, hx, q⟩ := q1
  subst ex
  cases r1
  have hst : PO X (some (.UnaryOp .USub (.Constant (.int 1) k p1) p2)) (tPart (tUn (rU fun i => .int (-i)) (L2.tC (.int 1)))) := po_some (pe_un un_neg pe_int)
  refine wpAny_Slice (thn (po_none.run pins s1 σ H1 (fun o H2 => o = none ∧ H2 = H1) I1 ⟨rfl, rfl⟩) fun vl s2 ⟨l, H2, I2, pl, el, e2⟩ => ?_)
  subst el e2
  refine thn (po_none.run pins s2 σ H2 (fun o H3 => o = none ∧ H3 = H2) I2 ⟨rfl, rfl⟩) fun vu s3 ⟨u, H3, I3, pu, eu, e3⟩ => ?_
  subst eu e3
  refine thn (hst.run pins s3 σ H3 (fun o H4 => o = some (-1) ∧ H4 = H3) I3 ⟨1, rfl, -1, rfl, rfl, rfl⟩) fun vs s4 ⟨o, H4, I4, ps, eo, e4⟩ => ?_
  subst eo e4
  have I5 : L2.Inv X pins σ H4 { s4 with heap := s4.heap.push { cls := .type "slice", data := .fields #[vl, vu, vs] } } := I4.kept (t' := s4.toks) fun b ob q => Heap.get?_push_of_some _ q
  obtain ⟨its, r, ht, hz⟩ := I5.tuple hx
  have hlen := r.length
  cases pl
  cases pu
  show wpAny (model X.prog X.w) X.A (PyProof.Rows.subscriptTail e (.Slice none none (some (.UnaryOp .USub (.Constant (.int 1) k p1) p2)) p3) (.ref a) (.ref s4.heap.objs.size)) (EP X pins σ Q) X.xe { s4 with heap := s4.heap.push { cls := .type "slice", data := .fields #[.none, .none, vs] } }
  refine PyProof.Rows.tail_any (ops := [.ref a, .ref s4.heap.objs.size]) ht.typeIs PyProof.Rows.slot_tuple_getitem.lookup ?_ (by with_unfolding_all rfl)
  refine getItem_tuple_rev ht (Heap.IsSliceOf.new _ .none .none vs) ps ?_ (by rw [List.size_toArray]; omega)
  refine ⟨.ref _, _, I5.laid (t' := s4.toks) (o := .tup xs.reverse) (fun b ob q => Heap.get?_push_of_some _ q) (Nat.le_refl _) ?_, rfl, q _ (I5.hok.fresh (Nat.le_refl _))⟩
  exact ⟨by rw [List.length_reverse]; exact hz, _, r.reverse, PyProof.Rows.IsTup.new _ _⟩
section
variable {c : Ctx} {a e : Expr} {es : List Expr} {ρ : DEnv} {S : SS} {Q : D → SS → Prop} {pos : Pos}
theorem je_revT {k : Nat} {p1 p2 p3 : Pos} (h : JE c e ρ S fun x S1 => ∃ xs, x = .tup xs ∧ Q (.tup xs.reverse) S1) : JE c (.Subscript e (.Slice none none (some (.UnaryOp .USub (.Constant (.int 1) k p1) p2)) p3) pos) ρ S Q :=
  JE.of (pe_revT PEt) fun σ H ds => h.then ds fun x S1 v H1 r1 d1 s1 ⟨xs, hx, q⟩ => by
    subst hx
    obtain ⟨p, vs, rfl, h3, h4⟩ := tup_sq r1
    refine ⟨p, vs, rfl, h3, fun a ha => ?_⟩
    obtain ⟨st, sm, e⟩ := d1.sim.new (o := .tup vs.reverse) ha
    exact ⟨_, S1, rep_tup.mpr ⟨a, _, rfl, SqT.of e, h4.reverse.mono st⟩, sm, s1.trans st, q⟩
/-- isinstance against a tuple of built-in types -/
theorem isiT_ok {X : Cx} : CallR X (.builtin "isinstance") (fun xs H Q => ∃ (x : V) (tp : Addr) (cs : List V) (t : Value) (us : List Value) (b : Bool), xs = [x, .ref tp] ∧ SqT X.K H tp cs ∧ Paired ClsV cs us ∧ TyX X.K H x t ∧ PySem.W.kitAny X.K t us = some b ∧ Q (.bl b) H) := by
  intro pins s σ H xs us Q I r h
  obtain ⟨x, tp, cs, t, ws, b, rfl, hT, k, ty, e, q⟩ := h
  obtain ⟨u1, u2, rfl, r1, r2⟩ := vals2 r
  cases (show u2 = Value.ref tp from r2)
  obtain ⟨P, Z, p, hx⟩ := kit_of I r1 ty
  obtain ⟨its, rv, ⟨o, h1, h2, n, h3⟩, _⟩ := I.tuple hT
  have e3 := ClsV.all k rv
  subst e3
  obtain ⟨oc, od, dt, sl⟩ := o
  simp only at h2 h3
  subst h2 h3
  exact PySem.W.kia_tup Z I.kIn p h1 e hx fun tk => ⟨.bl b, H, I.tok tk, rfl, q⟩
def kitBs (n : String) : List String → Option Bool
  | [] => some false
  | m :: ms => match kitB n m with
    | some true => some true
    | some false => kitBs n ms
    | none => none
theorem kitBs_ok {K : PySem.W.Frag} {n : String} : ∀ {ms : List String} {b : Bool}, kitBs n ms = some b → PySem.W.kitAny K (.type n) (ms.map Value.type) = some b
  | [], b, h => h
  | m :: ms, b, h => by
    have h' : (match kitB n m with | some true => some true | some false => kitBs n ms | none => none) = some b := h
    show (match PySem.W.kitOne K (.type n) (.type m) with | some true => some true | some false => PySem.W.kitAny K (.type n) (ms.map Value.type) | none => none) = some b
    cases e : kitB n m with
    | none => rw [e] at h'; cases h'
    | some k =>
      rw [e] at h'
      rw [kit_ty e]
      cases k with
      | true => exact h'
      | false => exact kitBs_ok h'
theorem cd_isiTs {x : D} {n : String} {ms : List String} {b : Bool} (h : tyN S x = some n) (hk : kitBs n ms = some b) (q : Q (.bl b) S) : CD c (.builtin "isinstance") [x, .tup (ms.map D.ty)] S Q :=
  CD.of isiT_ok fun H vs sm r => by
    obtain ⟨v, w, rfl, r1, r2⟩ := reps2 r
    obtain ⟨tp, cs, rfl, h1, h2⟩ := tup_sq r2
    obtain ⟨e1, e2⟩ := tys_ok h2
    exact ⟨v, tp, cs, _, _, b, rfl, h1, e2, tyN_ok h r1 sm, kitBs_ok hk, pst_same sm (rep_bl.mpr rfl) q⟩
end
end DP

namespace DP
open PySem L2
/-! ### the law itself -/
def spLaw : DSp := fun ds S Q _ => ∃ ns : List Int, ds = [.fl (ns.map D.int)] ∧ ns.length ≤ 63 ∧ (∀ z ∈ ns, Builtin.Int.intBits z ≤ 1048576) ∧ S = (fun _ => none) ∧ ∀ S', Q (.bl true) S'
theorem law_walk {l : PySem.W.OpenLaw} {k : Nat} {q : Program} {loose : List Str} {XP : (Str → Option Value) → Heap → Prop} {YP : World → Heap → Prop} {d : DefRec} {K : Params → PySem.W.Frag} {x : Str}
    (hn : l.most = some 63) (hdf : d.params.defaults = []) (hr : Room k callerA)
    (hY : ∀ (w : World) (h : Heap), YP w h → (K w.params).In h)
    (F : ∀ (w : World) (mg : Str → Option Value) (fa : Addr) (h : Heap), (K w.params).In h → h.Ns mainGlobals mg → mg d.name = some (.ref fa) →
      ∃ fd : FuncData, (∀ (s : Shared) (u : Value), BindsTo s fd ⟨[u], []⟩ [(x, u)]) ∧
        ∀ base : Heap, (K w.params).In base → base.Ns mainGlobals mg → FnOk l.prog w (K w.params) mg base (L2.CX l.prog w) k fa fd [x] (lift (K w.params) spLaw)) :
    PySem.W.WalkO q loose XP YP l.row.toRowW d [] (fun f vs => PySem.call f vs) :=
  L2.walk_ofB (n := 63) (k := k) (x := x) (CX := fun w => L2.CX l.prog w) (sp := fun w => lift (K w.params) spLaw) hn (by decide) hdf hr hY F (fun w H a ns hl hb _ hs => by
      have e0 : im H (fun _ => none) = H := rfl
      refine ⟨[.fl (ns.map D.int)], fun _ => none, fun d _ => d = .bl true, fun _ _ _ => False, ?_, (fun a o h => nomatch h), ⟨ns, rfl, hl, hb, rfl, fun _ => rfl⟩, fun d S' v H' hq r _ _ => ?_, fun _ _ _ _ z _ _ => z.elim⟩
      · rw [e0]
        exact Reps.cons (rep_fl.mpr ⟨a, _, rfl, hs, reps_ints'⟩) Reps.nil
      · subst hq
        exact rep_bl.mp r)
    fun w H s e s' z => by
      obtain ⟨_, _, _, _, _, _, _, _, _, _, _, _, z⟩ := z
      exact z.elim
theorem fn_ok {P : Program} {w : World} {K : PySem.W.Frag} {mg : Str → Option Value} {base : Heap} {nm qual : Str} {st : Stmt} {f : Addr} {fd : FuncData} {N ps : List Str} {k : Nat} {sp : DSp} (F : Fun K nm qual st f fd)
    (Sc : FnScope N ps (defScope st)) (hl : ∀ ds S Q E, sp ds S Q E → ds.length = ps.length)
    (body : ∀ (cdv : Value) (A : Around) (outer : List Env) (s : Shared) (H : Hp) (E : XK) (Ed : Value → Option Addr → SS → Prop) (ds : List D) (S : SS) (Q : D → SS → Prop), Room k (fnC P w K mg base N qual st f cdv A outer s H E Ed).X.A → sp ds S Q Ed →
      JSs (fnC P w K mg base N qual st f cdv A outer s H E Ed) (defBody st) (startD N ds) S (fun _ S' => Q .non S') Q (fun _ _ => False) (fun _ _ => False)) : FnOk P w K mg base (L2.CX P w) (k + 1) f fd ps (lift K sp) := by
  refine F.okX Sc (fun vs H Q E ⟨ds, S, Qd, Ed, r, _, h, _⟩ => by rw [← r.length]; exact hl ds S Qd Ed h) fun cdv A outer s H vs Q E hr ⟨ds, S, Qd, Ed, r, m, h, hQ, hE⟩ => ?_
  have hps : ps.length ≤ N.length := by
    have := congrArg List.length Sc.pre
    rw [List.length_take] at this
    omega
  have sl : Sl K H S (L2.start N vs) (startD N ds) := start_sl r (by rw [hl ds S Qd Ed h]; exact hps)
  have j := body cdv A outer s H E Ed ds S Qd hr h
  refine ⟨_, PSst, tSs_mono (j (L2.start N vs) H ⟨sl, m, fun cls d σ' H' ρ' S' q _ m' st' => hE cls d S' H' q m' st'⟩) ⟨fun σ' H' ⟨ρ', S', _, m', st', q⟩ => hQ .non S' .non H' q (rep_non.mpr rfl) m' st', fun v H' ⟨d, S', rv, m', st', q⟩ => hQ d S' v H' q rv m' st', fun σ' H' ⟨_, _, _, _, _, q⟩ => q.elim, fun σ' H' ⟨_, _, _, _, _, q⟩ => q.elim⟩⟩
theorem iteT2 {A B : Prop} {b : Bool} (e : b = true) (h : A) : if b = true then A else B := by rw [if_pos e]; exact h
theorem iteF2 {A B : Prop} {b : Bool} (e : b = false) (h : B) : if b = true then A else B := by rw [if_neg (by rw [e]; exact Bool.false_ne_true)]; exact h
theorem iteN {A B : Prop} {b : Bool} (h : if b = true then B else A) : if (!b) = true then A else B := by cases b <;> exact h
/-! ### isinstance of what is known -/
def Kn (S : SS) (x : D) : Prop := (tyN S x).isSome = true
@[reducible] def isI : D → Bool
  | .int _ => true
  | .bl _ => true
  | _ => false
@[reducible] def isB : D → Bool
  | .bl _ => true
  | _ => false
@[reducible] def isInt : D → Bool
  | .int _ => true
  | _ => false
@[reducible] def isS : D → Bool
  | .str _ => true
  | _ => false
@[reducible] def isT : D → Bool
  | .tup _ => true
  | _ => false
def isLs (S : SS) (x : D) : Bool := tyN S x == some "list"
def isDc (S : SS) (x : D) : Bool := tyN S x == some "dict"
theorem tyN_cases {S : SS} {x : D} {n : String} (h : tyN S x = some n) : n = "NoneType" ∨ n = "bool" ∨ n = "int" ∨ n = "str" ∨ n = "tuple" ∨ n = "list" ∨ n = "dict" := by
  cases x with
  | non => cases h; simp
  | bl b => cases h; simp
  | int b => cases h; simp
  | str b => cases h; simp
  | ty b => cases h
  | tup xs => cases h; simp
  | fl xs => cases h; simp
  | ref a =>
    have h' : (match S a with | some (.lst _) => some "list" | some (.dk _) => some "dict" | some (.dt _) => some "dict" | _ => none) = some n := h
    split at h' <;> first | (cases h'; simp) | cases h'
theorem tyN_ref {S : SS} {a : Addr} {n : String} (h : tyN S (.ref a) = some n) : n = "list" ∨ n = "dict" := by
  have h' : (match S a with | some (.lst _) => some "list" | some (.dk _) => some "dict" | some (.dt _) => some "dict" | _ => none) = some n := h
  split at h' <;> first | (cases h'; simp) | cases h'
section
variable {c : Ctx} {S : SS} {Q : D → SS → Prop} {x : D}
theorem cd_isI (h : Kn S x) (q : Q (.bl (isI x)) S) : CD c (.builtin "isinstance") [x, .ty "int"] S Q := by
  obtain ⟨n, hn⟩ := Option.isSome_iff_exists.mp h
  refine cd_isi hn ?_ q
  cases x <;> first | (cases hn; done) | (cases hn; first | (show kitB _ _ = some true; decide +kernel) | (show kitB _ _ = some false; decide +kernel)) | (rcases tyN_ref hn with rfl | rfl <;> first | (show kitB _ _ = some true; decide +kernel) | (show kitB _ _ = some false; decide +kernel))
theorem cd_isB (h : Kn S x) (q : Q (.bl (isB x)) S) : CD c (.builtin "isinstance") [x, .ty "bool"] S Q := by
  obtain ⟨n, hn⟩ := Option.isSome_iff_exists.mp h
  refine cd_isi hn ?_ q
  cases x <;> first | (cases hn; done) | (cases hn; first | (show kitB _ _ = some true; decide +kernel) | (show kitB _ _ = some false; decide +kernel)) | (rcases tyN_ref hn with rfl | rfl <;> first | (show kitB _ _ = some true; decide +kernel) | (show kitB _ _ = some false; decide +kernel))
theorem cd_isS (h : Kn S x) (q : Q (.bl (isS x)) S) : CD c (.builtin "isinstance") [x, .ty "str"] S Q := by
  obtain ⟨n, hn⟩ := Option.isSome_iff_exists.mp h
  refine cd_isi hn ?_ q
  cases x <;> first | (cases hn; done) | (cases hn; first | (show kitB _ _ = some true; decide +kernel) | (show kitB _ _ = some false; decide +kernel)) | (rcases tyN_ref hn with rfl | rfl <;> first | (show kitB _ _ = some true; decide +kernel) | (show kitB _ _ = some false; decide +kernel))
theorem cd_isT (h : Kn S x) (q : Q (.bl (isT x)) S) : CD c (.builtin "isinstance") [x, .ty "tuple"] S Q := by
  obtain ⟨n, hn⟩ := Option.isSome_iff_exists.mp h
  refine cd_isi hn ?_ q
  cases x <;> first | (cases hn; done) | (cases hn; first | (show kitB _ _ = some true; decide +kernel) | (show kitB _ _ = some false; decide +kernel)) | (rcases tyN_ref hn with rfl | rfl <;> first | (show kitB _ _ = some true; decide +kernel) | (show kitB _ _ = some false; decide +kernel))
theorem cd_isLs (h : Kn S x) (q : Q (.bl (isLs S x)) S) : CD c (.builtin "isinstance") [x, .ty "list"] S Q := by
  obtain ⟨n, hn⟩ := Option.isSome_iff_exists.mp h
  refine cd_isi hn ?_ q
  unfold isLs
  rw [hn]
  rcases tyN_cases hn with rfl | rfl | rfl | rfl | rfl | rfl | rfl <;> decide +kernel
theorem cd_isDc (h : Kn S x) (q : Q (.bl (isDc S x)) S) : CD c (.builtin "isinstance") [x, .ty "dict"] S Q := by
  obtain ⟨n, hn⟩ := Option.isSome_iff_exists.mp h
  refine cd_isi hn ?_ q
  unfold isDc
  rw [hn]
  rcases tyN_cases hn with rfl | rfl | rfl | rfl | rfl | rfl | rfl <;> decide +kernel
/-- isinstance(x, (list, tuple)) -/
theorem cd_isLT (h : Kn S x) (q : Q (.bl (isLs S x || isT x)) S) : CD c (.builtin "isinstance") [x, .tup [.ty "list", .ty "tuple"]] S Q := by
  obtain ⟨n, hn⟩ := Option.isSome_iff_exists.mp h
  refine cd_isiTs (ms := ["list", "tuple"]) hn ?_ q
  cases x <;> first | (cases hn; done) | (cases hn; first | (show kitBs _ _ = some true; decide +kernel) | (show kitBs _ _ = some false; decide +kernel) | (unfold isLs; rw [hn]; show kitBs _ _ = some true; decide +kernel) | (unfold isLs; rw [hn]; show kitBs _ _ = some false; decide +kernel)) | (rcases tyN_ref hn with rfl | rfl <;> first | (show kitBs _ _ = some true; decide +kernel) | (show kitBs _ _ = some false; decide +kernel) | (unfold isLs; rw [hn]; show kitBs _ _ = some true; decide +kernel) | (unfold isLs; rw [hn]; show kitBs _ _ = some false; decide +kernel))
end
/-! ### what is built in -/
theorem bt_int : bootBuiltins "int" = some (.type "int") := by decide +kernel
theorem bt_bool : bootBuiltins "bool" = some (.type "bool") := by decide +kernel
theorem bt_str : bootBuiltins "str" = some (.type "str") := by decide +kernel
theorem bt_tuple : bootBuiltins "tuple" = some (.type "tuple") := by decide +kernel
theorem bt_list : bootBuiltins "list" = some (.type "list") := by decide +kernel
theorem bt_dict : bootBuiltins "dict" = some (.type "dict") := by decide +kernel
theorem bt_range : bootBuiltins "range" = some (.type "range") := by decide +kernel
theorem bt_enumerate : bootBuiltins "enumerate" = some (.type "enumerate") := by decide +kernel
theorem bt_zip : bootBuiltins "zip" = some (.type "zip") := by decide +kernel
theorem bt_set : bootBuiltins "set" = some (.type "set") := by decide +kernel
theorem bt_reversed : bootBuiltins "reversed" = some (.type "reversed") := by decide +kernel
theorem bt_type : bootBuiltins "type" = some (.type "type") := by decide +kernel
theorem bt_float : bootBuiltins "float" = some (.type "float") := by decide +kernel
theorem bt_object : bootBuiltins "object" = some (.type "object") := by decide +kernel
theorem bt_bytes : bootBuiltins "bytes" = some (.type "bytes") := by decide +kernel
theorem bt_len : bootBuiltins "len" = some (.builtin "len") := by decide +kernel
theorem bt_isinstance : bootBuiltins "isinstance" = some (.builtin "isinstance") := by decide +kernel
theorem bt_abs : bootBuiltins "abs" = some (.builtin "abs") := by decide +kernel
theorem bt_min : bootBuiltins "min" = some (.builtin "min") := by decide +kernel
theorem bt_max : bootBuiltins "max" = some (.builtin "max") := by decide +kernel
theorem bt_sorted : bootBuiltins "sorted" = some (.builtin "sorted") := by decide +kernel
theorem bt_all : bootBuiltins "all" = some (.builtin "all") := by decide +kernel
theorem bt_any : bootBuiltins "any" = some (.builtin "any") := by decide +kernel
theorem bt_sum : bootBuiltins "sum" = some (.builtin "sum") := by decide +kernel
theorem bt_repr : bootBuiltins "repr" = some (.builtin "repr") := by decide +kernel
theorem bt_ord : bootBuiltins "ord" = some (.builtin "ord") := by decide +kernel
theorem bt_chr : bootBuiltins "chr" = some (.builtin "chr") := by decide +kernel
theorem bt_iter : bootBuiltins "iter" = some (.builtin "iter") := by decide +kernel
theorem bt_next : bootBuiltins "next" = some (.builtin "next") := by decide +kernel
theorem bt_hash : bootBuiltins "hash" = some (.builtin "hash") := by decide +kernel
theorem bt_divmod : bootBuiltins "divmod" = some (.builtin "divmod") := by decide +kernel
end DP

namespace DP
open PySem L2
theorem atI_of {α : Type} {xs : List α} {i : Int} {n : Nat} {d : α} (e : i = (n : Int)) (h : xs[n]? = some d) : atI xs i = some d := by
  obtain ⟨hn, _⟩ := List.getElem?_eq_some_iff.mp h
  subst e
  unfold atI ixN
  rw [if_pos (by omega), if_pos (by omega)]
  exact h
section
variable {c : Ctx} {S : SS} {Q : D → SS → Prop} {x y : D}
/-- tuple + tuple, any -/
theorem od_catA {xs ys : List D} (hl : xs.length + ys.length ≤ sizeLine) (q : Q (.tup (xs ++ ys)) S) : OD c (binaryOp .Add) (.tup xs) (.tup ys) S Q :=
  OD.of op_catA fun H v w m rv rw => by
    obtain ⟨a, vs, rfl, h1, h2⟩ := tup_sq rv
    obtain ⟨b, ws, rfl, h3, h4⟩ := tup_sq rw
    have l1 := h2.length
    have l2 := h4.length
    refine ⟨a, b, vs, ws, rfl, rfl, h1, h3, by rw [← h2.length, ← h4.length]; exact hl, fun z => ?_, fun _ z => ?_, fun _ _ p hp => ?_⟩
    · subst z
      have e4 : xs = [] := List.eq_nil_of_length_eq_zero l1
      subst e4
      exact ⟨_, S, rw, m, Stp.refl, q⟩
    · subst z
      have e4 : ys = [] := List.eq_nil_of_length_eq_zero l2
      subst e4
      refine ⟨_, S, rv, m, Stp.refl, ?_⟩
      rw [List.append_nil] at q
      exact q
    · obtain ⟨st, sm, e⟩ := m.new (o := .tup (vs ++ ws)) hp
      exact ⟨_, S, rep_tup.mpr ⟨p, _, rfl, SqT.of e, (h2.mono st).append (h4.mono st)⟩, sm, st, q⟩
theorem cutD_whole {xs : List D} {lo hi : Option Int} (h : HT.sIx xs.length 0 lo = 0 ∧ HT.sIx xs.length xs.length hi = xs.length) : cutD xs lo hi = xs := by
  unfold cutD
  rw [h.1, h.2, List.drop_zero, Nat.sub_zero, List.take_length]
variable {e : Expr} {ρ : DEnv} {pos : Pos}
/-- t[lo:hi] of a tuple -/
theorem je_sliceT {lo hi : Option Expr} {p2 : Pos} (h : JE c e ρ S fun x S1 => JO c lo ρ S1 fun l S2 => JO c hi ρ S2 fun u S3 => ∃ xs, x = .tup xs ∧ Q (.tup (cutD xs l u)) S3) : JE c (.Subscript e (.Slice lo hi none p2) pos) ρ S Q :=
  JE.of (pe_slice sl_tupA PEt POt POt) fun σ H ds => h.then ds fun x S1 v H1 r1 d1 s1 h1 => h1 σ H1 d1 _ fun l S2 H2 d2 s2 h2 => h2 σ H2 d2 _ fun u S3 H3 d3 s3 ⟨xs, hx, q⟩ => by
    subst hx
    have r3 := (r1.mono s2).mono s3
    obtain ⟨p, vs, rfl, h3, h4⟩ := tup_sq r3
    have hl := h4.length
    refine ⟨p, vs, rfl, h3, fun z => ?_, fun _ a ha => ?_⟩
    · rw [← hl] at z
      rw [cutD_whole z] at q
      exact ⟨_, S3, r3, d3.sim, (s1.trans s2).trans s3, q⟩
    · obtain ⟨st, sm, e⟩ := d3.sim.new (o := .tup (cutV vs l u)) ha
      exact ⟨_, S3, rep_tup.mpr ⟨a, _, rfl, SqT.of e, (cut_rep h4).mono st⟩, sm, ((s1.trans s2).trans s3).trans st, q⟩
end
/-! ### names inside a comprehension -/
section
variable {c : Ctx} {s : Shared} {H : Hp} {scope : Scope} {C : Addr} {cl : List (Str × Addr)} {fp : List Addr} {ρ : DEnv} {S : SS} {Q : D → SS → Prop} {QT : Bool → SS → Prop} {pos : Pos}
theorem je_bn {i : Nat} {x : Str} {d : D} (a : c.X.N[i]? = some x) (v : Vis (compEnvC scope cl C c.X.env).scope x) (hd : ρ[i]? = some (some d)) (q : Q d S) (h1 : (x == ("__debug__" : Str)) = false := by decide) (h2 : (x == ("__classdict__" : Str)) = false := by decide) : JE (blkC c s H scope C cl fp) (.Name x pos) ρ S Q :=
  je_var (c := blkC c s H scope C cl fp) i hd a v q h1 h2
theorem jts_nil (q : QT true S) : JTs c [] ρ S QT := q
theorem jts_one {t : Expr} (h : JT c t ρ S QT) : JTs c [t] ρ S QT := h
theorem lcT_n {i : Nat} {x : Str} (hN : c.X.N.Nodup) (a : c.X.N[i]? = some x) (hx : ∀ C cl, Loc (compEnvC scope cl C c.X.env).scope x) (hf : ∀ C cl, (compEnvC scope cl C c.X.env).scope.names.lookup x = some .local) : LcT c scope (.Name x pos) (.n i) := fun s H C cl fp =>
  pg_name (X := c.X.blk s H scope (compEnvC scope cl C c.X.env) fp) hN a (hx C cl) (.inr (hf C cl))
theorem lcT_2 {i j : Nat} {x y : Str} {k : Nat} {p1 p2 : Pos} (hN : c.X.N.Nodup) (hc : c.X.calm = true) (a : c.X.N[i]? = some x) (b : c.X.N[j]? = some y) (hx : ∀ C cl, Loc (compEnvC scope cl C c.X.env).scope x) (hf : ∀ C cl, (compEnvC scope cl C c.X.env).scope.names.lookup x = some .local) (hy : ∀ C cl, Loc (compEnvC scope cl C c.X.env).scope y) (hg : ∀ C cl, (compEnvC scope cl C c.X.env).scope.names.lookup y = some .local) : LcT c scope (.Tuple [.Name x p1, .Name y p2] k pos) (.t [i, j]) := fun s H C cl fp =>
  pg_tup (X := c.X.blk s H scope (compEnvC scope cl C c.X.env) fp) hc (pgs_cons (pg_name (X := c.X.blk s H scope (compEnvC scope cl C c.X.env) fp) hN a (hx C cl) (.inr (hf C cl))) (pgs_cons (pg_name (X := c.X.blk s H scope (compEnvC scope cl C c.X.env) fp) hN b (hy C cl) (.inr (hg C cl))) pgs_nil))
end
end DP

/-! plain data: shape, equality, membership -/
namespace DP
open PySem L2
mutual
/-- data of a depth, its strings sound -/
def lev : Nat → D → Prop
  | _, .non => True
  | _, .bl _ => True
  | _, .int _ => True
  | _, .str x => PyData.canLay0 (.str x) = true
  | 0, .tup xs => False
  | n + 1, .tup xs => levs n xs
  | 0, .fl xs => False
  | n + 1, .fl xs => levs n xs
  | _, .ref _ => False
  | _, .ty _ => False
def levs : Nat → List D → Prop
  | _, [] => True
  | n, x :: xs => lev n x ∧ levs n xs
end
theorem levs_of {n : Nat} : ∀ {xs : List D}, (∀ x ∈ xs, lev n x) → levs n xs
  | [], _ => by unfold levs; trivial
  | x :: xs, h => by unfold levs; exact ⟨h x List.mem_cons_self, levs_of fun y hy => h y (List.mem_cons_of_mem _ hy)⟩
theorem lev_tup {n : Nat} {xs : List D} (h : ∀ x ∈ xs, lev n x) : lev (n + 1) (.tup xs) := by unfold lev; exact levs_of h
theorem lev_fl {n : Nat} {xs : List D} (h : ∀ x ∈ xs, lev n x) : lev (n + 1) (.fl xs) := by unfold lev; exact levs_of h
theorem lev_int {n : Nat} {i : Int} : lev n (.int i) := by unfold lev; trivial
theorem lev_bl {n : Nat} {i : Bool} : lev n (.bl i) := by unfold lev; trivial
theorem lev_non {n : Nat} : lev n .non := by unfold lev; trivial
mutual
theorem lev_ok : ∀ (n : Nat) (d : D), lev n d → isDt d = true ∧ (toPy d).canLay0 = true ∧ (toPy d).depth ≤ n
  | n, .non, _ => by unfold isDt toPy PyData.canLay0 PyData.depth; exact ⟨rfl, rfl, Nat.zero_le _⟩
  | n, .bl b, _ => by unfold isDt toPy PyData.canLay0 PyData.depth; exact ⟨rfl, rfl, Nat.zero_le _⟩
  | n, .int b, _ => by unfold isDt toPy PyData.canLay0 PyData.depth; exact ⟨rfl, rfl, Nat.zero_le _⟩
  | n, .str b, h => by
    unfold lev at h
    refine ⟨by unfold isDt; rfl, by unfold toPy; exact h, by unfold toPy PyData.depth; exact Nat.zero_le _⟩
  | 0, .tup xs, h => by unfold lev at h; exact h.elim
  | n + 1, .tup xs, h => by
    unfold lev at h
    obtain ⟨h1, h2, h3⟩ := levs_ok n xs h
    refine ⟨by unfold isDt; exact h1, by unfold toPy PyData.canLay0; exact h2, by unfold toPy PyData.depth; omega⟩
  | 0, .fl xs, h => by unfold lev at h; exact h.elim
  | n + 1, .fl xs, h => by
    unfold lev at h
    obtain ⟨h1, h2, h3⟩ := levs_ok n xs h
    refine ⟨by unfold isDt; exact h1, by unfold toPy PyData.canLay0; exact h2, by unfold toPy PyData.depth; omega⟩
  | n, .ref a, h => by unfold lev at h; exact h.elim
  | n, .ty a, h => by unfold lev at h; exact h.elim
theorem levs_ok : ∀ (n : Nat) (ds : List D), levs n ds → isDts ds = true ∧ PyData.canLayAll0 (toPys ds) = true ∧ PyData.depthAll (toPys ds) ≤ n
  | n, [], _ => by unfold isDts toPys PyData.canLayAll0 PyData.depthAll; exact ⟨rfl, rfl, Nat.zero_le _⟩
  | n, x :: xs, h => by
    unfold levs at h
    obtain ⟨h1, h2, h3⟩ := lev_ok n x h.1
    obtain ⟨g1, g2, g3⟩ := levs_ok n xs h.2
    refine ⟨by unfold isDts; rw [h1, g1]; rfl, by unfold toPys PyData.canLayAll0; rw [h2, g2]; rfl, by unfold toPys PyData.depthAll; omega⟩
end
theorem lev_shp {d : D} (h : lev 60 d) : shp d = true := by
  obtain ⟨h1, h2, h3⟩ := lev_ok 60 d h
  unfold shp SeqAt.shaped
  rw [h1, h2, decide_eq_true (by omega)]; rfl
mutual
/-- no flag in it -/
def nob : D → Bool
  | .bl _ => false
  | .tup xs => nobs xs
  | .fl xs => nobs xs
  | .ref _ => false
  | .ty _ => false
  | _ => true
def nobs : List D → Bool
  | [] => true
  | x :: xs => nob x && nobs xs
end
theorem nobs_of : ∀ {xs : List D}, (∀ x ∈ xs, nob x = true) → nobs xs = true
  | [], _ => by unfold nobs; rfl
  | x :: xs, h => by unfold nobs; rw [h x List.mem_cons_self, nobs_of fun y hy => h y (List.mem_cons_of_mem _ hy)]; rfl
mutual
theorem eqv_nob : ∀ (a b : D), nob a = true → nob b = true → (PyData.eqv (toPy a) (toPy b) = true ↔ a = b)
  | .non, b, _, hb => by cases b <;> simp [nob, toPy, PyData.eqv] at hb ⊢
  | .int i, b, _, hb => by cases b <;> simp [nob, toPy, PyData.eqv] at hb ⊢
  | .str i, b, _, hb => by cases b <;> simp [nob, toPy, PyData.eqv] at hb ⊢
  | .bl i, b, ha, hb => by simp [nob] at ha
  | .ref i, b, ha, hb => by simp [nob] at ha
  | .ty i, b, ha, hb => by simp [nob] at ha
  | .tup xs, b, ha, hb => by
    cases b with
    | tup ys =>
      have h1 : nobs xs = true := by unfold nob at ha; exact ha
      have h2 : nobs ys = true := by unfold nob at hb; exact hb
      have := eqvs_nob xs ys h1 h2
      simp only [toPy, PyData.eqv, this, D.tup.injEq]
    | _ => simp [nob, toPy, PyData.eqv] at hb ⊢
  | .fl xs, b, ha, hb => by
    cases b with
    | fl ys =>
      have h1 : nobs xs = true := by unfold nob at ha; exact ha
      have h2 : nobs ys = true := by unfold nob at hb; exact hb
      have := eqvs_nob xs ys h1 h2
      simp only [toPy, PyData.eqv, this, D.fl.injEq]
    | _ => simp [nob, toPy, PyData.eqv] at hb ⊢
theorem eqvs_nob : ∀ (as bs : List D), nobs as = true → nobs bs = true → (PyData.eqvAll (toPys as) (toPys bs) = true ↔ as = bs)
  | [], [], _, _ => by simp [toPys, PyData.eqvAll]
  | [], b :: bs, _, _ => by simp [toPys, PyData.eqvAll]
  | a :: as, [], _, _ => by simp [toPys, PyData.eqvAll]
  | a :: as, b :: bs, ha, hb => by
    unfold nobs at ha hb
    rw [Bool.and_eq_true] at ha hb
    have h1 := eqv_nob a b ha.1 hb.1
    have h2 := eqvs_nob as bs ha.2 hb.2
    simp only [toPys, PyData.eqvAll, Bool.and_eq_true, h1, h2, List.cons.injEq]
end
theorem deq_iff {a b : D} (ha : nob a = true) (hb : nob b = true) : deq a b = true ↔ a = b := eqv_nob a b ha hb
theorem deq_self {a : D} (ha : nob a = true) : deq a a = true := (deq_iff ha ha).mpr rfl
theorem Room65 {k : Nat} {A : Around} (r : Room k A) : A.units + 65 < cLine := by have := r.un; omega
theorem toV_int {xs : List Int} : (xs.map D.int).map toV = xs.map V.int := by rw [List.map_map]; rfl
theorem fl_ints {xs : List Int} : (xs.map D.int).all flD = true := by rw [List.all_map]; exact List.all_eq_true.mpr fun _ _ => rfl
theorem inF_int {a : Int} {xs : List Int} : inF (.int a) (xs.map D.int) = decide (a ∈ xs) := by
  unfold inF inV
  rw [toV_int]
  by_cases h : a ∈ xs
  · rw [decide_eq_true h]
    exact List.any_eq_true.mpr ⟨.int a, List.mem_map.mpr ⟨a, h, rfl⟩, by simp [toV, eqV]⟩
  · rw [decide_eq_false h]
    refine List.any_eq_false.mpr fun y hy => ?_
    obtain ⟨b, hb, rfl⟩ := List.mem_map.mp hy
    simp [toV, eqV]
    rintro rfl
    exact h hb
section
variable {c : Ctx} {e : Expr} {ρ : DEnv} {S : SS} {Q : D → SS → Prop}
/-- what is not needed any more leaves the store -/
theorem je_drop (a : Addr) (h : JE c e ρ S fun d S1 => Q d (sdel S1 a)) : JE c e ρ S Q := fun σ H ds => tE_mono (h σ H ds) fun v H' ⟨d, S', r, m, s, q⟩ => by
    obtain ⟨st, m2⟩ := m.freeze (a := a)
    exact ⟨d, sdel S' a, r.mono st, m2, s.trans st, q⟩
end
end DP

/-! the store's order, the laws' bags -/
namespace DP
open PySem L2
theorem sup_comm {S : SS} {p q : Addr} {a b : MO} (h : p ≠ q) : sup (sup S p a) q b = sup (sup S q b) p a := by
  funext x; unfold sup; split <;> split <;> first | rfl | (rename_i e1 e2; exact (h (e2.symm.trans e1)).elim)
/-- an older object of the store is written -/
theorem sup_under {S : SS} {p q : Addr} {a b f : MO} (h : p ≠ q) : sup (sup (sup S q a) p b) q f = sup (sup S q f) p b := by
  rw [sup_comm h, sup_sup]
theorem sdel_under {S : SS} {p q : Addr} {a b : MO} (h : p ≠ q) (hq : S q = none) : sdel (sup (sup S q a) p b) q = sup S p b := by
  rw [sup_comm h.symm, sdel_sup (by rw [sup_ne h.symm]; exact hq)]
theorem cdivw {i j : Int} (h : 0 < j) (h2 : j < 2 ^ 64) : CDivW i j := by
  refine ⟨h, ?_⟩
  have : j.natAbs.log2 < 64 := (Nat.log2_lt (by omega)).mpr (by omega)
  omega
theorem mulok_l {i j : Int} (h1 : -(2 ^ 64) < i) (h2 : i < 2 ^ 64) : IntMulOk i j := IntMulOk.of_left (intBits_le_64 h1 h2)
theorem mulok_r {i j : Int} (h1 : -(2 ^ 64) < j) (h2 : j < 2 ^ 64) : IntMulOk i j := IntMulOk.of_right (intBits_le_64 h1 h2)
section
variable {c : Ctx} {S : SS} {Q : D → SS → Prop}
theorem od_p18 (q : Q (.int 1000000000000000000) S) : OD c (binaryOp .Pow) (.int 10) (.int 18) S Q := od_pow (by unfold CPow; decide) (by rw [show (10 : Int) ^ (18 : Int).toNat = 1000000000000000000 from by decide]; exact q)
theorem od_p17 (q : Q (.int 100000000000000000) S) : OD c (binaryOp .Pow) (.int 10) (.int 17) S Q := od_pow (by unfold CPow; decide) (by rw [show (10 : Int) ^ (17 : Int).toNat = 100000000000000000 from by decide]; exact q)
theorem od_p16 (q : Q (.int 10000000000000000) S) : OD c (binaryOp .Pow) (.int 10) (.int 16) S Q := od_pow (by unfold CPow; decide) (by rw [show (10 : Int) ^ (16 : Int).toNat = 10000000000000000 from by decide]; exact q)
end
/-- one of a list's numbers -/
theorem atI_int {xs : List Int} {n : Int} (h0 : 0 ≤ n) (h1 : n < xs.length) : ∃ m, m ∈ xs ∧ atI (xs.map D.int) n = some (.int m) := by
  obtain ⟨k, rfl⟩ : ∃ k : Nat, n = k := ⟨n.toNat, by omega⟩
  have hk : k < xs.length := by omega
  exact ⟨xs[k], List.getElem_mem hk, atI_of rfl (by rw [List.getElem?_map, List.getElem?_eq_getElem hk]; rfl)⟩
theorem cutD_map {xs : List Int} {lo hi : Option Int} : ∃ ys : List Int, cutD (xs.map D.int) lo hi = ys.map D.int ∧ ys.length ≤ xs.length :=
  ⟨(xs.drop (HT.sIx xs.length 0 lo)).take (HT.sIx xs.length xs.length hi - HT.sIx xs.length 0 lo), by unfold cutD; rw [List.length_map, List.map_take, List.map_drop], by rw [List.length_take, List.length_drop]; omega⟩
/-- a law's bag: cells, place, what is left, turns -/
def OkBag (o : MO) : Prop := ∃ (cs : List Int) (at_ left turn : Int), o = .lst [.fl (cs.map D.int), .int at_, .int left, .int turn] ∧ 0 ≤ at_ ∧ 0 ≤ left
def BagOk (S : SS) (p : Addr) : Prop := ∃ b, S p = some b ∧ OkBag b
theorem BagOk.here {S : SS} {p : Addr} {b : MO} (h : OkBag b) : BagOk (sup S p b) p := ⟨b, sup_same, h⟩
theorem BagOk.ne {S : SS} {p q : Addr} (h : BagOk S p) (hq : S q = none) : p ≠ q := fun e => by
  obtain ⟨b, hb, _⟩ := h
  rw [e, hq] at hb
  cases hb
theorem td_bl {S : SS} {b : Bool} : TD S (.bl b) b := rfl
/-- both ways of an if come to the same -/
theorem js_join {c : Ctx} {sa sb : List Stmt} {ρ : DEnv} {S : SS} {nx bk ct : NK} {rt : RK} {b : Bool} (ρ1 : DEnv) (hx : nx ρ1 S) (h1 : b = true → ∀ nx' : NK, nx' ρ1 S → JSs c sa ρ S nx' rt bk ct) (h2 : b = false → ∀ nx' : NK, nx' ρ1 S → JSs c sb ρ S nx' rt bk ct) : if b = true then JSs c sa ρ S nx rt bk ct else JSs c sb ρ S nx rt bk ct := by
  cases b with
  | true => rw [if_pos rfl]; exact h1 rfl nx hx
  | false => rw [if_neg Bool.false_ne_true]; exact h2 rfl nx hx
end DP

namespace K41
open PySem L2 DP
def top (i : Nat) : Stmt := PySem.Challenge.pw_wholeways_k41_whole_needed_versions.main.body.getD i (.Pass ⟨0, 0, 0, 0⟩)
abbrev s_is_integer : Stmt := top 2
theorem sc_is_integer : FnScope ["thing"] ["thing"] (defScope s_is_integer) := ⟨rfl, rfl, rfl, by decide +kernel, rfl, by decide +kernel, by decide +kernel⟩
abbrev s_is_within : Stmt := top 3
theorem sc_is_within : FnScope ["thing", "least", "most"] ["thing", "least", "most"] (defScope s_is_within) := ⟨rfl, rfl, rfl, by decide +kernel, rfl, by decide +kernel, by decide +kernel⟩
abbrev s_is_pair : Stmt := top 4
theorem sc_is_pair : FnScope ["thing"] ["thing"] (defScope s_is_pair) := ⟨rfl, rfl, rfl, by decide +kernel, rfl, by decide +kernel, by decide +kernel⟩
abbrev s_is_lot : Stmt := top 5
theorem sc_is_lot : FnScope ["thing", "many", "last", "number"] ["thing", "many"] (defScope s_is_lot) := ⟨rfl, rfl, rfl, by decide +kernel, rfl, by decide +kernel, by decide +kernel⟩
abbrev s_is_worth : Stmt := top 6
theorem sc_is_worth : FnScope ["thing"] ["thing"] (defScope s_is_worth) := ⟨rfl, rfl, rfl, by decide +kernel, rfl, by decide +kernel, by decide +kernel⟩
abbrev s_is_mark : Stmt := top 7
theorem sc_is_mark : FnScope ["thing"] ["thing"] (defScope s_is_mark) := ⟨rfl, rfl, rfl, by decide +kernel, rfl, by decide +kernel, by decide +kernel⟩
abbrev s_is_commit : Stmt := top 8
theorem sc_is_commit : FnScope ["thing"] ["thing"] (defScope s_is_commit) := ⟨rfl, rfl, rfl, by decide +kernel, rfl, by decide +kernel, by decide +kernel⟩
abbrev s_NoVersions___init : Stmt := inClass (top 12) 0
theorem sc_NoVersions___init : FnScope ["self", "index"] ["self", "index"] (defScope s_NoVersions___init) := ⟨rfl, rfl, rfl, by decide +kernel, rfl, by decide +kernel, by decide +kernel⟩
abbrev s_check_versions : Stmt := top 15
theorem sc_check_versions : FnScope ["versions", "index", "version"] ["versions"] (defScope s_check_versions) := ⟨rfl, rfl, rfl, by decide +kernel, rfl, by decide +kernel, by decide +kernel⟩
abbrev s_check_last : Stmt := top 16
theorem sc_check_last : FnScope ["last", "least"] ["last", "least"] (defScope s_check_last) := ⟨rfl, rfl, rfl, by decide +kernel, rfl, by decide +kernel, by decide +kernel⟩
abbrev s_check_open : Stmt := top 17
theorem sc_check_open : FnScope ["open_lot", "last"] ["open_lot", "last"] (defScope s_check_open) := ⟨rfl, rfl, rfl, by decide +kernel, rfl, by decide +kernel, by decide +kernel⟩
abbrev s_check_asked : Stmt := top 18
theorem sc_check_asked : FnScope ["versions", "open_lot", "last"] ["versions", "open_lot", "last"] (defScope s_check_asked) := ⟨rfl, rfl, rfl, by decide +kernel, rfl, by decide +kernel, by decide +kernel⟩
abbrev s_seen_of : Stmt := top 19
theorem sc_seen_of : FnScope ["versions", "snapshot", "version"] ["versions", "snapshot"] (defScope s_seen_of) := ⟨rfl, rfl, rfl, by decide +kernel, rfl, by decide +kernel, by decide +kernel⟩
abbrev s_asked_of : Stmt := top 20
theorem sc_asked_of : FnScope ["open_lot", "last", "snapshot"] ["open_lot", "last"] (defScope s_asked_of) := ⟨rfl, rfl, rfl, by decide +kernel, rfl, by decide +kernel, by decide +kernel⟩
abbrev s_needed_of : Stmt := top 21
theorem sc_needed_of : FnScope ["versions", "open_lot", "last", "seen", "snapshot", "found", "version"] ["versions", "open_lot", "last"] (defScope s_needed_of) := ⟨rfl, rfl, rfl, by decide +kernel, rfl, by decide +kernel, by decide +kernel⟩
abbrev s_needed : Stmt := top 22
theorem sc_needed : FnScope ["versions", "open_lot", "last"] ["versions", "open_lot", "last"] (defScope s_needed) := ⟨rfl, rfl, rfl, by decide +kernel, rfl, by decide +kernel, by decide +kernel⟩
abbrev s_L_mixed : Stmt := top 24
theorem sc_L_mixed : FnScope ["_law_cell", "_law_turn", "_law_number"] ["_law_cell", "_law_turn"] (defScope s_L_mixed) := ⟨rfl, rfl, rfl, by decide +kernel, rfl, by decide +kernel, by decide +kernel⟩
abbrev s_L_bag : Stmt := top 25
theorem sc_L_bag : FnScope ["_law_script", "_law_cell"] ["_law_script"] (defScope s_L_bag) := ⟨rfl, rfl, rfl, by decide +kernel, rfl, by decide +kernel, by decide +kernel⟩
abbrev s_L_draw : Stmt := top 26
theorem sc_L_draw : FnScope ["_law_bag_here", "_law_many", "_law_found", "_law_cells", "_law_at", "_law_cell"] ["_law_bag_here", "_law_many"] (defScope s_L_draw) := ⟨rfl, rfl, rfl, by decide +kernel, rfl, by decide +kernel, by decide +kernel⟩
abbrev s_L_worth : Stmt := top 27
theorem sc_L_worth : FnScope ["_law_bag_here", "_law_kind"] ["_law_bag_here"] (defScope s_L_worth) := ⟨rfl, rfl, rfl, by decide +kernel, rfl, by decide +kernel, by decide +kernel⟩
abbrev s_L_versions : Stmt := top 28
theorem sc_L_versions : FnScope ["_law_bag_here", "_law_many", "_law_found", "_law_commit", "_law_k"] ["_law_bag_here"] (defScope s_L_versions) := ⟨rfl, rfl, rfl, by decide +kernel, rfl, by decide +kernel, by decide +kernel⟩
abbrev s_L_snapshot : Stmt := top 29
theorem sc_L_snapshot : FnScope ["_law_bag_here", "_law_versions_here", "_law_last", "_law_near"] ["_law_bag_here", "_law_versions_here", "_law_last"] (defScope s_L_snapshot) := ⟨rfl, rfl, rfl, by decide +kernel, rfl, by decide +kernel, by decide +kernel⟩
abbrev s_L_open : Stmt := top 30
theorem sc_L_open : FnScope ["_law_bag_here", "_law_versions_here", "_law_last", "_law_found", "_law_k", "_law_number"] ["_law_bag_here", "_law_versions_here", "_law_last"] (defScope s_L_open) := ⟨rfl, rfl, rfl, by decide +kernel, rfl, by decide +kernel, by decide +kernel⟩
abbrev s_L_needed : Stmt := top 31
theorem sc_L_needed : FnScope ["_law_versions_here", "_law_open_lot", "_law_found", "_law_back", "_law_at", "_law_commit", "_law_is_seen", "_law_snapshot_here"] ["_law_versions_here", "_law_open_lot"] (defScope s_L_needed) := ⟨rfl, rfl, rfl, by decide +kernel, rfl, by decide +kernel, by decide +kernel⟩
abbrev s_L_is_it : Stmt := top 32
theorem sc_L_is_it : FnScope ["_law_told", "_law_due", "_law_k"] ["_law_told", "_law_due"] (defScope s_L_is_it) := ⟨rfl, rfl, rfl, by decide +kernel, rfl, by decide +kernel, by decide +kernel⟩
abbrev s_law : Stmt := top 33
theorem sc_law : FnScope ["_law_script", "_law_bag_here", "_law_versions_here", "_law_last", "_law_open_lot", "_law_due", "_law_passed", "_law_kept", "_law_pair", "_law_more", "_law_wider", "_law_one"] ["_law_script"] (defScope s_law) := ⟨rfl, rfl, rfl, by decide +kernel, rfl, by decide +kernel, by decide +kernel⟩
/-- what the top has written -/
structure Top (K : PySem.W.Frag) (mg : Str → Option Value) : Prop where
  b_abs : mg "abs" = none
  b_bool : mg "bool" = none
  b_enumerate : mg "enumerate" = none
  b_int : mg "int" = none
  b_isinstance : mg "isinstance" = none
  b_len : mg "len" = none
  b_list : mg "list" = none
  b_min : mg "min" = none
  b_range : mg "range" = none
  b_sorted : mg "sorted" = none
  b_tuple : mg "tuple" = none
  c_MOST_WORTH : ∃ t, mg "MOST_WORTH" = some (.int (1000000000000000000) t)
  f_is_integer : ∃ f fd, mg "is_integer" = some (.ref f) ∧ Fun K "is_integer" "is_integer" s_is_integer f fd
  f_is_within : ∃ f fd, mg "is_within" = some (.ref f) ∧ Fun K "is_within" "is_within" s_is_within f fd
  f_is_pair : ∃ f fd, mg "is_pair" = some (.ref f) ∧ Fun K "is_pair" "is_pair" s_is_pair f fd
  f_is_lot : ∃ f fd, mg "is_lot" = some (.ref f) ∧ Fun K "is_lot" "is_lot" s_is_lot f fd
  f_is_worth : ∃ f fd, mg "is_worth" = some (.ref f) ∧ Fun K "is_worth" "is_worth" s_is_worth f fd
  f_is_mark : ∃ f fd, mg "is_mark" = some (.ref f) ∧ Fun K "is_mark" "is_mark" s_is_mark f fd
  f_is_commit : ∃ f fd, mg "is_commit" = some (.ref f) ∧ Fun K "is_commit" "is_commit" s_is_commit f fd
  f_check_versions : ∃ f fd, mg "check_versions" = some (.ref f) ∧ Fun K "check_versions" "check_versions" s_check_versions f fd
  f_check_last : ∃ f fd, mg "check_last" = some (.ref f) ∧ Fun K "check_last" "check_last" s_check_last f fd
  f_check_open : ∃ f fd, mg "check_open" = some (.ref f) ∧ Fun K "check_open" "check_open" s_check_open f fd
  f_check_asked : ∃ f fd, mg "check_asked" = some (.ref f) ∧ Fun K "check_asked" "check_asked" s_check_asked f fd
  f_seen_of : ∃ f fd, mg "seen_of" = some (.ref f) ∧ Fun K "seen_of" "seen_of" s_seen_of f fd
  f_asked_of : ∃ f fd, mg "asked_of" = some (.ref f) ∧ Fun K "asked_of" "asked_of" s_asked_of f fd
  f_needed_of : ∃ f fd, mg "needed_of" = some (.ref f) ∧ Fun K "needed_of" "needed_of" s_needed_of f fd
  f_needed : ∃ f fd, mg "needed" = some (.ref f) ∧ Fun K "needed" "needed" s_needed f fd
  f_L_mixed : ∃ f fd, mg "_law_mixed" = some (.ref f) ∧ Fun K "_law_mixed" "_law_mixed" s_L_mixed f fd
  f_L_bag : ∃ f fd, mg "_law_bag" = some (.ref f) ∧ Fun K "_law_bag" "_law_bag" s_L_bag f fd
  f_L_draw : ∃ f fd, mg "_law_draw" = some (.ref f) ∧ Fun K "_law_draw" "_law_draw" s_L_draw f fd
  f_L_worth : ∃ f fd, mg "_law_worth" = some (.ref f) ∧ Fun K "_law_worth" "_law_worth" s_L_worth f fd
  f_L_versions : ∃ f fd, mg "_law_versions" = some (.ref f) ∧ Fun K "_law_versions" "_law_versions" s_L_versions f fd
  f_L_snapshot : ∃ f fd, mg "_law_snapshot" = some (.ref f) ∧ Fun K "_law_snapshot" "_law_snapshot" s_L_snapshot f fd
  f_L_open : ∃ f fd, mg "_law_open" = some (.ref f) ∧ Fun K "_law_open" "_law_open" s_L_open f fd
  f_L_needed : ∃ f fd, mg "_law_needed" = some (.ref f) ∧ Fun K "_law_needed" "_law_needed" s_L_needed f fd
  f_L_is_it : ∃ f fd, mg "_law_is_it" = some (.ref f) ∧ Fun K "_law_is_it" "_law_is_it" s_L_is_it f fd
  f_law : ∃ f fd, mg "law" = some (.ref f) ∧ Fun K "law" "law" s_law f fd
end K41
namespace K41
open PySem L2 DP
/-! ### walking -/
local macro_rules | `(tactic| walk_at "d.nm") => `(tactic| (refine ⟨rfl, ?_, ?_, by decide, by decide⟩ <;> first | exact .inl rfl | exact .inr rfl))
local macro_rules | `(tactic| walk_at "d.nv") => `(tactic| (refine ⟨rfl, ?_, by decide, by decide⟩; first | exact .inl rfl | exact .inr (.inl rfl) | exact .inr (.inr rfl)))
local macro_rules | `(tactic| walk_at "d.ss") => `(tactic| first
  | ((with_reducible show JSs _ [] _ _ _ _ _ _); refine jss_nil ?_)
  | refine jss_cons ?_)
local macro_rules | `(tactic| walk_at "d.s") => `(tactic| first
  | ((with_reducible show JS _ (.Return (some _) _) _ _ _ _ _ _); refine js_ret ?_)
  | ((with_reducible show JS _ (.If _ _ _ _) _ _ _ _ _ _); refine js_if ?_)
  | ((with_reducible show JS _ (.Assign [.Name _ _] _ _) _ _ _ _ _ _); refine js_st (by with_reducible assumption) (by with_reducible assumption) ?_)
  | ((with_reducible show JS _ (.Assign _ _ _) _ _ _ _ _ _); refine js_asg ?_)
  | ((with_reducible show JS _ (.Expr _ _) _ _ _ _ _ _); refine js_expr ?_)
  | ((with_reducible show JS _ (.Return none _) _ _ _ _ _ _); refine js_retN ?_)
  | ((with_reducible show JS _ (.Pass _) _ _ _ _ _ _); refine js_pass ?_)
  | ((with_reducible show JS _ (.Break _) _ _ _ _ _ _); refine js_break ?_)
  | ((with_reducible show JS _ (.Continue _) _ _ _ _ _ _); refine js_continue ?_))
local macro_rules | `(tactic| walk_at "d.t") => `(tactic| first
  | ((with_reducible show JT _ (.Compare _ [_] [_] _) _ _ _); refine jt_cmp ?_)
  | ((with_reducible show JT _ (.Compare _ [_, _] [_, _] _) _ _ _); refine jt_chain ?_)
  | ((with_reducible show JT _ (.UnaryOp .Not _ _) _ _ _); refine jt_not ?_)
  | ((with_reducible show JT _ (.BoolOp _ _ _) _ _ _); refine jt_w ?_)
  | ((with_reducible show JT _ (.Call _ _ _ _) _ _ _); refine jt_bl ?_)
  | ((with_reducible show JT _ (.Name _ _) _ _ _); refine jt_truth ?_))
local macro_rules | `(tactic| walk_at "d.w") => `(tactic| first
  | ((with_reducible show JW _ (.BoolOp .And [_] _) _ _ _); refine jw_and1 ?_)
  | ((with_reducible show JW _ (.BoolOp .And _ _) _ _ _); refine jw_and ?_)
  | ((with_reducible show JW _ (.BoolOp .Or [_] _) _ _ _); refine jw_or1 ?_)
  | ((with_reducible show JW _ (.BoolOp .Or _ _) _ _ _); refine jw_or ?_))
local macro_rules | `(tactic| walk_at "d.e") => `(tactic| first
  | ((with_reducible show JE _ (.Name _ _) _ _ _); first
     | refine je_name (by with_reducible assumption) rfl ?_
     | refine je_namev (by with_reducible assumption) rfl ?_
     | refine je_bn (by with_reducible assumption) (by first | exact .inl rfl | exact .inr (.inl rfl) | exact .inr (.inr rfl)) rfl ?_
     | walk_at "d.gl")
  | ((with_reducible show JE _ (.Constant (.int _) _ _) _ _ _); refine je_int ?_)
  | ((with_reducible show JE _ (.Constant (.bool _) _ _) _ _ _); refine je_bl ?_)
  | ((with_reducible show JE _ (.Constant .none _ _) _ _ _); refine je_non ?_)
  | ((with_reducible show JE _ (.Constant (.str _) _ _) _ _ _); refine je_str ?_)
  | ((with_reducible show JE _ (.BinOp _ _ _ _) _ _ _); refine je_bin ?_)
  | ((with_reducible show JE _ (.Compare _ [_] [_] _) _ _ _); refine je_cmp ?_)
  | ((with_reducible show JE _ (.Compare _ [_, _] [_, _] _) _ _ _); refine je_chain ?_)
  | ((with_reducible show JE _ (.Subscript _ (.Slice _ _ none _) _) _ _ _); refine je_slice ?_)
  | ((with_reducible show JE _ (.Subscript _ (.Slice _ _ _ _) _) _ _ _); fail)
  | ((with_reducible show JE _ (.Subscript (.List _ _) _ _) _ _ _); refine je_ix (je_lst ?_))
  | ((with_reducible show JE _ (.Subscript _ _ _) _ _ _); refine je_ix ?_)
  | ((with_reducible show JE _ (.Call (.Name _ _) _ _ _) _ _ _); walk_at "d.call")
  | ((with_reducible show JE _ (.Call (.Attribute _ "append" _) [_] [] _) _ _ _); refine je_append ?_)
  | ((with_reducible show JE _ (.Tuple _ _ _) _ _ _); refine je_tup ?_)
  | ((with_reducible show JE _ (.BoolOp _ [_] _) _ _ _); refine je_one ?_)
  | ((with_reducible show JE _ (.BoolOp .And _ _) _ _ _); refine je_and ?_)
  | ((with_reducible show JE _ (.BoolOp .Or _ _) _ _ _); refine je_or ?_)
  | ((with_reducible show JE _ (.UnaryOp .Not _ _) _ _ _); refine je_not ?_)
  | ((with_reducible show JE _ (.UnaryOp .USub _ _) _ _ _); refine je_neg ?_)
  | ((with_reducible show JE _ (.IfExp _ _ _ _) _ _ _); refine je_ifExp ?_))
local macro_rules | `(tactic| walk_at "d.a") => `(tactic| first
  | ((with_reducible show JA _ [] _ _ _); refine ja_nil ?_)
  | refine ja_cons ?_)
local macro_rules | `(tactic| walk_at "d.o") => `(tactic| first
  | refine od_add ?_ | refine od_sub ?_ | refine od_lt ?_ | refine od_le ?_ | refine od_gt ?_ | refine od_ge ?_ | refine od_eqI ?_ | refine od_neI ?_
  | refine od_p18 ?_ | refine od_p17 ?_ | refine od_p16 ?_
  | refine od_mul (by first | exact mulok_l (by omega) (by omega) | exact mulok_r (by omega) (by omega)) ?_ | refine od_fdiv (cdivw (by omega) (by omega)) ?_
  | refine od_isN ?_ | refine od_notN ?_ | refine od_mod (by first | omega | decide) ?_ | refine od_eqS ?_ | refine od_neS ?_ | refine od_isB ?_ | refine od_notB ?_)
local macro_rules | `(tactic| walk_at "d.c") => `(tactic| first
  | refine cd_int ?_
  | refine cd_len (by first | exact .inl (.inl rfl) | exact .inr rfl | exact .inl (.inr ⟨_, rfl, by first | assumption | exact sup_same⟩)) ?_
  | refine cd_isI (by first | assumption | exact rfl) ?_
  | refine cd_isB (by first | assumption | exact rfl) ?_
  | refine cd_isS (by first | assumption | exact rfl) ?_
  | refine cd_isT (by first | assumption | exact rfl) ?_
  | refine cd_isLs (by first | assumption | exact rfl) ?_
  | refine cd_isDc (by first | assumption | exact rfl) ?_
  | refine cd_isLT (by first | assumption | exact rfl) ?_
  | refine cd_abs ?_
  | refine cd_min2 rfl ?_
  | refine cd_max2 rfl ?_
  | refine cd_tuple (by first | exact .inl (.inl rfl) | exact .inr rfl | exact .inl (.inr ⟨_, rfl, by first | assumption | exact sup_same⟩)) ?_)
local macro_rules | `(tactic| walk_at "d") => `(tactic| first
  | ((with_reducible show JSs _ _ _ _ _ _ _ _); walk_at "d.ss")
  | ((with_reducible show JE _ _ _ _ _); walk_at "d.e")
  | ((with_reducible show JT _ _ _ _ _); walk_at "d.t")
  | ((with_reducible show JW _ _ _ _ _); walk_at "d.w")
  | ((with_reducible show JS _ _ _ _ _ _ _ _); walk_at "d.s")
  | ((with_reducible show JA _ _ _ _ _); walk_at "d.a")
  | ((with_reducible show JG _ (.Subscript _ _ _) _ _ _ _); refine jg_ixL ?_)
  | ((with_reducible show OD _ _ _ _ _ _); walk_at "d.o")
  | ((with_reducible show ∃ k, D.bl _ = D.bl k ∧ _); refine ⟨_, rfl, ?_⟩)
  | ((with_reducible show ∃ k, D.int _ = D.int k ∧ _); refine ⟨_, rfl, ?_⟩)
  | ((with_reducible show ∃ l, D.ref _ = D.ref l ∧ (∃ ys, _ = some (MO.lst ys)) ∧ _); refine ⟨_, rfl, ⟨_, by first | assumption | exact sup_same⟩, ?_⟩)
  | ((with_reducible show ∃ k, TD _ (D.bl _) k ∧ _); refine ⟨_, td_bl, ?_⟩)
  | ((with_reducible show List.length _ ≤ sizeLine ∧ _); refine ⟨Nat.le_of_lt (small1000 (by simp)), ?_⟩)
  | ((with_reducible show ∃ xs i d, (IsL _ _ xs ∨ _ = D.tup xs) ∧ _); first | refine ⟨_, _, _, .inr rfl, rfl, rfl, ?_⟩ | refine ⟨_, _, _, .inl (.inr ⟨_, rfl, by first | assumption | exact sup_same⟩), rfl, rfl, ?_⟩)
  | ((with_reducible show ∃ l xs n j, _ = D.ref l ∧ _); refine ⟨_, _, _, _, rfl, by first | assumption | exact sup_same, rfl, rfl, ?_⟩; try rw [sup_sup])
  | ((with_reducible show if true = true then _ else _); refine iteT ?_)
  | ((with_reducible show if false = true then _ else _); refine iteF ?_)
  | ((with_reducible show if (!_) = true then _ else _); refine iteN ?_)
  | ((with_reducible show if _ = true then _ else _); first | refine iteT2 (by with_reducible rfl) ?_ | refine iteF2 (by with_reducible rfl) ?_)
  | ((with_reducible show CD _ _ _ _ _); walk_at "d.c")
  | walk_at "d.sp")

local macro_rules | `(tactic| walk_at "d.gl") => `(tactic| first
  | ((with_reducible show JE _ (.Name "int" _) _ _ _); refine je_ty (x := "int") rfl (by exact (‹Top _ _› : Top _ _).b_int) bt_int ?_)
  | ((with_reducible show JE _ (.Name "bool" _) _ _ _); refine je_ty (x := "bool") rfl (by exact (‹Top _ _› : Top _ _).b_bool) bt_bool ?_)
  | ((with_reducible show JE _ (.Name "tuple" _) _ _ _); refine je_ty (x := "tuple") rfl (by exact (‹Top _ _› : Top _ _).b_tuple) bt_tuple ?_)
  | ((with_reducible show JE _ (.Name "list" _) _ _ _); refine je_ty (x := "list") rfl (by exact (‹Top _ _› : Top _ _).b_list) bt_list ?_)
  | fail)
local macro_rules | `(tactic| walk_at "d.call") => `(tactic| first
  | ((with_reducible show JE _ (.Call (.Name "len" _) _ _ _) _ _ _); refine je_callB (by exact (‹Top _ _› : Top _ _).b_len) bt_len ?_)
  | ((with_reducible show JE _ (.Call (.Name "isinstance" _) _ _ _) _ _ _); refine je_callB (by exact (‹Top _ _› : Top _ _).b_isinstance) bt_isinstance ?_)
  | ((with_reducible show JE _ (.Call (.Name "abs" _) _ _ _) _ _ _); refine je_callB (by exact (‹Top _ _› : Top _ _).b_abs) bt_abs ?_)
  | ((with_reducible show JE _ (.Call (.Name "min" _) _ _ _) _ _ _); refine je_callB (by exact (‹Top _ _› : Top _ _).b_min) bt_min ?_)
  | ((with_reducible show JE _ (.Call (.Name "sorted" _) _ _ _) _ _ _); refine je_callB (by exact (‹Top _ _› : Top _ _).b_sorted) bt_sorted ?_)
  | ((with_reducible show JE _ (.Call (.Name "int" _) _ _ _) _ _ _); refine je_callTy (by exact (‹Top _ _› : Top _ _).b_int) bt_int ?_)
  | ((with_reducible show JE _ (.Call (.Name "tuple" _) _ _ _) _ _ _); refine je_callTy (by exact (‹Top _ _› : Top _ _).b_tuple) bt_tuple ?_)
  | ((with_reducible show JE _ (.Call (.Name "list" _) _ _ _) _ _ _); refine je_callTy (by exact (‹Top _ _› : Top _ _).b_list) bt_list ?_)
  | fail)
local macro_rules | `(tactic| walk_at "d.gl") => `(tactic| ((with_reducible show JE _ (.Name "MOST_WORTH" _) _ _ _); obtain ⟨t, ht⟩ := (‹Top _ _› : Top _ _).c_MOST_WORTH; refine je_gint rfl ht ?_))

variable {P : Program} {w : World} {K : PySem.W.Frag} {mg : Str → Option Value} {base : Heap}
def sp_is_integer : DSp := fun ds S Q _ => ∃ x, ds = [x] ∧ Kn S x ∧ Q (.bl (isInt x)) S
theorem ok_is_integer (T : Top K mg) : Fn P w K mg base 1 "is_integer" sp_is_integer := by
  obtain ⟨f, fd, hm, F⟩ := T.f_is_integer
  refine fn_mk F hm (F.binds fun _ _ _ _ _ _ us hl => match us, hl with | [_], _ => rfl) sc_is_integer (fun ds S Q E h => by repeat (first | (obtain ⟨e, _⟩ := h; subst e; rfl) | (obtain ⟨_, h⟩ := h))) fun cdv A outer s H E Ed ds S Q hr h => ?_
  have nd : (fnC P w K mg base ["thing"] "is_integer" s_is_integer f cdv A outer s H E Ed).X.N.Nodup := sc_is_integer.nd
  have n0 : Nm (fnC P w K mg base ["thing"] "is_integer" s_is_integer f cdv A outer s H E Ed) 0 "thing" := by walk_at "d.nm"
  obtain ⟨x, rfl, hx, q⟩ := h
  repeat walk_at "d"
  refine ite2 (fun h1 => ?_) (fun h1 => ?_)
  · repeat walk_at "d"
    cases x <;> first | exact q | cases h1
  · cases x <;> first | exact q | exact (h1 rfl).elim

local macro_rules | `(tactic| walk_at "d.call") => `(tactic| ((with_reducible show JE _ (.Call (.Name "is_integer" _) _ _ _) _ _ _); refine je_call (ok_is_integer (by assumption)) (Room.mono (by assumption) (by decide)) ?_))
local macro_rules | `(tactic| walk_at "d.sp") => `(tactic| ((with_reducible show sp_is_integer _ _ _ _); refine ⟨_, rfl, by first | assumption | exact rfl, ?_⟩))
def inW (x : D) (lo hi : Int) : Bool := match x with
  | .int i => decide (lo ≤ i) && decide (i ≤ hi)
  | _ => false
def sp_is_within : DSp := fun ds S Q _ => ∃ x lo hi, ds = [x, .int lo, .int hi] ∧ Kn S x ∧ Q (.bl (inW x lo hi)) S
theorem ok_is_within (T : Top K mg) : Fn P w K mg base 2 "is_within" sp_is_within := by
  obtain ⟨f, fd, hm, F⟩ := T.f_is_within
  refine fn_mk F hm (F.binds fun _ _ _ _ _ _ us hl => match us, hl with | [_, _, _], _ => rfl) sc_is_within (fun ds S Q E h => by repeat (first | (obtain ⟨e, _⟩ := h; subst e; rfl) | (obtain ⟨_, h⟩ := h))) fun cdv A outer s H E Ed ds S Q hr h => ?_
  have nd : (fnC P w K mg base ["thing", "least", "most"] "is_within" s_is_within f cdv A outer s H E Ed).X.N.Nodup := sc_is_within.nd
  have n0 : Nm (fnC P w K mg base ["thing", "least", "most"] "is_within" s_is_within f cdv A outer s H E Ed) 0 "thing" := by walk_at "d.nm"
  have n1 : Nm (fnC P w K mg base ["thing", "least", "most"] "is_within" s_is_within f cdv A outer s H E Ed) 1 "least" := by walk_at "d.nm"
  have n2 : Nm (fnC P w K mg base ["thing", "least", "most"] "is_within" s_is_within f cdv A outer s H E Ed) 2 "most" := by walk_at "d.nm"
  obtain ⟨x, lo, hi, rfl, hx, q⟩ := h
  repeat walk_at "d"
  cases x with
  | int i =>
    repeat walk_at "d"
    refine ite2 (fun h1 => ?_) (fun h1 => ?_)
    · repeat walk_at "d"
      have e : inW (.int i) lo hi = decide (i ≤ hi) := by show (decide (lo ≤ i) && decide (i ≤ hi)) = _; rw [h1, Bool.true_and]
      rw [← e]; exact q
    · have e : inW (.int i) lo hi = false := by show (decide (lo ≤ i) && decide (i ≤ hi)) = _; rw [Bool.eq_false_iff.mpr h1, Bool.false_and]
      rw [← e]; exact q
  | _ => exact q

local macro_rules | `(tactic| walk_at "d.call") => `(tactic| ((with_reducible show JE _ (.Call (.Name "is_within" _) _ _ _) _ _ _); refine je_call (ok_is_within (by assumption)) (Room.mono (by assumption) (by decide)) ?_))
local macro_rules | `(tactic| walk_at "d.sp") => `(tactic| ((with_reducible show sp_is_within _ _ _ _); refine ⟨_, _, _, rfl, by first | assumption | exact rfl, ?_⟩))
@[reducible] def isPr : D → Bool
  | .tup [_, _] => true
  | _ => false
def sp_is_pair : DSp := fun ds S Q _ => ∃ x, ds = [x] ∧ Kn S x ∧ Q (.bl (isPr x)) S
theorem ok_is_pair (T : Top K mg) : Fn P w K mg base 1 "is_pair" sp_is_pair := by
  obtain ⟨f, fd, hm, F⟩ := T.f_is_pair
  refine fn_mk F hm (F.binds fun _ _ _ _ _ _ us hl => match us, hl with | [_], _ => rfl) sc_is_pair (fun ds S Q E h => by repeat (first | (obtain ⟨e, _⟩ := h; subst e; rfl) | (obtain ⟨_, h⟩ := h))) fun cdv A outer s H E Ed ds S Q hr h => ?_
  have nd : (fnC P w K mg base ["thing"] "is_pair" s_is_pair f cdv A outer s H E Ed).X.N.Nodup := sc_is_pair.nd
  have n0 : Nm (fnC P w K mg base ["thing"] "is_pair" s_is_pair f cdv A outer s H E Ed) 0 "thing" := by walk_at "d.nm"
  obtain ⟨x, rfl, hx, q⟩ := h
  repeat walk_at "d"
  cases x with
  | tup xs =>
    repeat walk_at "d"
    have e : decide ((xs.length : Int) = 2) = isPr (.tup xs) := by
      match xs with
      | [] => rfl
      | [_] => rfl
      | [_, _] => rfl
      | _ :: _ :: _ :: r => simp [isPr]; omega
    rw [e]; exact q
  | _ => exact q

local macro_rules | `(tactic| walk_at "d.call") => `(tactic| ((with_reducible show JE _ (.Call (.Name "is_pair" _) _ _ _) _ _ _); refine je_call (ok_is_pair (by assumption)) (Room.mono (by assumption) (by decide)) ?_))
local macro_rules | `(tactic| walk_at "d.sp") => `(tactic| ((with_reducible show sp_is_pair _ _ _ _); refine ⟨_, rfl, by first | assumption | exact rfl, ?_⟩))

@[reducible] def encM : Option Int → D
  | none => .non
  | some i => .int i
theorem kn_encM {S : SS} {m : Option Int} : Kn S (encM m) := by cases m <;> exact rfl
def isLotF (many : Int) : Int → List D → Bool
  | _, [] => true
  | last, x :: xs => match x with
    | .int i => decide (last + 1 ≤ i) && decide (i ≤ many - 1) && isLotF many i xs
    | _ => false
theorem inW_int {i lo hi : Int} : inW (.int i) lo hi = (decide (lo ≤ i) && decide (i ≤ hi)) := rfl
def sp_is_lot : DSp := fun ds S Q _ => ∃ xs many, ds = [.tup xs, .int many] ∧ (∀ x ∈ xs, Kn S x) ∧ Q (.bl (isLotF many (-1) xs)) S
theorem ok_is_lot (T : Top K mg) : Fn P w K mg base 3 "is_lot" sp_is_lot := by
  obtain ⟨f, fd, hm, F⟩ := T.f_is_lot
  refine fn_mk F hm (F.binds fun _ _ _ _ _ _ us hl => match us, hl with | [_, _], _ => rfl) sc_is_lot (fun ds S Q E h => by repeat (first | (obtain ⟨e, _⟩ := h; subst e; rfl) | (obtain ⟨_, h⟩ := h))) fun cdv A outer s H E Ed ds S Q hr h => ?_
  have nd : (fnC P w K mg base ["thing", "many", "last", "number"] "is_lot" s_is_lot f cdv A outer s H E Ed).X.N.Nodup := sc_is_lot.nd
  have n0 : Nm (fnC P w K mg base ["thing", "many", "last", "number"] "is_lot" s_is_lot f cdv A outer s H E Ed) 0 "thing" := by walk_at "d.nm"
  have n1 : Nm (fnC P w K mg base ["thing", "many", "last", "number"] "is_lot" s_is_lot f cdv A outer s H E Ed) 1 "many" := by walk_at "d.nm"
  have n2 : Nm (fnC P w K mg base ["thing", "many", "last", "number"] "is_lot" s_is_lot f cdv A outer s H E Ed) 2 "last" := by walk_at "d.nm"
  have n3 : Nm (fnC P w K mg base ["thing", "many", "last", "number"] "is_lot" s_is_lot f cdv A outer s H E Ed) 3 "number" := by walk_at "d.nm"
  obtain ⟨xs, many, rfl, hx, q⟩ := h
  repeat walk_at "d"
  refine js_for ?_ fnC_po
  refine ji_tup ?_
  repeat walk_at "d"
  refine ⟨xs, rfl, ForD.todo (fun r ρ' S' => S' = S ∧ ∃ last o, ρ' = [some (.tup xs), some (.int many), some (.int last), o] ∧ (∀ x ∈ r, Kn S x) ∧ Q (.bl (isLotF many last r)) S) ⟨rfl, -1, none, rfl, hx, q⟩ (fun _ _ _ _ => trivial) ?_ ?_⟩
  · rintro d r ρ' S' ⟨rfl, last, o, rfl, hk, q⟩
    refine jg_nm n3 nd ?_
    have hk1 := hk d List.mem_cons_self
    repeat walk_at "d"
    cases d with
    | int i =>
      rw [inW_int]
      have e : isLotF many last (.int i :: r) = (decide (last + 1 ≤ i) && decide (i ≤ many - 1) && isLotF many i r) := rfl
      rw [e] at q
      cases h1 : (decide (last + 1 ≤ i) && decide (i ≤ many - 1)) with
      | true =>
        rw [h1, Bool.true_and] at q
        repeat walk_at "d"
        exact ⟨rfl, i, _, rfl, fun x hx => hk x (List.mem_cons_of_mem _ hx), q⟩
      | false =>
        rw [h1, Bool.false_and] at q
        repeat walk_at "d"
        exact q
    | _ =>
      refine iteF2 (by rfl) ?_
      repeat walk_at "d"
      exact q
  · rintro ρ' S' ⟨rfl, last, o, rfl, _, q⟩
    repeat walk_at "d"
    exact q

local macro_rules | `(tactic| walk_at "d.call") => `(tactic| ((with_reducible show JE _ (.Call (.Name "is_lot" _) _ _ _) _ _ _); refine je_call (ok_is_lot (by assumption)) (Room.mono (by assumption) (by decide)) ?_))
def sp_is_worth : DSp := fun ds S Q _ => ∃ x, ds = [x] ∧ Kn S x ∧ Q (.bl (inW x (-(10 ^ 18)) (10 ^ 18))) S
theorem ok_is_worth (T : Top K mg) : Fn P w K mg base 3 "is_worth" sp_is_worth := by
  obtain ⟨f, fd, hm, F⟩ := T.f_is_worth
  refine fn_mk F hm (F.binds fun _ _ _ _ _ _ us hl => match us, hl with | [_], _ => rfl) sc_is_worth (fun ds S Q E h => by repeat (first | (obtain ⟨e, _⟩ := h; subst e; rfl) | (obtain ⟨_, h⟩ := h))) fun cdv A outer s H E Ed ds S Q hr h => ?_
  have nd : (fnC P w K mg base ["thing"] "is_worth" s_is_worth f cdv A outer s H E Ed).X.N.Nodup := sc_is_worth.nd
  have n0 : Nm (fnC P w K mg base ["thing"] "is_worth" s_is_worth f cdv A outer s H E Ed) 0 "thing" := by walk_at "d.nm"
  obtain ⟨x, rfl, hx, q⟩ := h
  repeat walk_at "d"
  exact q

local macro_rules | `(tactic| walk_at "d.call") => `(tactic| ((with_reducible show JE _ (.Call (.Name "is_worth" _) _ _ _) _ _ _); refine je_call (ok_is_worth (by assumption)) (Room.mono (by assumption) (by decide)) ?_))
local macro_rules | `(tactic| walk_at "d.sp") => `(tactic| ((with_reducible show sp_is_worth _ _ _ _); refine ⟨_, rfl, by first | assumption | exact rfl, ?_⟩))
def sp_is_mark : DSp := fun ds S Q _ => ∃ x, ds = [x] ∧ Kn S x ∧ Q (.bl (isNon x || inW x (-(10 ^ 18)) (10 ^ 18))) S
theorem ok_is_mark (T : Top K mg) : Fn P w K mg base 4 "is_mark" sp_is_mark := by
  obtain ⟨f, fd, hm, F⟩ := T.f_is_mark
  refine fn_mk F hm (F.binds fun _ _ _ _ _ _ us hl => match us, hl with | [_], _ => rfl) sc_is_mark (fun ds S Q E h => by repeat (first | (obtain ⟨e, _⟩ := h; subst e; rfl) | (obtain ⟨_, h⟩ := h))) fun cdv A outer s H E Ed ds S Q hr h => ?_
  have nd : (fnC P w K mg base ["thing"] "is_mark" s_is_mark f cdv A outer s H E Ed).X.N.Nodup := sc_is_mark.nd
  have n0 : Nm (fnC P w K mg base ["thing"] "is_mark" s_is_mark f cdv A outer s H E Ed) 0 "thing" := by walk_at "d.nm"
  obtain ⟨x, rfl, hx, q⟩ := h
  repeat walk_at "d"
  cases h1 : isNon x with
  | true =>
    rw [h1, Bool.true_or] at q
    repeat walk_at "d"
    exact q
  | false =>
    rw [h1, Bool.false_or] at q
    repeat walk_at "d"
    exact q

local macro_rules | `(tactic| walk_at "d.call") => `(tactic| ((with_reducible show JE _ (.Call (.Name "is_mark" _) _ _ _) _ _ _); refine je_call (ok_is_mark (by assumption)) (Room.mono (by assumption) (by decide)) ?_))
local macro_rules | `(tactic| walk_at "d.sp") => `(tactic| ((with_reducible show sp_is_mark _ _ _ _); refine ⟨_, rfl, by first | assumption | exact rfl | exact kn_encM, ?_⟩))
def sp_is_commit : DSp := fun ds S Q _ => ∃ x, ds = [x] ∧ Kn S x ∧ Q (.bl (inW x 1 (10 ^ 18))) S
theorem ok_is_commit (T : Top K mg) : Fn P w K mg base 3 "is_commit" sp_is_commit := by
  obtain ⟨f, fd, hm, F⟩ := T.f_is_commit
  refine fn_mk F hm (F.binds fun _ _ _ _ _ _ us hl => match us, hl with | [_], _ => rfl) sc_is_commit (fun ds S Q E h => by repeat (first | (obtain ⟨e, _⟩ := h; subst e; rfl) | (obtain ⟨_, h⟩ := h))) fun cdv A outer s H E Ed ds S Q hr h => ?_
  have nd : (fnC P w K mg base ["thing"] "is_commit" s_is_commit f cdv A outer s H E Ed).X.N.Nodup := sc_is_commit.nd
  have n0 : Nm (fnC P w K mg base ["thing"] "is_commit" s_is_commit f cdv A outer s H E Ed) 0 "thing" := by walk_at "d.nm"
  obtain ⟨x, rfl, hx, q⟩ := h
  repeat walk_at "d"
  exact q

local macro_rules | `(tactic| walk_at "d.call") => `(tactic| ((with_reducible show JE _ (.Call (.Name "is_commit" _) _ _ _) _ _ _); refine je_call (ok_is_commit (by assumption)) (Room.mono (by assumption) (by decide)) ?_))
local macro_rules | `(tactic| walk_at "d.sp") => `(tactic| ((with_reducible show sp_is_commit _ _ _ _); refine ⟨_, rfl, by first | assumption | exact rfl, ?_⟩))
/-! ### versions -/
abbrev Ver := Int × Option Int
@[reducible] def encV (v : Ver) : D := .tup [.int v.1, encM v.2]
def encVs (vs : List Ver) : List D := vs.map encV
def encO : Option Ver → D
  | none => .non
  | some v => encV v
structure OkV (v : Ver) : Prop where
  c1 : 1 ≤ v.1
  c2 : v.1 ≤ 10 ^ 18
  mb : ∀ i, v.2 = some i → -(10 ^ 18) ≤ i ∧ i ≤ 10 ^ 18
theorem OkV.com {v : Ver} (h : OkV v) : inW (.int v.1) 1 (10 ^ 18) = true := by
  rw [inW_int, decide_eq_true h.c1, decide_eq_true h.c2]; rfl
theorem OkV.mrk {v : Ver} (h : OkV v) : (isNon (encM v.2) || inW (encM v.2) (-(10 ^ 18)) (10 ^ 18)) = true := by
  cases e : v.2 with
  | none => rfl
  | some i =>
    obtain ⟨h1, h2⟩ := h.mb i e
    show (false || (decide (-(10 ^ 18) ≤ i) && decide (i ≤ 10 ^ 18))) = true
    rw [decide_eq_true h1, decide_eq_true h2]; rfl
def Desc (vs : List Ver) : Prop := vs.Pairwise fun a b => b.1 < a.1
theorem kn_encV {S : SS} {v : Ver} : Kn S (encV v) := rfl
/-- a list or a tuple of versions -/
def IsVs (x : D) (vs : List Ver) : Prop := x = .fl (encVs vs) ∨ x = .tup (encVs vs)
theorem IsVs.q {S : SS} {x : D} {vs : List Ver} (h : IsVs x vs) : IsQ S x (encVs vs) := by
  rcases h with rfl | rfl
  · exact .inl (.inl rfl)
  · exact .inr rfl
theorem IsVs.kn {S : SS} {x : D} {vs : List Ver} (h : IsVs x vs) : Kn S x := by rcases h with rfl | rfl <;> exact rfl
theorem enums_get {xs : List D} {i : Nat} {d : D} (h : (enums xs)[i]? = some d) : ∃ x, xs[i]? = some x ∧ d = .tup [.int (i : Nat), x] := by
  unfold enums at h
  rw [List.getElem?_mapIdx] at h
  cases e : xs[i]? with
  | none => rw [e] at h; cases h
  | some x => rw [e] at h; cases h; exact ⟨x, rfl, rfl⟩
theorem encVs_get {vs : List Ver} {i : Nat} {d : D} (h : (encVs vs)[i]? = some d) : ∃ v, vs[i]? = some v ∧ d = encV v := by
  unfold encVs at h
  rw [List.getElem?_map] at h
  cases e : vs[i]? with
  | none => rw [e] at h; cases h
  | some x => rw [e] at h; cases h; exact ⟨x, rfl, rfl⟩
theorem encVs_at {vs : List Ver} {i : Nat} {v : Ver} (h : vs[i]? = some v) : (encVs vs)[i]? = some (encV v) := by
  unfold encVs
  rw [List.getElem?_map, h]; rfl
theorem desc_at {vs : List Ver} (h : Desc vs) {i : Nat} {a b : Ver} (ha : vs[i]? = some a) (hb : vs[i + 1]? = some b) : b.1 < a.1 := by
  obtain ⟨h1, e1⟩ := List.getElem?_eq_some_iff.mp ha
  obtain ⟨h2, e2⟩ := List.getElem?_eq_some_iff.mp hb
  have := List.pairwise_iff_getElem.mp h i (i + 1) h1 h2 (Nat.lt_succ_self _)
  rw [e1, e2] at this
  exact this
def sp_check_versions : DSp := fun ds S Q _ => ∃ x vs, ds = [x] ∧ IsVs x vs ∧ (∀ v ∈ vs, OkV v) ∧ Desc vs ∧ Q .non S
theorem ok_check_versions (T : Top K mg) : Fn P w K mg base 5 "check_versions" sp_check_versions := by
  obtain ⟨f, fd, hm, F⟩ := T.f_check_versions
  refine fn_mk F hm (F.binds fun _ _ _ _ _ _ us hl => match us, hl with | [_], _ => rfl) sc_check_versions (fun ds S Q E h => by repeat (first | (obtain ⟨e, _⟩ := h; subst e; rfl) | (obtain ⟨_, h⟩ := h))) fun cdv A outer s H E Ed ds S Q hr h => ?_
  have nd : (fnC P w K mg base ["versions", "index", "version"] "check_versions" s_check_versions f cdv A outer s H E Ed).X.N.Nodup := sc_check_versions.nd
  have n0 : Nm (fnC P w K mg base ["versions", "index", "version"] "check_versions" s_check_versions f cdv A outer s H E Ed) 0 "versions" := by walk_at "d.nm"
  have n1 : Nm (fnC P w K mg base ["versions", "index", "version"] "check_versions" s_check_versions f cdv A outer s H E Ed) 1 "index" := by walk_at "d.nm"
  have n2 : Nm (fnC P w K mg base ["versions", "index", "version"] "check_versions" s_check_versions f cdv A outer s H E Ed) 2 "version" := by walk_at "d.nm"
  obtain ⟨x, vs, rfl, hx, ok, hd, q⟩ := h
  rcases hx with rfl | rfl
  all_goals
    repeat walk_at "d"
    refine iteT2 rfl ?_
    repeat walk_at "d"
    refine js_for ?_ fnC_po
    first
      | (refine ji_enumT T.b_enumerate ?_; (repeat walk_at "d"); refine ⟨_, rfl, ?_⟩)
      | (refine ji_enum T.b_enumerate ?_; (repeat walk_at "d"); refine ⟨_, rfl, ?_⟩)
    refine ⟨fun i ρ' S2 => S2 = S ∧ ∃ o1 o2, ρ' = [some _, o1, o2], ⟨rfl, none, none, rfl⟩, fun _ _ _ _ => trivial, ?_, ?_⟩
    · rintro i d ρ' S2 hi ⟨rfl, o1, o2, rfl⟩
      obtain ⟨y, hy, rfl⟩ := enums_get hi
      obtain ⟨v, hv, rfl⟩ := encVs_get hy
      have okv := ok v (List.mem_of_getElem? hv)
      refine jg_tup (jgs_cons (jg_nm n1 nd (jgs_cons (jg_nm n2 nd (jgs_nil ?_))))) rfl
      repeat walk_at "d"
      refine iteT2 okv.com ?_
      repeat walk_at "d"
      refine iteT2 okv.mrk ?_
      repeat walk_at "d"
      cases i with
      | zero =>
        refine iteF2 rfl ?_
        repeat walk_at "d"
        exact ⟨rfl, _, _, rfl⟩
      | succ i =>
        refine iteT2 (decide_eq_true (by omega)) ?_
        repeat walk_at "d"
        obtain ⟨u, hu⟩ : ∃ u, vs[i]? = some u := ⟨_, List.getElem?_eq_getElem (by have := (List.getElem?_eq_some_iff.mp hv).1; omega)⟩
        have hlt := desc_at hd hu hv
        refine ⟨encVs vs, _, encV u, by first | exact .inl (.inl rfl) | exact .inr rfl, rfl, atI_of (by omega) (encVs_at hu), ?_⟩
        repeat walk_at "d"
        refine iteF2 (decide_eq_false (by omega)) ?_
        repeat walk_at "d"
        exact ⟨rfl, _, _, rfl⟩
    · rintro ρ' S2 ⟨rfl, o1, o2, rfl⟩
      repeat walk_at "d"
      exact q

local macro_rules | `(tactic| walk_at "d.call") => `(tactic| ((with_reducible show JE _ (.Call (.Name "check_versions" _) _ _ _) _ _ _); refine je_call (ok_check_versions (by assumption)) (Room.mono (by assumption) (by decide)) ?_))
local macro_rules | `(tactic| walk_at "d.sp") => `(tactic| ((with_reducible show sp_check_versions _ _ _ _); refine ⟨_, _, rfl, by assumption, by assumption, by assumption, ?_⟩))
def sp_check_last : DSp := fun ds S Q _ => ∃ last least, ds = [.int last, .int least] ∧ least ≤ last ∧ last ≤ 10 ^ 18 ∧ Q .non S
theorem ok_check_last (T : Top K mg) : Fn P w K mg base 3 "check_last" sp_check_last := by
  obtain ⟨f, fd, hm, F⟩ := T.f_check_last
  refine fn_mk F hm (F.binds fun _ _ _ _ _ _ us hl => match us, hl with | [_, _], _ => rfl) sc_check_last (fun ds S Q E h => by repeat (first | (obtain ⟨e, _⟩ := h; subst e; rfl) | (obtain ⟨_, h⟩ := h))) fun cdv A outer s H E Ed ds S Q hr h => ?_
  have nd : (fnC P w K mg base ["last", "least"] "check_last" s_check_last f cdv A outer s H E Ed).X.N.Nodup := sc_check_last.nd
  have n0 : Nm (fnC P w K mg base ["last", "least"] "check_last" s_check_last f cdv A outer s H E Ed) 0 "last" := by walk_at "d.nm"
  have n1 : Nm (fnC P w K mg base ["last", "least"] "check_last" s_check_last f cdv A outer s H E Ed) 1 "least" := by walk_at "d.nm"
  obtain ⟨last, least, rfl, h1, h2, q⟩ := h
  repeat walk_at "d"
  refine iteT2 (by rw [inW_int, decide_eq_true h1, decide_eq_true (by omega)]; rfl) ?_
  repeat walk_at "d"
  exact q

local macro_rules | `(tactic| walk_at "d.call") => `(tactic| ((with_reducible show JE _ (.Call (.Name "check_last" _) _ _ _) _ _ _); refine je_call (ok_check_last (by assumption)) (Room.mono (by assumption) (by decide)) ?_))
theorem lot_ok {last : Int} : ∀ {os : List Int} {m : Int}, os.Pairwise (· < ·) → (∀ o ∈ os, m < o ∧ o ≤ last) → isLotF (last + 1) m (os.map D.int) = true
  | [], m, _, _ => rfl
  | o :: os, m, hp, hb => by
    rw [List.pairwise_cons] at hp
    have h1 := hb o List.mem_cons_self
    show (decide (m + 1 ≤ o) && decide (o ≤ last + 1 - 1) && isLotF (last + 1) o (os.map D.int)) = true
    rw [decide_eq_true (by omega), decide_eq_true (by omega), lot_ok hp.2 fun x hx => ⟨hp.1 x hx, (hb x (List.mem_cons_of_mem _ hx)).2⟩]
    rfl
/-- the snapshots that are open: ascending, none past the last -/
structure OkO (os : List Int) (last : Int) : Prop where
  asc : os.Pairwise (· < ·)
  low : ∀ o ∈ os, 0 ≤ o
  top : ∀ o ∈ os, o ≤ last
  few : os.length ≤ 1000
def sp_check_open : DSp := fun ds S Q _ => ∃ os last, ds = [.tup (os.map .int), .int last] ∧ OkO os last ∧ Q .non S
theorem ok_check_open (T : Top K mg) : Fn P w K mg base 4 "check_open" sp_check_open := by
  obtain ⟨f, fd, hm, F⟩ := T.f_check_open
  refine fn_mk F hm (F.binds fun _ _ _ _ _ _ us hl => match us, hl with | [_, _], _ => rfl) sc_check_open (fun ds S Q E h => by repeat (first | (obtain ⟨e, _⟩ := h; subst e; rfl) | (obtain ⟨_, h⟩ := h))) fun cdv A outer s H E Ed ds S Q hr h => ?_
  have nd : (fnC P w K mg base ["open_lot", "last"] "check_open" s_check_open f cdv A outer s H E Ed).X.N.Nodup := sc_check_open.nd
  have n0 : Nm (fnC P w K mg base ["open_lot", "last"] "check_open" s_check_open f cdv A outer s H E Ed) 0 "open_lot" := by walk_at "d.nm"
  have n1 : Nm (fnC P w K mg base ["open_lot", "last"] "check_open" s_check_open f cdv A outer s H E Ed) 1 "last" := by walk_at "d.nm"
  obtain ⟨os, last, rfl, ok, q⟩ := h
  repeat walk_at "d"
  refine ⟨_, _, rfl, fun x hx => ?_, ?_⟩
  · obtain ⟨i, _, rfl⟩ := List.mem_map.mp hx
    exact rfl
  repeat walk_at "d"
  refine iteT2 (lot_ok ok.asc fun o ho => ⟨by have := ok.low o ho; omega, ok.top o ho⟩) ?_
  repeat walk_at "d"
  exact q

local macro_rules | `(tactic| walk_at "d.call") => `(tactic| ((with_reducible show JE _ (.Call (.Name "check_open" _) _ _ _) _ _ _); refine je_call (ok_check_open (by assumption)) (Room.mono (by assumption) (by decide)) ?_))
local macro_rules | `(tactic| walk_at "d.sp") => `(tactic| ((with_reducible show sp_check_last _ _ _ _); refine ⟨_, _, rfl, by assumption, by assumption, ?_⟩))
local macro_rules | `(tactic| walk_at "d.sp") => `(tactic| ((with_reducible show sp_check_open _ _ _ _); refine ⟨_, _, rfl, by assumption, ?_⟩))
/-- the newest commit, 0 where there is none -/
def newest : List Ver → Int
  | [] => 0
  | v :: _ => v.1
def sp_check_asked : DSp := fun ds S Q _ => ∃ x vs os last, ds = [x, .tup (os.map .int), .int last] ∧ IsVs x vs ∧ (∀ v ∈ vs, OkV v) ∧ Desc vs ∧ newest vs ≤ last ∧ last ≤ 10 ^ 18 ∧ OkO os last ∧ Q .non S
theorem ok_check_asked (T : Top K mg) : Fn P w K mg base 6 "check_asked" sp_check_asked := by
  obtain ⟨f, fd, hm, F⟩ := T.f_check_asked
  refine fn_mk F hm (F.binds fun _ _ _ _ _ _ us hl => match us, hl with | [_, _, _], _ => rfl) sc_check_asked (fun ds S Q E h => by repeat (first | (obtain ⟨e, _⟩ := h; subst e; rfl) | (obtain ⟨_, h⟩ := h))) fun cdv A outer s H E Ed ds S Q hr h => ?_
  have nd : (fnC P w K mg base ["versions", "open_lot", "last"] "check_asked" s_check_asked f cdv A outer s H E Ed).X.N.Nodup := sc_check_asked.nd
  have n0 : Nm (fnC P w K mg base ["versions", "open_lot", "last"] "check_asked" s_check_asked f cdv A outer s H E Ed) 0 "versions" := by walk_at "d.nm"
  have n1 : Nm (fnC P w K mg base ["versions", "open_lot", "last"] "check_asked" s_check_asked f cdv A outer s H E Ed) 1 "open_lot" := by walk_at "d.nm"
  have n2 : Nm (fnC P w K mg base ["versions", "open_lot", "last"] "check_asked" s_check_asked f cdv A outer s H E Ed) 2 "last" := by walk_at "d.nm"
  obtain ⟨x, vs, os, last, rfl, hx, ok, hd, h1, h2, ho, q⟩ := h
  repeat walk_at "d"
  refine cd_len hx.q ?_
  repeat walk_at "d"
  cases vs with
  | nil =>
    refine iteF2 rfl ?_
    repeat walk_at "d"
    exact q
  | cons v vs =>
    refine iteT2 (decide_eq_true (by show (0 : Int) < ((encVs vs).length + 1 : Nat); omega)) ?_
    repeat walk_at "d"
    refine ⟨encVs (v :: vs), _, encV v, hx.q, rfl, atI_of (n := 0) rfl rfl, ?_⟩
    have h1' : v.1 ≤ last := h1
    repeat walk_at "d"
    exact q

local macro_rules | `(tactic| walk_at "d.call") => `(tactic| ((with_reducible show JE _ (.Call (.Name "check_asked" _) _ _ _) _ _ _); refine je_call (ok_check_asked (by assumption)) (Room.mono (by assumption) (by decide)) ?_))
local macro_rules | `(tactic| walk_at "d.sp") => `(tactic| ((with_reducible show sp_check_asked _ _ _ _); refine ⟨_, _, _, _, rfl, by assumption, by assumption, by assumption, by assumption, by assumption, by assumption, ?_⟩))

/-- the version that a reader of a snapshot sees -/
def seenV (vs : List Ver) (s : Int) : Option Ver := vs.find? fun v => decide (v.1 ≤ s)
def sp_seen_of : DSp := fun ds S Q _ => ∃ x vs n, ds = [x, .int n] ∧ IsVs x vs ∧ Q (encO (seenV vs n)) S
theorem ok_seen_of (T : Top K mg) : Fn P w K mg base 1 "seen_of" sp_seen_of := by
  obtain ⟨f, fd, hm, F⟩ := T.f_seen_of
  refine fn_mk F hm (F.binds fun _ _ _ _ _ _ us hl => match us, hl with | [_, _], _ => rfl) sc_seen_of (fun ds S Q E h => by repeat (first | (obtain ⟨e, _⟩ := h; subst e; rfl) | (obtain ⟨_, h⟩ := h))) fun cdv A outer s H E Ed ds S Q hr h => ?_
  have nd : (fnC P w K mg base ["versions", "snapshot", "version"] "seen_of" s_seen_of f cdv A outer s H E Ed).X.N.Nodup := sc_seen_of.nd
  have n0 : Nm (fnC P w K mg base ["versions", "snapshot", "version"] "seen_of" s_seen_of f cdv A outer s H E Ed) 0 "versions" := by walk_at "d.nm"
  have n1 : Nm (fnC P w K mg base ["versions", "snapshot", "version"] "seen_of" s_seen_of f cdv A outer s H E Ed) 1 "snapshot" := by walk_at "d.nm"
  have n2 : Nm (fnC P w K mg base ["versions", "snapshot", "version"] "seen_of" s_seen_of f cdv A outer s H E Ed) 2 "version" := by walk_at "d.nm"
  obtain ⟨x, vs, n, rfl, hx, q⟩ := h
  rcases hx with rfl | rfl
  all_goals
    repeat walk_at "d"
    refine js_for ?_ fnC_po
    first
      | (refine ji_fl ?_; (repeat walk_at "d"); refine ⟨encVs vs, rfl, ?_⟩)
      | (refine ji_tup ?_; (repeat walk_at "d"); refine ⟨encVs vs, rfl, ?_⟩)
    refine (ForD.todo (fun r ρ' S' => S' = S ∧ ∃ vr o, r = encVs vr ∧ ρ' = [some _, some (.int n), o] ∧ Q (encO (seenV vr n)) S) ⟨rfl, vs, none, rfl, rfl, q⟩ (fun _ _ _ _ => trivial) ?_ ?_)
    · rintro d r ρ' S' ⟨rfl, vr, o, e, rfl, q⟩
      cases vr with
      | nil => cases e
      | cons v vr =>
        cases e
        refine jg_nm n2 nd ?_
        repeat walk_at "d"
        have e : seenV (v :: vr) n = if decide (v.1 ≤ n) = true then some v else seenV vr n := by
          unfold seenV
          rw [List.find?_cons]
          cases decide (v.1 ≤ n) <;> rfl
        rw [e] at q
        refine ite2 (fun h1 => ?_) (fun h1 => ?_)
        · rw [if_pos h1] at q
          repeat walk_at "d"
          exact q
        · rw [if_neg h1] at q
          repeat walk_at "d"
          exact ⟨rfl, vr, _, rfl, rfl, q⟩
    · rintro ρ' S' ⟨rfl, vr, o, e, rfl, q⟩
      cases vr with
      | cons v vr => cases e
      | nil =>
        repeat walk_at "d"
        exact q

local macro_rules | `(tactic| walk_at "d.call") => `(tactic| ((with_reducible show JE _ (.Call (.Name "seen_of" _) _ _ _) _ _ _); refine je_call (ok_seen_of (by assumption)) (Room.mono (by assumption) (by decide)) ?_))
local macro_rules | `(tactic| walk_at "d.sp") => `(tactic| ((with_reducible show sp_seen_of _ _ _ _); refine ⟨_, _, _, rfl, by assumption, ?_⟩))
def askV (os : List Int) (last : Int) : List Int := os.filter (fun o => decide (o < last)) ++ [last]
def ltD (last : Int) : D → Bool
  | .int o => decide (o < last)
  | _ => false
theorem ltD_map {os : List Int} {last : Int} : ((os.map D.int).filter (ltD last)).map id = (os.filter (fun o => decide (o < last))).map D.int := by
  rw [List.map_id, List.filter_map]; rfl
def sp_asked_of : DSp := fun ds S Q _ => ∃ os last, ds = [.tup (os.map .int), .int last] ∧ os.length ≤ 1000 ∧ Q (.tup ((askV os last).map .int)) S
theorem ok_asked_of (T : Top K mg) : Fn P w K mg base 1 "asked_of" sp_asked_of := by
  obtain ⟨f, fd, hm, F⟩ := T.f_asked_of
  refine fn_mk F hm (F.binds fun _ _ _ _ _ _ us hl => match us, hl with | [_, _], _ => rfl) sc_asked_of (fun ds S Q E h => by repeat (first | (obtain ⟨e, _⟩ := h; subst e; rfl) | (obtain ⟨_, h⟩ := h))) fun cdv A outer s H E Ed ds S Q hr h => ?_
  have nd : (fnC P w K mg base ["open_lot", "last", "snapshot"] "asked_of" s_asked_of f cdv A outer s H E Ed).X.N.Nodup := sc_asked_of.nd
  have a0 : (fnC P w K mg base ["open_lot", "last", "snapshot"] "asked_of" s_asked_of f cdv A outer s H E Ed).X.N[0]? = some ("open_lot" : Str) := rfl
  have n0 : Nm (fnC P w K mg base ["open_lot", "last", "snapshot"] "asked_of" s_asked_of f cdv A outer s H E Ed) 0 "open_lot" := by walk_at "d.nm"
  have a1 : (fnC P w K mg base ["open_lot", "last", "snapshot"] "asked_of" s_asked_of f cdv A outer s H E Ed).X.N[1]? = some ("last" : Str) := rfl
  have n1 : Nm (fnC P w K mg base ["open_lot", "last", "snapshot"] "asked_of" s_asked_of f cdv A outer s H E Ed) 1 "last" := by walk_at "d.nm"
  have a2 : (fnC P w K mg base ["open_lot", "last", "snapshot"] "asked_of" s_asked_of f cdv A outer s H E Ed).X.N[2]? = some ("snapshot" : Str) := rfl
  obtain ⟨os, last, rfl, hl, q⟩ := h
  repeat walk_at "d"
  refine je_lc (.n 2) [("snapshot", 2)] nd ?_ (lcT_n nd a2 (fun _ _ => .inl rfl) (fun _ _ => rfl)) (by rfl)
  refine ji_tup ?_
  repeat walk_at "d"
  refine ⟨_, rfl, CompD.pure (ltD last) id (by rw [List.length_map]; exact Nat.lt_of_le_of_lt hl (by decide)) (fun _ _ _ => trivial) (fun d S' hd => ?_) fun Dl hn => ?_⟩
  · obtain ⟨o, ho, rfl⟩ := List.mem_map.mp hd
    refine ⟨_, rfl, fun s H C cl fp => jts_one ?_⟩
    repeat walk_at "d"
    refine ⟨rfl, rfl, fun _ s H C cl fp => ?_⟩
    repeat walk_at "d"
    exact ⟨rfl, rfl⟩
  · repeat walk_at "d"
    have hf := List.length_filter_le (fun o => decide (o < last)) os
    rw [ltD_map]
    refine od_catA (Nat.le_trans (m := 1001) (by rw [List.length_map]; simp only [List.length_cons, List.length_nil]; omega) (by decide)) ?_
    have e : (askV os last).map D.int = (os.filter (fun o => decide (o < last))).map D.int ++ [.int last] := by
      unfold askV
      rw [List.map_append]; rfl
    rw [e] at q
    exact q

local macro_rules | `(tactic| walk_at "d.call") => `(tactic| ((with_reducible show JE _ (.Call (.Name "asked_of" _) _ _ _) _ _ _); refine je_call (ok_asked_of (by assumption)) (Room.mono (by assumption) (by decide)) ?_))
theorem askV_few {os : List Int} {last : Int} : (askV os last).length ≤ os.length + 1 := by
  unfold askV
  have := List.length_filter_le (fun o => decide (o < last)) os
  rw [List.length_append]; simp only [List.length_cons, List.length_nil]; omega
local macro_rules | `(tactic| walk_at "d.sp") => `(tactic| ((with_reducible show sp_asked_of _ _ _ _); refine ⟨_, _, rfl, by assumption, ?_⟩))
theorem nob_encM {m : Option Int} : nob (encM m) = true := by cases m <;> rfl
theorem nob_encV {v : Ver} : nob (encV v) = true := by simp [encV, nob, nobs, nob_encM]
theorem nob_encO {v : Option Ver} : nob (encO v) = true := by
  cases v with
  | none => rfl
  | some v => exact nob_encV
theorem lev_encM {n : Nat} {m : Option Int} : lev n (encM m) := by
  cases m with
  | none => exact lev_non
  | some i => exact lev_int
theorem lev_encV {n : Nat} {v : Ver} : lev (n + 1) (encV v) := lev_tup fun x hx => by
  rcases List.mem_cons.mp hx with rfl | hx
  · exact lev_int
  · rw [List.mem_singleton] at hx
    subst hx
    exact lev_encM
theorem lev_encO {n : Nat} {v : Option Ver} : lev (n + 1) (encO v) := by
  cases v with
  | none => exact lev_non
  | some v => exact lev_encV
theorem encM_inj {a b : Option Int} (h : encM a = encM b) : a = b := by
  cases a <;> cases b <;> first | rfl | (cases h; rfl) | cases h
theorem encV_inj {a b : Ver} (h : encV a = encV b) : a = b := by
  obtain ⟨a1, a2⟩ := a
  obtain ⟨b1, b2⟩ := b
  simp only [encV, D.tup.injEq, List.cons.injEq, D.int.injEq, and_true] at h
  rw [h.1, encM_inj h.2]
theorem encO_some {a : Option Ver} {v : Ver} : encO a = encV v ↔ a = some v := by
  cases a with
  | none => exact ⟨fun h => (by cases h), fun h => (by cases h)⟩
  | some u => exact ⟨fun h => by rw [encV_inj h], fun h => by cases h; rfl⟩
/-- seen by one of the snapshots -/
def isSeen (vs : List Ver) (xs : List Int) (v : Ver) : Bool := xs.any fun s => decide (seenV vs s = some v)
theorem any_seen {vs : List Ver} {xs : List Int} {v : Ver} : ((xs.map fun s => encO (seenV vs s)).any fun z => deq z (encV v)) = isSeen vs xs v := by
  unfold isSeen
  rw [List.any_map]
  congr 1
  funext s
  show deq (encO (seenV vs s)) (encV v) = _
  rw [Bool.eq_iff_iff, deq_iff nob_encO nob_encV, encO_some, decide_eq_true_iff]
/-- the commits of the versions that are kept, the oldest first -/
def needF (P : Ver → Bool) : List Ver → List Int → List Int
  | [], acc => acc
  | v :: r, acc => needF P r (if P v && (v.2.isSome || decide (0 < acc.length)) then acc ++ [v.1] else acc)
def neededV (vs : List Ver) (os : List Int) (last : Int) : List Int := needF (isSeen vs (askV os last)) vs.reverse []
theorem encM_non {m : Option Int} : (!isNon (encM m)) = m.isSome := by cases m <;> rfl
def seenD (vs : List Ver) : D → D
  | .int s => encO (seenV vs s)
  | _ => .non
theorem map_seen {vs : List Ver} {xs : List Int} : ((xs.map D.int).filter fun _ => true).map (seenD vs) = xs.map fun s => encO (seenV vs s) := by
  rw [List.filter_eq_self.mpr (fun _ _ => rfl), List.map_map]; rfl
theorem needF_len {P : Ver → Bool} : ∀ {vs : List Ver} {acc : List Int}, (needF P vs acc).length ≤ vs.length + acc.length
  | [], acc => by show acc.length ≤ _; omega
  | v :: vs, acc => by
    show (needF P vs (if P v && (v.2.isSome || decide (0 < acc.length)) then acc ++ [v.1] else acc)).length ≤ _
    have := @needF_len P vs (if P v && (v.2.isSome || decide (0 < acc.length)) then acc ++ [v.1] else acc)
    split at this
    · rename_i h
      rw [if_pos h]
      rw [List.length_append] at this
      simp only [List.length_cons, List.length_nil] at this ⊢
      omega
    · rename_i h
      rw [if_neg h]
      simp only [List.length_cons] at this ⊢
      omega
def sp_needed_of : DSp := fun ds S Q _ => ∃ x vs os last, ds = [x, .tup (os.map .int), .int last] ∧ IsVs x vs ∧ vs.length ≤ 1000 ∧ os.length ≤ 1000 ∧ Q (.tup ((neededV vs os last).map .int)) S
theorem ok_needed_of (T : Top K mg) : Fn P w K mg base 2 "needed_of" sp_needed_of := by
  obtain ⟨f, fd, hm, F⟩ := T.f_needed_of
  refine fn_mk F hm (F.binds fun _ _ _ _ _ _ us hl => match us, hl with | [_, _, _], _ => rfl) sc_needed_of (fun ds S Q E h => by repeat (first | (obtain ⟨e, _⟩ := h; subst e; rfl) | (obtain ⟨_, h⟩ := h))) fun cdv A outer s H E Ed ds S Q hr h => ?_
  have nd : (fnC P w K mg base ["versions", "open_lot", "last", "seen", "snapshot", "found", "version"] "needed_of" s_needed_of f cdv A outer s H E Ed).X.N.Nodup := sc_needed_of.nd
  have a0 : (fnC P w K mg base ["versions", "open_lot", "last", "seen", "snapshot", "found", "version"] "needed_of" s_needed_of f cdv A outer s H E Ed).X.N[0]? = some ("versions" : Str) := rfl
  have n0 : Nm (fnC P w K mg base ["versions", "open_lot", "last", "seen", "snapshot", "found", "version"] "needed_of" s_needed_of f cdv A outer s H E Ed) 0 "versions" := by walk_at "d.nm"
  have a1 : (fnC P w K mg base ["versions", "open_lot", "last", "seen", "snapshot", "found", "version"] "needed_of" s_needed_of f cdv A outer s H E Ed).X.N[1]? = some ("open_lot" : Str) := rfl
  have n1 : Nm (fnC P w K mg base ["versions", "open_lot", "last", "seen", "snapshot", "found", "version"] "needed_of" s_needed_of f cdv A outer s H E Ed) 1 "open_lot" := by walk_at "d.nm"
  have a2 : (fnC P w K mg base ["versions", "open_lot", "last", "seen", "snapshot", "found", "version"] "needed_of" s_needed_of f cdv A outer s H E Ed).X.N[2]? = some ("last" : Str) := rfl
  have n2 : Nm (fnC P w K mg base ["versions", "open_lot", "last", "seen", "snapshot", "found", "version"] "needed_of" s_needed_of f cdv A outer s H E Ed) 2 "last" := by walk_at "d.nm"
  have a3 : (fnC P w K mg base ["versions", "open_lot", "last", "seen", "snapshot", "found", "version"] "needed_of" s_needed_of f cdv A outer s H E Ed).X.N[3]? = some ("seen" : Str) := rfl
  have n3 : Nm (fnC P w K mg base ["versions", "open_lot", "last", "seen", "snapshot", "found", "version"] "needed_of" s_needed_of f cdv A outer s H E Ed) 3 "seen" := by walk_at "d.nm"
  have a4 : (fnC P w K mg base ["versions", "open_lot", "last", "seen", "snapshot", "found", "version"] "needed_of" s_needed_of f cdv A outer s H E Ed).X.N[4]? = some ("snapshot" : Str) := rfl
  have a5 : (fnC P w K mg base ["versions", "open_lot", "last", "seen", "snapshot", "found", "version"] "needed_of" s_needed_of f cdv A outer s H E Ed).X.N[5]? = some ("found" : Str) := rfl
  have n5 : Nm (fnC P w K mg base ["versions", "open_lot", "last", "seen", "snapshot", "found", "version"] "needed_of" s_needed_of f cdv A outer s H E Ed) 5 "found" := by walk_at "d.nm"
  have a6 : (fnC P w K mg base ["versions", "open_lot", "last", "seen", "snapshot", "found", "version"] "needed_of" s_needed_of f cdv A outer s H E Ed).X.N[6]? = some ("version" : Str) := rfl
  have n6 : Nm (fnC P w K mg base ["versions", "open_lot", "last", "seen", "snapshot", "found", "version"] "needed_of" s_needed_of f cdv A outer s H E Ed) 6 "version" := by walk_at "d.nm"
  obtain ⟨x, vs, os, last, rfl, hx, hv, hl, q⟩ := h
  repeat walk_at "d"
  refine js_setLc (.n 4) [("snapshot", 4)] 3 nd a3 rfl ?_ (lcT_n nd a4 (fun _ _ => .inl rfl) (fun _ _ => rfl)) (by rfl) (sw_comp rfl rfl rfl rfl)
  refine ji_tup ?_
  repeat walk_at "d"
  have hal := @askV_few os last
  refine ⟨_, rfl, CompD.pure (fun _ => true) (seenD vs) (by rw [List.length_map]; exact Nat.lt_of_le_of_lt (m := 1001) (by omega) (by decide)) (fun _ _ _ => trivial) (fun d S' hd => ?_) fun Dl hn => ?_⟩
  · obtain ⟨o, ho, rfl⟩ := List.mem_map.mp hd
    refine ⟨_, rfl, fun s H C cl fp => jts_nil ?_⟩
    refine ⟨rfl, rfl, fun _ s H C cl fp => ?_⟩
    repeat walk_at "d"
    exact ⟨rfl, rfl⟩
  · rw [map_seen]
    repeat walk_at "d"
    refine je_lstM ?_
    repeat walk_at "d"
    intro p hp
    repeat walk_at "d"
    rcases hx with rfl | rfl
    all_goals
      refine js_for ?_ fnC_po
      first
        | (refine ji_fl ?_; refine je_rev ?_; (repeat walk_at "d"); refine ⟨encVs vs, IsL.fl, (encVs vs).reverse, rfl, ?_⟩)
        | (refine ji_tup ?_; refine je_revT ?_; (repeat walk_at "d"); refine ⟨encVs vs, rfl, (encVs vs).reverse, rfl, ?_⟩)
      refine ForD.todo (fun r ρ' S' => ∃ vr acc o, r = encVs vr ∧ S' = sup S p (.lst (acc.map .int)) ∧ ρ' = [some _, some _, some _, some (.fl ((askV os last).map fun s => encO (seenV vs s))), none, some (.ref p), o] ∧ acc.length + vr.length ≤ 1000 ∧ needF (isSeen vs (askV os last)) vr acc = neededV vs os last) ⟨vs.reverse, [], none, by unfold encVs; rw [List.map_reverse], rfl, rfl, by rw [List.length_reverse]; simpa using hv, rfl⟩ (fun _ _ _ _ => trivial) ?_ ?_
      · rintro d r ρ' S' ⟨vr, acc, o, e, rfl, rfl, hlen, hn⟩
        cases vr with
        | nil => cases e
        | cons v vr =>
          cases e
          refine jg_nm n6 nd ?_
          repeat walk_at "d"
          refine od_inD (Room65 hr) (lev_shp lev_encV) (lev_shp (lev_fl fun z hz => by obtain ⟨s', _, rfl⟩ := List.mem_map.mp hz; exact lev_encO)) ?_
          rw [any_seen]
          have hn' : needF (isSeen vs (askV os last)) vr (if isSeen vs (askV os last) v && (v.2.isSome || decide (0 < acc.length)) then acc ++ [v.1] else acc) = neededV vs os last := hn
          rw [List.length_cons] at hlen
          have happ : ∀ i : Int, (acc ++ [i]).map D.int = acc.map D.int ++ [.int i] := fun i => by rw [List.map_append]; rfl
          have hal2 : ∀ i : Int, (acc ++ [i]).length = acc.length + 1 := fun i => by rw [List.length_append]; rfl
          repeat walk_at "d"
          cases h1 : isSeen vs (askV os last) v with
          | false =>
            rw [h1, Bool.false_and, if_neg Bool.false_ne_true] at hn'
            repeat walk_at "d"
            exact ⟨vr, acc, _, rfl, rfl, rfl, by omega, hn'⟩
          | true =>
            rw [h1, Bool.true_and] at hn'
            obtain ⟨vc, vm⟩ := v
            cases vm with
            | some i =>
              repeat walk_at "d"
              refine ⟨_, sup_same, Nat.lt_of_le_of_lt (m := 1000) (by rw [List.length_map]; omega) (by decide), ?_⟩
              rw [sup_sup, ← happ]
              repeat walk_at "d"
              exact ⟨vr, acc ++ [vc], _, rfl, rfl, rfl, by rw [hal2]; omega, hn'⟩
            | none =>
              repeat walk_at "d"
              cases acc with
              | nil =>
                refine iteF2 rfl ?_
                repeat walk_at "d"
                exact ⟨vr, [], _, rfl, rfl, rfl, by simp only [List.length_nil] at hlen ⊢; omega, hn'⟩
              | cons a acc =>
                refine iteT2 (decide_eq_true (by simp only [List.map_cons, List.length_cons]; omega)) ?_
                repeat walk_at "d"
                refine ⟨_, sup_same, Nat.lt_of_le_of_lt (m := 1000) (by rw [List.length_map]; omega) (by decide), ?_⟩
                rw [sup_sup, ← happ]
                repeat walk_at "d"
                exact ⟨vr, a :: acc ++ [vc], _, rfl, rfl, rfl, by rw [hal2]; omega, hn'⟩
      · rintro ρ' S' ⟨vr, acc, o, e, rfl, rfl, hlen, hn⟩
        cases vr with
        | cons v vr => cases e
        | nil =>
          refine jss_cons (js_ret (je_drop p ?_))
          repeat walk_at "d"
          rw [sdel_sup hp]
          have hn' : acc = neededV vs os last := hn
          rw [hn']
          exact q

local macro_rules | `(tactic| walk_at "d.call") => `(tactic| ((with_reducible show JE _ (.Call (.Name "needed_of" _) _ _ _) _ _ _); refine je_call (ok_needed_of (by assumption)) (Room.mono (by assumption) (by decide)) ?_))
local macro_rules | `(tactic| walk_at "d.sp") => `(tactic| ((with_reducible show sp_needed_of _ _ _ _); refine ⟨_, _, _, _, rfl, by assumption, by assumption, by assumption, ?_⟩))
def sp_needed : DSp := fun ds S Q _ => ∃ x vs os last, ds = [x, .tup (os.map .int), .int last] ∧ IsVs x vs ∧ (∀ v ∈ vs, OkV v) ∧ Desc vs ∧ newest vs ≤ last ∧ last ≤ 10 ^ 18 ∧ OkO os last ∧ vs.length ≤ 1000 ∧ Q (.tup ((neededV vs os last).map .int)) S
theorem ok_needed (T : Top K mg) : Fn P w K mg base 7 "needed" sp_needed := by
  obtain ⟨f, fd, hm, F⟩ := T.f_needed
  refine fn_mk F hm (F.binds fun _ _ _ _ _ _ us hl => match us, hl with | [_, _, _], _ => rfl) sc_needed (fun ds S Q E h => by repeat (first | (obtain ⟨e, _⟩ := h; subst e; rfl) | (obtain ⟨_, h⟩ := h))) fun cdv A outer s H E Ed ds S Q hr h => ?_
  have nd : (fnC P w K mg base ["versions", "open_lot", "last"] "needed" s_needed f cdv A outer s H E Ed).X.N.Nodup := sc_needed.nd
  have n0 : Nm (fnC P w K mg base ["versions", "open_lot", "last"] "needed" s_needed f cdv A outer s H E Ed) 0 "versions" := by walk_at "d.nm"
  have n1 : Nm (fnC P w K mg base ["versions", "open_lot", "last"] "needed" s_needed f cdv A outer s H E Ed) 1 "open_lot" := by walk_at "d.nm"
  have n2 : Nm (fnC P w K mg base ["versions", "open_lot", "last"] "needed" s_needed f cdv A outer s H E Ed) 2 "last" := by walk_at "d.nm"
  obtain ⟨x, vs, os, last, rfl, hx, ok, hd, h1, h2, ho, hv, q⟩ := h
  have hl := ho.few
  repeat walk_at "d"
  exact q

local macro_rules | `(tactic| walk_at "d.call") => `(tactic| ((with_reducible show JE _ (.Call (.Name "needed" _) _ _ _) _ _ _); refine je_call (ok_needed (by assumption)) (Room.mono (by assumption) (by decide)) ?_))
local macro_rules | `(tactic| walk_at "d.sp") => `(tactic| ((with_reducible show sp_needed _ _ _ _); refine ⟨_, _, _, _, rfl, by assumption, by assumption, by assumption, by first | assumption | omega, by first | assumption | omega, by assumption, by first | assumption | omega, ?_⟩))

def sp_L_mixed : DSp := fun ds S Q _ => ∃ a b : Int, ds = [.int a, .int b] ∧ ∀ n : Int, 0 ≤ n → Q (.int n) S
theorem ok_L_mixed (T : Top K mg) : Fn P w K mg base 1 "_law_mixed" sp_L_mixed := by
  obtain ⟨f, fd, hm, F⟩ := T.f_L_mixed
  refine fn_mk F hm (F.binds fun _ _ _ _ _ _ us hl => match us, hl with | [_, _], _ => rfl) sc_L_mixed (fun ds S Q E h => by repeat (first | (obtain ⟨e, _⟩ := h; subst e; rfl) | (obtain ⟨_, h⟩ := h))) fun cdv A outer s H E Ed ds S Q hr h => ?_
  have nd : (fnC P w K mg base ["_law_cell", "_law_turn", "_law_number"] "_law_mixed" s_L_mixed f cdv A outer s H E Ed).X.N.Nodup := sc_L_mixed.nd
  have n0 : Nm (fnC P w K mg base ["_law_cell", "_law_turn", "_law_number"] "_law_mixed" s_L_mixed f cdv A outer s H E Ed) 0 "_law_cell" := by walk_at "d.nm"
  have n1 : Nm (fnC P w K mg base ["_law_cell", "_law_turn", "_law_number"] "_law_mixed" s_L_mixed f cdv A outer s H E Ed) 1 "_law_turn" := by walk_at "d.nm"
  have n2 : Nm (fnC P w K mg base ["_law_cell", "_law_turn", "_law_number"] "_law_mixed" s_L_mixed f cdv A outer s H E Ed) 2 "_law_number" := by walk_at "d.nm"
  obtain ⟨a, b, rfl, q⟩ := h
  repeat walk_at "d"
  exact q _ (by omega)

local macro_rules | `(tactic| walk_at "d.call") => `(tactic| ((with_reducible show JE _ (.Call (.Name "_law_mixed" _) _ _ _) _ _ _); refine je_call (ok_L_mixed (by assumption)) (Room.mono (by assumption) (by decide)) ?_))
local macro_rules | `(tactic| walk_at "d.sp") => `(tactic| ((with_reducible show sp_L_mixed _ _ _ _); refine ⟨_, _, rfl, ?_⟩))
def sp_L_bag : DSp := fun ds S Q _ => ∃ ns : List Int, ds = [.fl (ns.map .int)] ∧ ns.length ≤ 63 ∧ ∀ p b, S p = none → OkBag b → Q (.ref p) (sup S p b)
theorem ok_L_bag (T : Top K mg) : Fn P w K mg base 1 "_law_bag" sp_L_bag := by
  obtain ⟨f, fd, hm, F⟩ := T.f_L_bag
  refine fn_mk F hm (F.binds fun _ _ _ _ _ _ us hl => match us, hl with | [_], _ => rfl) sc_L_bag (fun ds S Q E h => by repeat (first | (obtain ⟨e, _⟩ := h; subst e; rfl) | (obtain ⟨_, h⟩ := h))) fun cdv A outer s H E Ed ds S Q hr h => ?_
  have nd : (fnC P w K mg base ["_law_script", "_law_cell"] "_law_bag" s_L_bag f cdv A outer s H E Ed).X.N.Nodup := sc_L_bag.nd
  have a0 : (fnC P w K mg base ["_law_script", "_law_cell"] "_law_bag" s_L_bag f cdv A outer s H E Ed).X.N[0]? = some ("_law_script" : Str) := rfl
  have n0 : Nm (fnC P w K mg base ["_law_script", "_law_cell"] "_law_bag" s_L_bag f cdv A outer s H E Ed) 0 "_law_script" := by walk_at "d.nm"
  have a1 : (fnC P w K mg base ["_law_script", "_law_cell"] "_law_bag" s_L_bag f cdv A outer s H E Ed).X.N[1]? = some ("_law_cell" : Str) := rfl
  obtain ⟨ns, rfl, hl, q⟩ := h
  repeat walk_at "d"
  refine je_lstM ?_
  repeat walk_at "d"
  refine je_lc (.n 1) [("_law_cell", 1)] nd ?_ (lcT_n nd a1 (fun _ _ => .inl rfl) (fun _ _ => rfl)) (by rfl)
  refine ji_fl ?_
  repeat walk_at "d"
  refine jo_none ?_
  refine jo_some ?_
  repeat walk_at "d"
  refine ⟨_, IsL.fl, ?_⟩
  obtain ⟨ys, e, hy⟩ := cutD_map (xs := ns) (lo := none) (hi := some 63)
  rw [e]
  refine ⟨_, rfl, CompD.pure (fun _ => true) id (by rw [List.length_map]; exact Nat.lt_of_le_of_lt (m := 63) (by omega) (by decide)) (fun _ _ _ => trivial) (fun d S' hd => ?_) fun Dl hn => ?_⟩
  · obtain ⟨o, ho, rfl⟩ := List.mem_map.mp hd
    refine ⟨_, rfl, fun s H C cl fp => jts_nil ?_⟩
    refine ⟨rfl, rfl, fun _ s H C cl fp => ?_⟩
    repeat walk_at "d"
    exact ⟨rfl, rfl⟩
  · rw [List.filter_eq_self.mpr (fun _ _ => rfl), List.map_id]
    repeat walk_at "d"
    intro p hp
    exact q p _ hp ⟨ys, 0, 0, 0, rfl, by omega, by omega⟩

local macro_rules | `(tactic| walk_at "d.call") => `(tactic| ((with_reducible show JE _ (.Call (.Name "_law_bag" _) _ _ _) _ _ _); refine je_call (ok_L_bag (by assumption)) (Room.mono (by assumption) (by decide)) ?_))
def sp_L_draw : DSp := fun ds S Q _ => ∃ p many, ds = [.ref p, .int many] ∧ BagOk S p ∧ 0 < many ∧ many < 2 ^ 63 ∧ ∀ n b, 0 ≤ n → n < many → OkBag b → Q (.int n) (sup S p b)
theorem ok_L_draw (T : Top K mg) : Fn P w K mg base 2 "_law_draw" sp_L_draw := by
  obtain ⟨f, fd, hm, F⟩ := T.f_L_draw
  refine fn_mk F hm (F.binds fun _ _ _ _ _ _ us hl => match us, hl with | [_, _], _ => rfl) sc_L_draw (fun ds S Q E h => by repeat (first | (obtain ⟨e, _⟩ := h; subst e; rfl) | (obtain ⟨_, h⟩ := h))) fun cdv A outer s H E Ed ds S Q hr h => ?_
  have nd : (fnC P w K mg base ["_law_bag_here", "_law_many", "_law_found", "_law_cells", "_law_at", "_law_cell"] "_law_draw" s_L_draw f cdv A outer s H E Ed).X.N.Nodup := sc_L_draw.nd
  have n0 : Nm (fnC P w K mg base ["_law_bag_here", "_law_many", "_law_found", "_law_cells", "_law_at", "_law_cell"] "_law_draw" s_L_draw f cdv A outer s H E Ed) 0 "_law_bag_here" := by walk_at "d.nm"
  have n1 : Nm (fnC P w K mg base ["_law_bag_here", "_law_many", "_law_found", "_law_cells", "_law_at", "_law_cell"] "_law_draw" s_L_draw f cdv A outer s H E Ed) 1 "_law_many" := by walk_at "d.nm"
  have n2 : Nm (fnC P w K mg base ["_law_bag_here", "_law_many", "_law_found", "_law_cells", "_law_at", "_law_cell"] "_law_draw" s_L_draw f cdv A outer s H E Ed) 2 "_law_found" := by walk_at "d.nm"
  have n3 : Nm (fnC P w K mg base ["_law_bag_here", "_law_many", "_law_found", "_law_cells", "_law_at", "_law_cell"] "_law_draw" s_L_draw f cdv A outer s H E Ed) 3 "_law_cells" := by walk_at "d.nm"
  have n4 : Nm (fnC P w K mg base ["_law_bag_here", "_law_many", "_law_found", "_law_cells", "_law_at", "_law_cell"] "_law_draw" s_L_draw f cdv A outer s H E Ed) 4 "_law_at" := by walk_at "d.nm"
  have n5 : Nm (fnC P w K mg base ["_law_bag_here", "_law_many", "_law_found", "_law_cells", "_law_at", "_law_cell"] "_law_draw" s_L_draw f cdv A outer s H E Ed) 5 "_law_cell" := by walk_at "d.nm"
  obtain ⟨p, many, rfl, ⟨_, hb, cs, at_, left, turn, rfl, h1, h2⟩, h3, h4, q⟩ := h
  repeat walk_at "d"
  refine ite2 (fun h5 => ?_) (fun h5 => ?_)
  · repeat walk_at "d"
    exact q _ _ (Int.emod_nonneg _ (by omega)) (Int.emod_lt_of_pos _ h3) ⟨cs, at_, left / many, turn + 1, rfl, h1, Int.ediv_nonneg h2 (by omega)⟩
  · repeat walk_at "d"
    cases cs with
    | nil =>
      refine iteT2 rfl ?_
      repeat walk_at "d"
      intro n hn
      repeat walk_at "d"
      exact q _ _ (Int.emod_nonneg _ (by omega)) (Int.emod_lt_of_pos _ h3) ⟨[], at_, left, turn + 1, rfl, h1, h2⟩
    | cons c0 cs =>
      refine iteF2 (decide_eq_false (by simp only [List.length_map, List.length_cons]; omega)) ?_
      repeat walk_at "d"
      have hpos : (0 : Int) < (((c0 :: cs).map D.int).length : Int) := by simp only [List.length_map, List.length_cons]; omega
      refine od_mod hpos ?_
      obtain ⟨m, hm, e⟩ := atI_int (xs := c0 :: cs) (n := at_ % (((c0 :: cs).map D.int).length : Int)) (Int.emod_nonneg _ (by omega)) (by rw [List.length_map] at hpos ⊢; exact Int.emod_lt_of_pos _ hpos)
      refine ⟨_, _, _, .inl (.inl rfl), rfl, e, ?_⟩
      repeat walk_at "d"
      have ha : 0 ≤ (if m < 0 then -m else m) := by split <;> omega
      refine ite2 (fun h6 => ?_) (fun h6 => ?_)
      · repeat walk_at "d"
        refine ite2 (fun h7 => ?_) (fun h7 => ?_)
        · repeat walk_at "d"
          exact q _ _ (Int.emod_nonneg _ (by omega)) (Int.emod_lt_of_pos _ h3) ⟨c0 :: cs, at_ + 1, (if m < 0 then -m else m) / many, turn + 1, rfl, by omega, Int.ediv_nonneg ha (by omega)⟩
        · repeat walk_at "d"
          intro n hn
          repeat walk_at "d"
          exact q _ _ (Int.emod_nonneg _ (by omega)) (Int.emod_lt_of_pos _ h3) ⟨c0 :: cs, at_ + 1, left, turn + 1, rfl, by omega, h2⟩
      · repeat walk_at "d"
        intro n hn
        repeat walk_at "d"
        exact q _ _ (Int.emod_nonneg _ (by omega)) (Int.emod_lt_of_pos _ h3) ⟨c0 :: cs, at_ + 1, left, turn + 1, rfl, by omega, h2⟩

local macro_rules | `(tactic| walk_at "d.call") => `(tactic| ((with_reducible show JE _ (.Call (.Name "_law_draw" _) _ _ _) _ _ _); refine je_call (ok_L_draw (by assumption)) (Room.mono (by assumption) (by decide)) ?_))
local macro_rules | `(tactic| walk_at "d.sp") => `(tactic| ((with_reducible show sp_L_draw _ _ _ _); refine ⟨_, _, rfl, by first | assumption | exact BagOk.here (by assumption), by omega, by omega, ?_⟩))

def sp_L_worth : DSp := fun ds S Q _ => ∃ p, ds = [.ref p] ∧ BagOk S p ∧ ∀ m b, (∀ i, m = some i → -(10 ^ 18) ≤ i ∧ i ≤ 10 ^ 18) → OkBag b → Q (encM m) (sup S p b)
theorem ok_L_worth (T : Top K mg) : Fn P w K mg base 3 "_law_worth" sp_L_worth := by
  obtain ⟨f, fd, hm, F⟩ := T.f_L_worth
  refine fn_mk F hm (F.binds fun _ _ _ _ _ _ us hl => match us, hl with | [_], _ => rfl) sc_L_worth (fun ds S Q E h => by repeat (first | (obtain ⟨e, _⟩ := h; subst e; rfl) | (obtain ⟨_, h⟩ := h))) fun cdv A outer s H E Ed ds S Q hr h => ?_
  have nd : (fnC P w K mg base ["_law_bag_here", "_law_kind"] "_law_worth" s_L_worth f cdv A outer s H E Ed).X.N.Nodup := sc_L_worth.nd
  have n0 : Nm (fnC P w K mg base ["_law_bag_here", "_law_kind"] "_law_worth" s_L_worth f cdv A outer s H E Ed) 0 "_law_bag_here" := by walk_at "d.nm"
  have n1 : Nm (fnC P w K mg base ["_law_bag_here", "_law_kind"] "_law_worth" s_L_worth f cdv A outer s H E Ed) 1 "_law_kind" := by walk_at "d.nm"
  obtain ⟨p, rfl, hp, q⟩ := h
  repeat walk_at "d"
  intro k b hk0 hk1 hb
  repeat walk_at "d"
  refine ite2 (fun h1 => ?_) (fun h1 => ?_)
  · repeat walk_at "d"
    exact q none _ (fun i e => nomatch e) hb
  repeat walk_at "d"
  refine ite2 (fun h2 => ?_) (fun h2 => ?_)
  · repeat walk_at "d"
    exact q (some 0) _ (fun i e => by cases e; omega) hb
  repeat walk_at "d"
  refine ite2 (fun h3 => ?_) (fun h3 => ?_)
  · repeat walk_at "d"
    intro n b2 hn0 hn1 hb2
    rw [sup_sup]
    repeat walk_at "d"
    exact q (some _) _ (fun i e => by cases e; omega) hb2
  repeat walk_at "d"
  refine ite2 (fun h4 => ?_) (fun h4 => ?_)
  · repeat walk_at "d"
    intro n b2 hn0 hn1 hb2
    rw [sup_sup]
    obtain ⟨m, hm, e⟩ := atI_int (xs := [1000000000000000000, -1000000000000000000]) (n := n) hn0 hn1
    refine ⟨_, _, _, .inl (.inl rfl), rfl, e, ?_⟩
    repeat walk_at "d"
    refine q (some _) _ (fun i e => ?_) hb2
    cases e
    simp only [List.mem_cons, List.not_mem_nil, or_false] at hm
    omega
  repeat walk_at "d"
  intro n b2 hn0 hn1 hb2
  rw [sup_sup]
  repeat walk_at "d"
  exact q (some _) _ (fun i e => by cases e; omega) hb2

local macro_rules | `(tactic| walk_at "d.call") => `(tactic| ((with_reducible show JE _ (.Call (.Name "_law_worth" _) _ _ _) _ _ _); refine je_call (ok_L_worth (by assumption)) (Room.mono (by assumption) (by decide)) ?_))
local macro_rules | `(tactic| walk_at "d.sp") => `(tactic| ((with_reducible show sp_L_worth _ _ _ _); refine ⟨_, rfl, by first | assumption | exact BagOk.here (by assumption), ?_⟩))

theorem newest_ge {vs : List Ver} (h : Desc vs) {u : Ver} (hu : u ∈ vs) : u.1 ≤ newest vs := by
  cases vs with
  | nil => cases hu
  | cons v vs =>
    rcases List.mem_cons.mp hu with rfl | hu
    · exact Int.le_refl _
    · exact Int.le_of_lt ((List.pairwise_cons.mp h).1 u hu)
theorem newest_pos {vs : List Ver} (ok : ∀ v ∈ vs, OkV v) : 0 ≤ newest vs := by
  cases vs with
  | nil => exact Int.le_refl _
  | cons v vs => have := (ok v List.mem_cons_self).c1; show 0 ≤ v.1; omega
theorem verStep {vs : List Ver} {i : Nat} (ok : ∀ v ∈ vs, OkV v) (hd : Desc vs) (hnew : newest vs ≤ (i : Int) * (10 ^ 16 + 1)) {z : Int} (hz : 0 ≤ z) (hz1 : z < 10 ^ 16) (hi : i < 40) {m : Option Int} (hm : ∀ i, m = some i → -(10 ^ 18) ≤ i ∧ i ≤ 10 ^ 18) :
    (∀ u ∈ ((newest vs + 1 + z, m) : Ver) :: vs, OkV u) ∧ Desc (((newest vs + 1 + z, m) : Ver) :: vs) ∧ newest (((newest vs + 1 + z, m) : Ver) :: vs) ≤ ((i + 1 : Nat) : Int) * (10 ^ 16 + 1) := by
  have h0 := newest_pos ok
  refine ⟨fun u hu => ?_, List.pairwise_cons.mpr ⟨fun u hu => ?_, hd⟩, ?_⟩
  · rcases List.mem_cons.mp hu with rfl | hu
    · exact ⟨by show 1 ≤ newest vs + 1 + z; omega, by show newest vs + 1 + z ≤ 10 ^ 18; omega, hm⟩
    · exact ok u hu
  · have := newest_ge hd hu
    show u.1 < newest vs + 1 + z
    omega
  · show newest vs + 1 + z ≤ _
    omega
def sp_L_versions : DSp := fun ds S Q _ => ∃ p, ds = [.ref p] ∧ BagOk S p ∧ ∀ vs b, (∀ v ∈ vs, OkV v) → Desc vs → vs.length ≤ 40 → newest vs ≤ 40 * (10 ^ 16 + 1) → OkBag b → Q (.fl (encVs vs)) (sup S p b)
theorem ok_L_versions (T : Top K mg) : Fn P w K mg base 4 "_law_versions" sp_L_versions := by
  obtain ⟨f, fd, hm, F⟩ := T.f_L_versions
  refine fn_mk F hm (F.binds fun _ _ _ _ _ _ us hl => match us, hl with | [_], _ => rfl) sc_L_versions (fun ds S Q E h => by repeat (first | (obtain ⟨e, _⟩ := h; subst e; rfl) | (obtain ⟨_, h⟩ := h))) fun cdv A outer s H E Ed ds S Q hr h => ?_
  have nd : (fnC P w K mg base ["_law_bag_here", "_law_many", "_law_found", "_law_commit", "_law_k"] "_law_versions" s_L_versions f cdv A outer s H E Ed).X.N.Nodup := sc_L_versions.nd
  have n0 : Nm (fnC P w K mg base ["_law_bag_here", "_law_many", "_law_found", "_law_commit", "_law_k"] "_law_versions" s_L_versions f cdv A outer s H E Ed) 0 "_law_bag_here" := by walk_at "d.nm"
  have n1 : Nm (fnC P w K mg base ["_law_bag_here", "_law_many", "_law_found", "_law_commit", "_law_k"] "_law_versions" s_L_versions f cdv A outer s H E Ed) 1 "_law_many" := by walk_at "d.nm"
  have n2 : Nm (fnC P w K mg base ["_law_bag_here", "_law_many", "_law_found", "_law_commit", "_law_k"] "_law_versions" s_L_versions f cdv A outer s H E Ed) 2 "_law_found" := by walk_at "d.nm"
  have n3 : Nm (fnC P w K mg base ["_law_bag_here", "_law_many", "_law_found", "_law_commit", "_law_k"] "_law_versions" s_L_versions f cdv A outer s H E Ed) 3 "_law_commit" := by walk_at "d.nm"
  have n4 : Nm (fnC P w K mg base ["_law_bag_here", "_law_many", "_law_found", "_law_commit", "_law_k"] "_law_versions" s_L_versions f cdv A outer s H E Ed) 4 "_law_k" := by walk_at "d.nm"
  obtain ⟨p, rfl, hp, q⟩ := h
  repeat walk_at "d"
  intro k b hk0 hk1 hb
  obtain ⟨m, hm, e⟩ := atI_int (xs := [4, 7, 13, 41]) (n := k) hk0 hk1
  have hm2 : 0 < m ∧ m ≤ 41 := by simp only [List.mem_cons, List.not_mem_nil, or_false] at hm; omega
  refine ⟨_, _, _, .inl (.inl rfl), rfl, e, ?_⟩
  repeat walk_at "d"
  intro many b hm0 hm1 hb
  rw [sup_sup]
  repeat walk_at "d"
  refine je_lst ?_
  repeat walk_at "d"
  refine js_for ?_ fnC_po
  refine ji_range1 T.b_range ?_
  repeat walk_at "d"
  refine ⟨by omega, by omega, fun i ρ' S' => ∃ vs b o, ρ' = [some (.ref p), some (.int many), some (.fl (encVs vs)), some (.int (newest vs)), o] ∧ S' = sup S p b ∧ OkBag b ∧ (∀ v ∈ vs, OkV v) ∧ Desc vs ∧ vs.length = i ∧ newest vs ≤ (i : Int) * (10 ^ 16 + 1), ⟨[], b, none, rfl, rfl, hb, (fun _ h => nomatch h), List.Pairwise.nil, rfl, by show (0 : Int) ≤ _; omega⟩, fun _ _ _ _ => trivial, ?_, ?_⟩
  · rintro i d ρ' S' hi ⟨vs, b, o, rfl, rfl, hb, ok, hd, hlen, hnew⟩
    obtain ⟨hi2, rfl⟩ := irng_get hi
    refine jg_nm n4 nd ?_
    repeat walk_at "d"
    intro z b1 hz0 hz1 hb1
    rw [sup_sup]
    repeat walk_at "d"
    refine ite2 (fun h1 => ?_) (fun h1 => ?_)
    all_goals
      repeat walk_at "d"
      intro z2 b2 hy0 hy1 hb2
      rw [sup_sup]
      repeat walk_at "d"
      refine je_lst ?_
      repeat walk_at "d"
      intro mk b3 hmk hb3
      rw [sup_sup]
      repeat walk_at "d"
      refine od_cat IsL.fl IsL.fl (Nat.le_trans (m := 100) (by simp only [encVs, List.length_map, List.length_cons, List.length_nil]; omega) (by decide)) ?_
      repeat walk_at "d"
      obtain ⟨g1, g2, g3⟩ := verStep (i := i) ok hd hnew hy0 (by omega) (by omega) hmk
      exact ⟨(newest vs + 1 + z2, mk) :: vs, b3, _, rfl, rfl, hb3, g1, g2, by rw [List.length_cons, hlen], g3⟩
  · rintro ρ' S' ⟨vs, b, o, rfl, rfl, hb, ok, hd, hlen, hnew⟩
    rw [irng_len] at hlen hnew
    repeat walk_at "d"
    exact q vs b ok hd (by omega) (by omega) hb

local macro_rules | `(tactic| walk_at "d.call") => `(tactic| ((with_reducible show JE _ (.Call (.Name "_law_versions" _) _ _ _) _ _ _); refine je_call (ok_L_versions (by assumption)) (Room.mono (by assumption) (by decide)) ?_))
local macro_rules | `(tactic| walk_at "d.sp") => `(tactic| ((with_reducible show sp_L_versions _ _ _ _); refine ⟨_, rfl, by first | assumption | exact BagOk.here (by assumption), ?_⟩))

def sp_L_snapshot : DSp := fun ds S Q _ => ∃ p vs last, ds = [.ref p, .fl (encVs vs), .int last] ∧ BagOk S p ∧ (∀ v ∈ vs, OkV v) ∧ 0 ≤ last ∧ last < 2 ^ 62 ∧ vs.length ≤ 40 ∧ ∀ n b, 0 ≤ n → n ≤ last → OkBag b → Q (.int n) (sup S p b)
theorem ok_L_snapshot (T : Top K mg) : Fn P w K mg base 3 "_law_snapshot" sp_L_snapshot := by
  obtain ⟨f, fd, hm, F⟩ := T.f_L_snapshot
  refine fn_mk F hm (F.binds fun _ _ _ _ _ _ us hl => match us, hl with | [_, _, _], _ => rfl) sc_L_snapshot (fun ds S Q E h => by repeat (first | (obtain ⟨e, _⟩ := h; subst e; rfl) | (obtain ⟨_, h⟩ := h))) fun cdv A outer s H E Ed ds S Q hr h => ?_
  have nd : (fnC P w K mg base ["_law_bag_here", "_law_versions_here", "_law_last", "_law_near"] "_law_snapshot" s_L_snapshot f cdv A outer s H E Ed).X.N.Nodup := sc_L_snapshot.nd
  have n0 : Nm (fnC P w K mg base ["_law_bag_here", "_law_versions_here", "_law_last", "_law_near"] "_law_snapshot" s_L_snapshot f cdv A outer s H E Ed) 0 "_law_bag_here" := by walk_at "d.nm"
  have n1 : Nm (fnC P w K mg base ["_law_bag_here", "_law_versions_here", "_law_last", "_law_near"] "_law_snapshot" s_L_snapshot f cdv A outer s H E Ed) 1 "_law_versions_here" := by walk_at "d.nm"
  have n2 : Nm (fnC P w K mg base ["_law_bag_here", "_law_versions_here", "_law_last", "_law_near"] "_law_snapshot" s_L_snapshot f cdv A outer s H E Ed) 2 "_law_last" := by walk_at "d.nm"
  have n3 : Nm (fnC P w K mg base ["_law_bag_here", "_law_versions_here", "_law_last", "_law_near"] "_law_snapshot" s_L_snapshot f cdv A outer s H E Ed) 3 "_law_near" := by walk_at "d.nm"
  obtain ⟨p, vs, last, rfl, hp, ok, hl0, hl1, hv, q⟩ := h
  repeat walk_at "d"
  cases vs with
  | nil =>
    refine iteT2 rfl ?_
    repeat walk_at "d"
    intro n b hn0 hn1 hb
    exact q n b hn0 (by omega) hb
  | cons v vs =>
    have hpos : (0 : Int) < ((encVs (v :: vs)).length : Int) := by simp only [encVs, List.length_map, List.length_cons]; omega
    have hmost : ((encVs (v :: vs)).length : Int) ≤ 40 := by simp only [encVs, List.length_map]; omega
    refine iteF2 (decide_eq_false (by omega)) ?_
    repeat walk_at "d"
    intro z b hz0 hz1 hb
    repeat walk_at "d"
    refine ite2 (fun h1 => ?_) (fun h1 => ?_)
    · repeat walk_at "d"
      intro n b2 hn0 hn1 hb2
      rw [sup_sup]
      exact q n b2 hn0 (by omega) hb2
    · repeat walk_at "d"
      intro n b2 hn0 hn1 hb2
      rw [sup_sup]
      obtain ⟨k, rfl⟩ : ∃ k : Nat, n = k := ⟨n.toNat, by omega⟩
      obtain ⟨u, hu⟩ : ∃ u, (v :: vs)[k]? = some u := ⟨_, List.getElem?_eq_getElem (by simp only [encVs, List.length_map] at hn1; omega)⟩
      have oku := (ok u (List.mem_of_getElem? hu)).c1
      refine ⟨_, _, _, .inl (.inl rfl), rfl, atI_of rfl (encVs_at hu), ?_⟩
      repeat walk_at "d"
      intro n2 b3 hm0 hm1 hb3
      rw [sup_sup]
      repeat walk_at "d"
      split
      · exact q _ _ (by omega) (by omega) hb3
      · exact q _ _ (by omega) (by omega) hb3

local macro_rules | `(tactic| walk_at "d.call") => `(tactic| ((with_reducible show JE _ (.Call (.Name "_law_snapshot" _) _ _ _) _ _ _); refine je_call (ok_L_snapshot (by assumption)) (Room.mono (by assumption) (by decide)) ?_))
local macro_rules | `(tactic| walk_at "d.sp") => `(tactic| ((with_reducible show sp_L_snapshot _ _ _ _); refine ⟨_, _, _, rfl, by first | assumption | exact BagOk.here (by assumption), by assumption, by omega, by omega, by omega, ?_⟩))
def sp_L_open : DSp := fun ds S Q _ => ∃ p vs last, ds = [.ref p, .fl (encVs vs), .int last] ∧ BagOk S p ∧ (∀ v ∈ vs, OkV v) ∧ 0 ≤ last ∧ last < 2 ^ 62 ∧ vs.length ≤ 40 ∧ ∀ os b, OkO os last → os.length ≤ 8 → OkBag b → Q (.tup (os.map .int)) (sup S p b)
theorem ok_L_open (T : Top K mg) : Fn P w K mg base 4 "_law_open" sp_L_open := by
  obtain ⟨f, fd, hm, F⟩ := T.f_L_open
  refine fn_mk F hm (F.binds fun _ _ _ _ _ _ us hl => match us, hl with | [_, _, _], _ => rfl) sc_L_open (fun ds S Q E h => by repeat (first | (obtain ⟨e, _⟩ := h; subst e; rfl) | (obtain ⟨_, h⟩ := h))) fun cdv A outer s H E Ed ds S Q hr h => ?_
  have nd : (fnC P w K mg base ["_law_bag_here", "_law_versions_here", "_law_last", "_law_found", "_law_k", "_law_number"] "_law_open" s_L_open f cdv A outer s H E Ed).X.N.Nodup := sc_L_open.nd
  have n0 : Nm (fnC P w K mg base ["_law_bag_here", "_law_versions_here", "_law_last", "_law_found", "_law_k", "_law_number"] "_law_open" s_L_open f cdv A outer s H E Ed) 0 "_law_bag_here" := by walk_at "d.nm"
  have n1 : Nm (fnC P w K mg base ["_law_bag_here", "_law_versions_here", "_law_last", "_law_found", "_law_k", "_law_number"] "_law_open" s_L_open f cdv A outer s H E Ed) 1 "_law_versions_here" := by walk_at "d.nm"
  have n2 : Nm (fnC P w K mg base ["_law_bag_here", "_law_versions_here", "_law_last", "_law_found", "_law_k", "_law_number"] "_law_open" s_L_open f cdv A outer s H E Ed) 2 "_law_last" := by walk_at "d.nm"
  have n3 : Nm (fnC P w K mg base ["_law_bag_here", "_law_versions_here", "_law_last", "_law_found", "_law_k", "_law_number"] "_law_open" s_L_open f cdv A outer s H E Ed) 3 "_law_found" := by walk_at "d.nm"
  have n4 : Nm (fnC P w K mg base ["_law_bag_here", "_law_versions_here", "_law_last", "_law_found", "_law_k", "_law_number"] "_law_open" s_L_open f cdv A outer s H E Ed) 4 "_law_k" := by walk_at "d.nm"
  have n5 : Nm (fnC P w K mg base ["_law_bag_here", "_law_versions_here", "_law_last", "_law_found", "_law_k", "_law_number"] "_law_open" s_L_open f cdv A outer s H E Ed) 5 "_law_number" := by walk_at "d.nm"
  obtain ⟨p, vs, last, rfl, hp, ok, hl0, hl1, hv, q⟩ := h
  repeat walk_at "d"
  refine je_lstM ?_
  repeat walk_at "d"
  intro r hr0
  have hne := hp.ne hr0
  obtain ⟨b, hb, hbo⟩ := hp
  have hp1 : BagOk (sup S r (.lst [])) p := ⟨b, by rw [sup_ne hne]; exact hb, hbo⟩
  repeat walk_at "d"
  refine js_for ?_ fnC_po
  refine ji_range1 T.b_range ?_
  repeat walk_at "d"
  intro many b1 hm0 hm1 hb1
  refine ⟨_, rfl, by omega, by omega, fun i ρ' S' => ∃ ns b o1 o2, ρ' = [some (.ref p), some (.fl (encVs vs)), some (.int last), some (.ref r), o1, o2] ∧ S' = sup (sup S r (.lst (ns.map .int))) p b ∧ OkBag b ∧ (∀ n ∈ ns, 0 ≤ n ∧ n ≤ last) ∧ ns.Nodup ∧ ns.length ≤ i, ⟨[], b1, none, none, rfl, rfl, hb1, (fun _ h => nomatch h), List.nodup_nil, Nat.le_refl _⟩, fun _ _ _ _ => trivial, ?_, ?_⟩
  · rintro i d ρ' S' hi ⟨ns, b, o1, o2, rfl, rfl, hb, hin, hnd, hlen⟩
    obtain ⟨hi2, rfl⟩ := irng_get hi
    refine jg_nm n4 nd ?_
    repeat walk_at "d"
    intro n b2 hn0 hn1 hb2
    rw [sup_sup]
    repeat walk_at "d"
    have hfd : (sup (sup S r (.lst (ns.map .int))) p b2) r = some (.lst (ns.map .int)) := by rw [sup_ne hne.symm]; exact sup_same
    refine od_notIn (.inl (.inr ⟨_, rfl, hfd⟩)) rfl fl_ints ?_
    rw [inF_int]
    repeat walk_at "d"
    refine ite2 (fun h1 => ?_) (fun h1 => ?_)
    · repeat walk_at "d"
      exact ⟨ns, b2, _, _, rfl, rfl, hb2, hin, hnd, by omega⟩
    · have h1' : n ∉ ns := by simpa using h1
      repeat walk_at "d"
      refine ⟨_, hfd, Nat.lt_of_le_of_lt (m := 9) (by rw [List.length_map]; omega) (by decide), ?_⟩
      rw [sup_under hne]
      repeat walk_at "d"
      refine ⟨ns ++ [n], b2, _, _, rfl, by rw [List.map_append]; rfl, hb2, fun m hm => ?_, ?_, by rw [List.length_append]; simp only [List.length_cons, List.length_nil]; omega⟩
      · rcases List.mem_append.mp hm with hm | hm
        · exact hin m hm
        · rw [List.mem_singleton] at hm
          subst hm
          exact ⟨hn0, hn1⟩
      · rw [List.nodup_append]
        refine ⟨hnd, List.nodup_cons.mpr ⟨List.not_mem_nil, List.nodup_nil⟩, fun x hx y hy e => ?_⟩
        rw [List.mem_singleton] at hy
        subst hy e
        exact h1' hx
  · rintro ρ' S' ⟨ns, b, o1, o2, rfl, rfl, hb, hin, hnd, hlen⟩
    rw [irng_len] at hlen
    have hfd : (sup (sup S r (.lst (ns.map .int))) p b) r = some (.lst (ns.map .int)) := by rw [sup_ne hne.symm]; exact sup_same
    refine jss_cons (js_ret (je_drop r ?_))
    repeat walk_at "d"
    refine cd_sortedI (.inr ⟨_, rfl, hfd⟩) fun os hperm hsort => ?_
    repeat walk_at "d"
    rw [sdel_under hne hr0]
    refine q os b ⟨?_, fun o ho => (hin o (hperm.mem_iff.mp ho)).1, fun o ho => (hin o (hperm.mem_iff.mp ho)).2, by rw [hperm.length_eq]; omega⟩ (by rw [hperm.length_eq]; omega) hb
    exact (List.pairwise_and_iff.mpr ⟨hsort, hperm.nodup_iff.mpr hnd⟩).imp fun ⟨h1, h2⟩ => by omega

local macro_rules | `(tactic| walk_at "d.call") => `(tactic| ((with_reducible show JE _ (.Call (.Name "_law_open" _) _ _ _) _ _ _); refine je_call (ok_L_open (by assumption)) (Room.mono (by assumption) (by decide)) ?_))
local macro_rules | `(tactic| walk_at "d.sp") => `(tactic| ((with_reducible show sp_L_open _ _ _ _); refine ⟨_, _, _, rfl, by first | assumption | exact BagOk.here (by assumption), by assumption, by omega, by omega, by omega, ?_⟩))

/-! ### the plain law -/
theorem seen_iff : ∀ {vs : List Ver} (hd : Desc vs) {j : Nat} {v : Ver} (hv : vs[j]? = some v) (s : Int), seenV vs s = some v ↔ v.1 ≤ s ∧ (j = 0 ∨ ∃ u, vs[j - 1]? = some u ∧ s < u.1)
  | [], _, j, v, hv, s => by cases j <;> cases hv
  | u :: r, hd, j, v, hv, s => by
    obtain ⟨h1, h2⟩ := List.pairwise_cons.mp hd
    have e : seenV (u :: r) s = if decide (u.1 ≤ s) = true then some u else seenV r s := by
      unfold seenV
      rw [List.find?_cons]
      cases decide (u.1 ≤ s) <;> rfl
    rw [e]
    cases j with
    | zero =>
      cases hv
      by_cases hs : u.1 ≤ s
      · rw [if_pos (decide_eq_true hs)]
        exact ⟨fun _ => ⟨hs, .inl rfl⟩, fun _ => rfl⟩
      · rw [if_neg (by rw [decide_eq_false hs]; exact Bool.false_ne_true)]
        refine ⟨fun q => (hs ?_).elim, fun q => (hs q.1).elim⟩
        have := List.find?_some q
        simpa using this
    | succ k =>
      have hv' : r[k]? = some v := hv
      have hlt := h1 v (List.mem_of_getElem? hv')
      have ih := @seen_iff r h2 k v hv' s
      by_cases hs : u.1 ≤ s
      · rw [if_pos (decide_eq_true hs)]
        refine ⟨fun q => ?_, fun ⟨q1, q2⟩ => ?_⟩
        · cases q; omega
        · rcases q2 with q2 | ⟨z, hz, q2⟩
          · cases q2
          · have hz' : (u :: r)[k]? = some z := hz
            cases k with
            | zero => cases hz'; omega
            | succ k =>
              have := h1 z (List.mem_of_getElem? (show r[k]? = some z from hz'))
              omega
      · rw [if_neg (by rw [decide_eq_false hs]; exact Bool.false_ne_true), ih]
        refine ⟨fun ⟨q1, q2⟩ => ⟨q1, .inr ?_⟩, fun ⟨q1, q2⟩ => ⟨q1, ?_⟩⟩
        · cases k with
          | zero => exact ⟨u, rfl, by omega⟩
          | succ k =>
            rcases q2 with q2 | ⟨z, hz, q2⟩
            · cases q2
            · exact ⟨z, hz, q2⟩
        · cases k with
          | zero => exact .inl rfl
          | succ k =>
            rcases q2 with q2 | ⟨z, hz, q2⟩
            · cases q2
            · exact .inr ⟨z, hz, q2⟩
/-- the law's own look: the newest one, or one that an open snapshot sees -/
def lawSeen (vs : List Ver) (os : List Int) (j : Nat) (v : Ver) : Bool := decide (j = 0) || os.any fun s => decide (v.1 ≤ s) && (decide (j = 0) || match vs[j - 1]? with | some u => decide (s < u.1) | none => false)
theorem lawSeen_iff {vs : List Ver} {os : List Int} {j : Nat} {v : Ver} : lawSeen vs os j v = true ↔ j = 0 ∨ ∃ s ∈ os, v.1 ≤ s ∧ (j = 0 ∨ ∃ u, vs[j - 1]? = some u ∧ s < u.1) := by
  unfold lawSeen
  rw [Bool.or_eq_true, decide_eq_true_iff, List.any_eq_true]
  refine or_congr Iff.rfl (exists_congr fun s => and_congr Iff.rfl ?_)
  rw [Bool.and_eq_true, Bool.or_eq_true, decide_eq_true_iff, decide_eq_true_iff]
  refine and_congr Iff.rfl (or_congr Iff.rfl ?_)
  cases vs[j - 1]? with
  | none => exact ⟨fun h => (by cases h), fun ⟨_, h, _⟩ => (by cases h)⟩
  | some u => exact ⟨fun h => ⟨u, rfl, of_decide_eq_true h⟩, fun ⟨_, h, g⟩ => (by cases h; exact decide_eq_true g)⟩
theorem isSeen_iff {vs : List Ver} {xs : List Int} {v : Ver} : isSeen vs xs v = true ↔ ∃ s ∈ xs, seenV vs s = some v := by
  unfold isSeen
  rw [List.any_eq_true]
  exact exists_congr fun s => and_congr Iff.rfl decide_eq_true_iff
theorem seen_law {vs : List Ver} (hd : Desc vs) {os : List Int} {last : Int} (ht : ∀ o ∈ os, o ≤ last) (hn : newest vs ≤ last) {j : Nat} {v : Ver} (hv : vs[j]? = some v) : isSeen vs (askV os last) v = lawSeen vs os j v := by
  rw [Bool.eq_iff_iff, isSeen_iff, lawSeen_iff]
  unfold askV
  constructor
  · rintro ⟨s, hs, q⟩
    have q2 := (seen_iff hd hv s).mp q
    rcases List.mem_append.mp hs with hs | hs
    · exact .inr ⟨s, (List.mem_filter.mp hs).1, q2⟩
    · rw [List.mem_singleton] at hs
      subst hs
      rcases q2.2 with q3 | ⟨u, hu, q3⟩
      · exact .inl q3
      · have := newest_ge hd (List.mem_of_getElem? hu)
        omega
  · intro q
    have top : j = 0 → ∃ s ∈ os.filter (fun o => decide (o < last)) ++ [last], seenV vs s = some v := fun e => by
      refine ⟨last, List.mem_append_right _ List.mem_cons_self, (seen_iff hd hv last).mpr ⟨?_, .inl e⟩⟩
      have := newest_ge hd (List.mem_of_getElem? hv)
      omega
    rcases q with e | ⟨s, hs, q⟩
    · exact top e
    · by_cases hl : s < last
      · exact ⟨s, List.mem_append_left _ (List.mem_filter.mpr ⟨hs, decide_eq_true hl⟩), (seen_iff hd hv s).mpr q⟩
      · have := ht s hs
        have e : s = last := by omega
        subst e
        exact ⟨s, List.mem_append_right _ List.mem_cons_self, (seen_iff hd hv s).mpr q⟩
theorem needF_congr {P P' : Ver → Bool} : ∀ {vs : List Ver} {acc : List Int}, (∀ v ∈ vs, P v = P' v) → needF P vs acc = needF P' vs acc
  | [], acc, _ => rfl
  | v :: vs, acc, h => by
    show needF P vs (if P v && (v.2.isSome || decide (0 < acc.length)) then acc ++ [v.1] else acc) = needF P' vs (if P' v && (v.2.isSome || decide (0 < acc.length)) then acc ++ [v.1] else acc)
    rw [h v List.mem_cons_self]
    exact needF_congr fun u hu => h u (List.mem_cons_of_mem _ hu)
/-- the last snapshot's number does not matter -/
theorem needed_last {vs : List Ver} (hd : Desc vs) {os : List Int} {last last' : Int} (ht : ∀ o ∈ os, o ≤ last) (hn : newest vs ≤ last) (hl : last ≤ last') : neededV vs os last' = neededV vs os last := by
  unfold neededV
  refine needF_congr fun v hv => ?_
  obtain ⟨j, hj⟩ := List.getElem?_of_mem (List.mem_reverse.mp hv)
  rw [seen_law hd (fun o ho => by have := ht o ho; omega) (by omega) hj, seen_law hd ht hn hj]
def isTomb (v : Ver) : Bool := v.2.isNone
theorem needF_on {P : Ver → Bool} : ∀ {vs : List Ver} {acc : List Int}, acc ≠ [] → needF P vs acc = acc ++ (vs.filter P).map (·.1)
  | [], acc, _ => by show acc = _; simp
  | v :: vs, acc, h => by
    show needF P vs (if P v && (v.2.isSome || decide (0 < acc.length)) then acc ++ [v.1] else acc) = _
    have hp : decide (0 < acc.length) = true := decide_eq_true (List.length_pos_iff.mpr h)
    rw [hp, Bool.or_true, Bool.and_true, List.filter_cons]
    cases P v with
    | true =>
      rw [if_pos rfl, if_pos rfl, needF_on (by simp)]
      simp
    | false =>
      rw [if_neg Bool.false_ne_true, if_neg Bool.false_ne_true, needF_on h]
theorem needF_from {P : Ver → Bool} : ∀ {vs : List Ver}, needF P vs [] = ((vs.filter P).dropWhile isTomb).map (·.1)
  | [] => rfl
  | v :: vs => by
    show needF P vs (if P v && (v.2.isSome || decide (0 < ([] : List Int).length)) then [] ++ [v.1] else []) = _
    have hp : decide (0 < ([] : List Int).length) = false := rfl
    rw [hp, Bool.or_false, List.filter_cons]
    cases P v with
    | false => rw [Bool.false_and, if_neg Bool.false_ne_true, if_neg Bool.false_ne_true, needF_from]
    | true =>
      rw [Bool.true_and, if_pos rfl, List.dropWhile_cons]
      obtain ⟨c, m⟩ := v
      cases m with
      | none =>
        rw [if_neg (by exact Bool.false_ne_true), needF_from]
        rfl
      | some i =>
        rw [if_pos (show (c, some i).snd.isSome = true from rfl), if_neg (show ¬ isTomb (c, some i) = true from Bool.false_ne_true), needF_on (by simp)]
        rfl
theorem filter_sub : ∀ {K l : List Ver}, K.Sublist l → l.Pairwise (fun a b => a.1 < b.1) → l.filter (fun v => decide (v.1 ∈ K.map (·.1))) = K := by
  intro K l h
  induction h with
  | slnil => intro _; rfl
  | cons a h ih =>
    rename_i K l
    intro hp
    obtain ⟨h1, h2⟩ := List.pairwise_cons.mp hp
    rw [List.filter_cons, if_neg, ih h2]
    rw [decide_eq_true_iff]
    intro hm
    obtain ⟨u, hu, e⟩ := List.mem_map.mp hm
    have := h1 u (h.subset hu)
    omega
  | cons_cons a h ih =>
    rename_i K l
    intro hp
    obtain ⟨h1, h2⟩ := List.pairwise_cons.mp hp
    rw [List.filter_cons, if_pos (decide_eq_true (by simp))]
    congr 1
    refine Eq.trans (List.filter_congr fun v hv => ?_) (ih h2)
    have hne := h1 v hv
    rw [List.map_cons, decide_eq_decide, List.mem_cons]
    exact ⟨fun h => h.elim (fun e => by omega) id, .inr⟩
theorem drop_drop {p : Ver → Bool} : ∀ {l : List Ver}, (l.dropWhile p).dropWhile p = l.dropWhile p
  | [] => rfl
  | v :: l => by
    rw [List.dropWhile_cons]
    cases e : p v with
    | true => rw [if_pos rfl, drop_drop]
    | false => rw [if_neg Bool.false_ne_true, List.dropWhile_cons, e, if_neg Bool.false_ne_true]
theorem find_sub {vs ks : List Ver} (h : ks.Sublist vs) {p : Ver → Bool} {v : Ver} (hv : v ∈ ks) (hp : p v = true) (hd : Desc vs) (q : vs.find? p = some v) : ks.find? p = some v := by
  induction h with
  | slnil => cases hv
  | cons a h ih =>
    rename_i ks vs
    obtain ⟨h1, h2⟩ := List.pairwise_cons.mp hd
    rw [List.find?_cons] at q
    cases e : p a with
    | true =>
      rw [e] at q
      cases q
      have := h1 _ (h.subset hv)
      omega
    | false =>
      rw [e] at q
      exact ih hv h2 q
  | cons_cons a h ih =>
    rename_i ks vs
    obtain ⟨h1, h2⟩ := List.pairwise_cons.mp hd
    rw [List.find?_cons] at q ⊢
    cases e : p a with
    | true => rw [e] at q; exact q
    | false =>
      rw [e] at q
      rcases List.mem_cons.mp hv with rfl | hv
      · rw [hp] at e; cases e
      · exact ih hv h2 q
/-- what is kept of the versions needs the same -/
def keptV (vs : List Ver) (due : List Int) : List Ver := vs.filter fun v => decide (v.1 ∈ due)
theorem kept_same {vs : List Ver} (hd : Desc vs) {os : List Int} {last : Int} : neededV (keptV vs (neededV vs os last)) os last = neededV vs os last := by
  have hasc : vs.reverse.Pairwise (fun a b => a.1 < b.1) := List.pairwise_reverse.mpr hd
  have e1 : neededV vs os last = ((vs.reverse.filter (isSeen vs (askV os last))).dropWhile isTomb).map (·.1) := needF_from
  have hsub : ((vs.reverse.filter (isSeen vs (askV os last))).dropWhile isTomb).Sublist vs.reverse := (List.dropWhile_sublist _).trans List.filter_sublist
  have e2 : (keptV vs (neededV vs os last)).reverse = (vs.reverse.filter (isSeen vs (askV os last))).dropWhile isTomb := by
    unfold keptV
    rw [← List.filter_reverse, e1]
    exact filter_sub hsub hasc
  have hk : (keptV vs (neededV vs os last)).Sublist vs := List.filter_sublist
  have e3 : neededV (keptV vs (neededV vs os last)) os last = (((keptV vs (neededV vs os last)).reverse.filter (isSeen (keptV vs (neededV vs os last)) (askV os last))).dropWhile isTomb).map (·.1) := needF_from
  rw [e3, List.filter_eq_self.mpr fun v hv => ?_]
  · rw [e2, drop_drop, ← e1]
  · have hv1 := List.mem_reverse.mp hv
    rw [e2] at hv
    have hs := (List.mem_filter.mp ((List.dropWhile_sublist _).subset hv)).2
    obtain ⟨s, hs1, hs2⟩ := isSeen_iff.mp hs
    have hp := List.find?_some hs2
    exact isSeen_iff.mpr ⟨s, hs1, find_sub hk hv1 hp hd hs2⟩

theorem rev_drop {vs : List Ver} {i : Nat} {v : Ver} (h : vs[vs.length - 1 - i]? = some v) (hi : i < vs.length) : vs.reverse.drop i = v :: vs.reverse.drop (i + 1) := by
  have h2 : vs.reverse[i]? = some v := by rw [List.getElem?_reverse hi]; exact h
  obtain ⟨h3, e⟩ := List.getElem?_eq_some_iff.mp h2
  rw [← e]
  exact List.drop_eq_getElem_cons h3
def sp_L_needed : DSp := fun ds S Q _ => ∃ vs os last, ds = [.fl (encVs vs), .tup (os.map .int)] ∧ Desc vs ∧ newest vs ≤ last ∧ (∀ o ∈ os, o ≤ last) ∧ vs.length ≤ 40 ∧ Q (.tup ((neededV vs os last).map .int)) S
theorem ok_L_needed (T : Top K mg) : Fn P w K mg base 1 "_law_needed" sp_L_needed := by
  obtain ⟨f, fd, hm, F⟩ := T.f_L_needed
  refine fn_mk F hm (F.binds fun _ _ _ _ _ _ us hl => match us, hl with | [_, _], _ => rfl) sc_L_needed (fun ds S Q E h => by repeat (first | (obtain ⟨e, _⟩ := h; subst e; rfl) | (obtain ⟨_, h⟩ := h))) fun cdv A outer s H E Ed ds S Q hr h => ?_
  have nd : (fnC P w K mg base ["_law_versions_here", "_law_open_lot", "_law_found", "_law_back", "_law_at", "_law_commit", "_law_is_seen", "_law_snapshot_here"] "_law_needed" s_L_needed f cdv A outer s H E Ed).X.N.Nodup := sc_L_needed.nd
  have n0 : Nm (fnC P w K mg base ["_law_versions_here", "_law_open_lot", "_law_found", "_law_back", "_law_at", "_law_commit", "_law_is_seen", "_law_snapshot_here"] "_law_needed" s_L_needed f cdv A outer s H E Ed) 0 "_law_versions_here" := by walk_at "d.nm"
  have n1 : Nm (fnC P w K mg base ["_law_versions_here", "_law_open_lot", "_law_found", "_law_back", "_law_at", "_law_commit", "_law_is_seen", "_law_snapshot_here"] "_law_needed" s_L_needed f cdv A outer s H E Ed) 1 "_law_open_lot" := by walk_at "d.nm"
  have n2 : Nm (fnC P w K mg base ["_law_versions_here", "_law_open_lot", "_law_found", "_law_back", "_law_at", "_law_commit", "_law_is_seen", "_law_snapshot_here"] "_law_needed" s_L_needed f cdv A outer s H E Ed) 2 "_law_found" := by walk_at "d.nm"
  have n3 : Nm (fnC P w K mg base ["_law_versions_here", "_law_open_lot", "_law_found", "_law_back", "_law_at", "_law_commit", "_law_is_seen", "_law_snapshot_here"] "_law_needed" s_L_needed f cdv A outer s H E Ed) 3 "_law_back" := by walk_at "d.nm"
  have n4 : Nm (fnC P w K mg base ["_law_versions_here", "_law_open_lot", "_law_found", "_law_back", "_law_at", "_law_commit", "_law_is_seen", "_law_snapshot_here"] "_law_needed" s_L_needed f cdv A outer s H E Ed) 4 "_law_at" := by walk_at "d.nm"
  have n5 : Nm (fnC P w K mg base ["_law_versions_here", "_law_open_lot", "_law_found", "_law_back", "_law_at", "_law_commit", "_law_is_seen", "_law_snapshot_here"] "_law_needed" s_L_needed f cdv A outer s H E Ed) 5 "_law_commit" := by walk_at "d.nm"
  have n6 : Nm (fnC P w K mg base ["_law_versions_here", "_law_open_lot", "_law_found", "_law_back", "_law_at", "_law_commit", "_law_is_seen", "_law_snapshot_here"] "_law_needed" s_L_needed f cdv A outer s H E Ed) 6 "_law_is_seen" := by walk_at "d.nm"
  have n7 : Nm (fnC P w K mg base ["_law_versions_here", "_law_open_lot", "_law_found", "_law_back", "_law_at", "_law_commit", "_law_is_seen", "_law_snapshot_here"] "_law_needed" s_L_needed f cdv A outer s H E Ed) 7 "_law_snapshot_here" := by walk_at "d.nm"
  obtain ⟨vs, os, last, rfl, hd, hnew, htop, hv, q⟩ := h
  repeat walk_at "d"
  refine je_lstM ?_
  repeat walk_at "d"
  intro r hr0
  repeat walk_at "d"
  refine js_for ?_ fnC_po
  refine ji_range1 T.b_range ?_
  repeat walk_at "d"
  have hlen : (encVs vs).length = vs.length := by unfold encVs; rw [List.length_map]
  refine ⟨by omega, by omega, fun i ρ' S' => ∃ acc o3 o4 o5 o6 o7, ρ' = [some (.fl (encVs vs)), some (.tup (os.map .int)), some (.ref r), o3, o4, o5, o6, o7] ∧ S' = sup S r (.lst (acc.map .int)) ∧ acc.length ≤ i ∧ needF (isSeen vs (askV os last)) (vs.reverse.drop i) acc = neededV vs os last, ⟨[], none, none, none, none, none, rfl, rfl, Nat.le_refl _, rfl⟩, fun _ _ _ _ => trivial, ?_, ?_⟩
  · rintro i d ρ' S' hi ⟨acc, o3, o4, o5, o6, o7, rfl, rfl, hacc, hn⟩
    obtain ⟨hi2, rfl⟩ := irng_get hi
    have hi3 : i < vs.length := by omega
    obtain ⟨v, hvj⟩ : ∃ v, vs[vs.length - 1 - i]? = some v := ⟨_, List.getElem?_eq_getElem (by omega)⟩
    rw [rev_drop hvj hi3] at hn
    obtain ⟨j, ej⟩ : ∃ j, j = vs.length - 1 - i := ⟨_, rfl⟩
    rw [← ej] at hvj
    have ej2 : ((encVs vs).length : Int) - 1 - (0 + (i : Int)) = (j : Int) := by omega
    refine jg_nm n3 nd ?_
    repeat walk_at "d"
    rw [ej2]
    refine ⟨encVs vs, _, encV v, .inl IsL.fl, rfl, atI_of rfl (encVs_at hvj), ?_⟩
    repeat walk_at "d"
    refine js_for ?_ fnC_po
    refine ji_tup ?_
    repeat walk_at "d"
    refine ⟨_, rfl, ForD.todo (fun r' ρ' S' => S' = sup S r (.lst (acc.map .int)) ∧ ∃ xs b o7, r' = xs.map .int ∧ ρ' = [some (.fl (encVs vs)), some (.tup (os.map .int)), some (.ref r), some (.int (0 + (i : Int))), some (.int (j : Int)), some (.int v.1), some (.bl b), o7] ∧
      (b || xs.any fun s => decide (v.1 ≤ s) && (decide (j = 0) || match vs[j - 1]? with | some u => decide (s < u.1) | none => false)) = lawSeen vs os j v) ⟨rfl, os, _, o7, rfl, rfl, by unfold lawSeen; congr 1; rw [decide_eq_decide]; omega⟩ (fun _ _ _ _ => trivial) ?_ ?_⟩
    · rintro d r' ρ' S' ⟨rfl, xs, b, o7', e, rfl, hb⟩
      cases xs with
      | nil => cases e
      | cons s xs =>
        cases e
        rw [List.any_cons] at hb
        refine jg_nm n7 nd ?_
        repeat walk_at "d"
        refine ite2 (fun h1 => ?_) (fun h1 => ?_)
        · rw [h1, Bool.true_and] at hb
          repeat walk_at "d"
          refine ite2 (fun h2 => ?_) (fun h2 => ?_)
          · have h3 : j = 0 := by have := of_decide_eq_true h2; omega
            rw [decide_eq_true h3, Bool.true_or, Bool.true_or, Bool.or_true] at hb
            repeat walk_at "d"
            exact ⟨rfl, xs, true, _, rfl, rfl, hb⟩
          · have h3 : j ≠ 0 := fun e => h2 (decide_eq_true (by omega))
            obtain ⟨u, hu⟩ : ∃ u, vs[j - 1]? = some u := ⟨_, List.getElem?_eq_getElem (by omega)⟩
            rw [decide_eq_false h3, Bool.false_or, hu] at hb
            repeat walk_at "d"
            refine ⟨encVs vs, _, encV u, .inl IsL.fl, rfl, atI_of (by omega) (encVs_at hu), ?_⟩
            repeat walk_at "d"
            refine ite2 (fun h4 => ?_) (fun h4 => ?_)
            · repeat walk_at "d"
              refine ⟨rfl, xs, true, _, rfl, rfl, ?_⟩
              rw [← hb]
              show true = (b || (decide (s < u.1) || _))
              rw [h4, Bool.true_or, Bool.or_true]
            · repeat walk_at "d"
              refine ⟨rfl, xs, b, _, rfl, rfl, ?_⟩
              rw [← hb]
              show _ = (b || (decide (s < u.1) || _))
              rw [Bool.eq_false_iff.mpr h4, Bool.false_or, decide_eq_false h3, hu]
        · rw [Bool.eq_false_iff.mpr h1, Bool.false_and, Bool.false_or] at hb
          repeat walk_at "d"
          exact ⟨rfl, xs, b, _, rfl, rfl, hb⟩
    · rintro ρ' S' ⟨rfl, xs, b, o7', e, rfl, hb⟩
      cases xs with
      | cons s xs => cases e
      | nil =>
        rw [List.any_nil, Bool.or_false, ← seen_law hd htop hnew hvj] at hb
        subst hb
        have hn' : needF (isSeen vs (askV os last)) (vs.reverse.drop (i + 1)) (if isSeen vs (askV os last) v && (v.2.isSome || decide (0 < acc.length)) then acc ++ [v.1] else acc) = neededV vs os last := hn
        have happ : ∀ i : Int, (acc ++ [i]).map D.int = acc.map D.int ++ [.int i] := fun i => by rw [List.map_append]; rfl
        have hal2 : ∀ i : Int, (acc ++ [i]).length = acc.length + 1 := fun i => by rw [List.length_append]; rfl
        repeat walk_at "d"
        cases h1 : isSeen vs (askV os last) v with
        | false =>
          rw [h1, Bool.false_and, if_neg Bool.false_ne_true] at hn'
          repeat walk_at "d"
          exact ⟨acc, _, _, _, _, _, rfl, rfl, by omega, hn'⟩
        | true =>
          rw [h1, Bool.true_and] at hn'
          repeat walk_at "d"
          refine ⟨encVs vs, _, encV v, .inl IsL.fl, rfl, atI_of rfl (encVs_at hvj), ?_⟩
          obtain ⟨vc, vm⟩ := v
          cases vm with
          | some i' =>
            repeat walk_at "d"
            refine ⟨_, sup_same, Nat.lt_of_le_of_lt (m := 1000) (by rw [List.length_map]; omega) (by decide), ?_⟩
            rw [sup_sup, ← happ]
            repeat walk_at "d"
            exact ⟨acc ++ [vc], _, _, _, _, _, rfl, rfl, by rw [hal2]; omega, hn'⟩
          | none =>
            repeat walk_at "d"
            cases acc with
            | nil =>
              refine iteF2 rfl ?_
              repeat walk_at "d"
              exact ⟨[], _, _, _, _, _, rfl, rfl, Nat.zero_le _, hn'⟩
            | cons a acc =>
              refine iteT2 (decide_eq_true (by simp only [List.map_cons, List.length_cons]; omega)) ?_
              repeat walk_at "d"
              refine ⟨_, sup_same, Nat.lt_of_le_of_lt (m := 1000) (by rw [List.length_map]; omega) (by decide), ?_⟩
              rw [sup_sup, ← happ]
              repeat walk_at "d"
              exact ⟨a :: acc ++ [vc], _, _, _, _, _, rfl, rfl, by rw [hal2]; omega, hn'⟩
  · rintro ρ' S' ⟨acc, o3, o4, o5, o6, o7, rfl, rfl, hacc, hn⟩
    rw [irng_len, Int.toNat_natCast, hlen, List.drop_eq_nil_of_le (by rw [List.length_reverse]; omega)] at hn
    refine jss_cons (js_ret (je_drop r ?_))
    repeat walk_at "d"
    rw [sdel_sup hr0]
    have hn' : acc = neededV vs os last := hn
    rw [hn']
    exact q

local macro_rules | `(tactic| walk_at "d.call") => `(tactic| ((with_reducible show JE _ (.Call (.Name "_law_needed" _) _ _ _) _ _ _); refine je_call (ok_L_needed (by assumption)) (Room.mono (by assumption) (by decide)) ?_))
def sp_L_is_it : DSp := fun ds S Q _ => ∃ xs : List Int, ds = [.tup (xs.map .int), .tup (xs.map .int)] ∧ xs.length ≤ 1000 ∧ Q (.bl true) S
theorem ok_L_is_it (T : Top K mg) : Fn P w K mg base 1 "_law_is_it" sp_L_is_it := by
  obtain ⟨f, fd, hm, F⟩ := T.f_L_is_it
  refine fn_mk F hm (F.binds fun _ _ _ _ _ _ us hl => match us, hl with | [_, _], _ => rfl) sc_L_is_it (fun ds S Q E h => by repeat (first | (obtain ⟨e, _⟩ := h; subst e; rfl) | (obtain ⟨_, h⟩ := h))) fun cdv A outer s H E Ed ds S Q hr h => ?_
  have nd : (fnC P w K mg base ["_law_told", "_law_due", "_law_k"] "_law_is_it" s_L_is_it f cdv A outer s H E Ed).X.N.Nodup := sc_L_is_it.nd
  have n0 : Nm (fnC P w K mg base ["_law_told", "_law_due", "_law_k"] "_law_is_it" s_L_is_it f cdv A outer s H E Ed) 0 "_law_told" := by walk_at "d.nm"
  have n1 : Nm (fnC P w K mg base ["_law_told", "_law_due", "_law_k"] "_law_is_it" s_L_is_it f cdv A outer s H E Ed) 1 "_law_due" := by walk_at "d.nm"
  have n2 : Nm (fnC P w K mg base ["_law_told", "_law_due", "_law_k"] "_law_is_it" s_L_is_it f cdv A outer s H E Ed) 2 "_law_k" := by walk_at "d.nm"
  obtain ⟨xs, rfl, hl, q⟩ := h
  repeat walk_at "d"
  refine iteT2 (decide_eq_true rfl) ?_
  repeat walk_at "d"
  refine js_for ?_ fnC_po
  refine ji_range1 T.b_range ?_
  repeat walk_at "d"
  have hlen : (xs.map D.int).length = xs.length := List.length_map _
  refine ⟨by omega, by omega, fun i ρ' S' => ∃ o, ρ' = [some (.tup (xs.map .int)), some (.tup (xs.map .int)), o] ∧ S' = S, ⟨none, rfl, rfl⟩, fun _ _ _ _ => trivial, ?_, ?_⟩
  · rintro i d ρ' S' hi ⟨o, rfl, rfl⟩
    obtain ⟨hi2, rfl⟩ := irng_get hi
    obtain ⟨m, hm, e⟩ := atI_int (xs := xs) (n := 0 + (i : Int)) (by omega) (by omega)
    refine jg_nm n2 nd ?_
    repeat walk_at "d"
    refine ⟨_, _, _, .inr rfl, rfl, e, ?_⟩
    repeat walk_at "d"
    refine ⟨_, _, _, .inr rfl, rfl, e, ?_⟩
    repeat walk_at "d"
    refine ⟨_, _, _, .inr rfl, rfl, e, ?_⟩
    repeat walk_at "d"
    refine ⟨_, _, _, .inr rfl, rfl, e, ?_⟩
    repeat walk_at "d"
    refine iteT2 (decide_eq_true rfl) ?_
    repeat walk_at "d"
    exact ⟨_, rfl, rfl⟩
  · rintro ρ' S' ⟨o, rfl, rfl⟩
    repeat walk_at "d"
    exact q

local macro_rules | `(tactic| walk_at "d.call") => `(tactic| ((with_reducible show JE _ (.Call (.Name "_law_is_it" _) _ _ _) _ _ _); refine je_call (ok_L_is_it (by assumption)) (Room.mono (by assumption) (by decide)) ?_))
local macro_rules | `(tactic| walk_at "d.sp") => `(tactic| ((with_reducible show sp_L_is_it _ _ _ _); refine ⟨_, rfl, by assumption, ?_⟩))

theorem deq_vs {vs : List Ver} : deq (.fl (encVs vs)) (.fl (encVs vs)) = true := deq_self (by
  unfold nob encVs
  exact nobs_of fun x hx => by obtain ⟨v, _, rfl⟩ := List.mem_map.mp hx; exact nob_encV)
theorem shp_vs {vs : List Ver} : shp (.fl (encVs vs)) = true := lev_shp (lev_fl fun x hx => by
  obtain ⟨v, _, rfl⟩ := List.mem_map.mp hx
  exact lev_encV)
theorem newest_sub {vs ks : List Ver} (h : ks.Sublist vs) (hd : Desc vs) (ok : ∀ v ∈ vs, OkV v) : newest ks ≤ newest vs := by
  cases ks with
  | nil => exact newest_pos ok
  | cons k ks => exact newest_ge hd (h.subset List.mem_cons_self)
def keptD (due : List Int) : D → Bool
  | .tup [.int i, _] => decide (i ∈ due)
  | _ => false
theorem kept_map {vs : List Ver} {due : List Int} : ((encVs vs).filter (keptD due)).map id = encVs (keptV vs due) := by
  rw [List.map_id]
  unfold encVs keptV
  rw [List.filter_map]; rfl
def notD (os : List Int) : D → Bool
  | .int i => !decide (i ∈ os)
  | _ => false
def moreV (os : List Int) (m : Int) : List Int := os ++ [m].filter fun i => !decide (i ∈ os)
theorem more_map {os : List Int} {m : Int} : os.map D.int ++ (([D.int m].filter (notD os)).map id) = (moreV os m).map D.int := by
  unfold moreV
  rw [List.map_append, List.map_id]
  congr 1
  have e : [D.int m] = [m].map D.int := rfl
  rw [e, List.filter_map]; rfl
theorem more_ok {os os2 : List Int} {last m : Int} (ho : OkO os last) (hl : os.length ≤ 8) (h0 : 0 ≤ m) (h1 : m ≤ last) (hp : os2.Perm (moreV os m)) (hs : os2.Pairwise (· ≤ ·)) : OkO os2 last := by
  have hmem : ∀ o ∈ os2, o ∈ os ∨ o = m := fun o h => by
    have := hp.mem_iff.mp h
    unfold moreV at this
    rcases List.mem_append.mp this with h | h
    · exact .inl h
    · exact .inr (List.mem_singleton.mp (List.mem_filter.mp h).1)
  have hnd : (moreV os m).Nodup := by
    unfold moreV
    rw [List.nodup_append]
    refine ⟨ho.asc.imp fun h => by omega, (List.nodup_cons.mpr ⟨List.not_mem_nil, List.nodup_nil⟩ : [m].Nodup).filter _, fun x hx y hy e => ?_⟩
    subst e
    have := (List.mem_filter.mp hy).2
    simp [hx] at this
  refine ⟨(List.pairwise_and_iff.mpr ⟨hs, hp.nodup_iff.mpr hnd⟩).imp fun ⟨h1, h2⟩ => by omega, fun o h => ?_, fun o h => ?_, ?_⟩
  · rcases hmem o h with h | rfl
    · exact ho.low o h
    · exact h0
  · rcases hmem o h with h | rfl
    · exact ho.top o h
    · exact h1
  · rw [hp.length_eq]
    unfold moreV
    have := List.length_filter_le (fun i => !decide (i ∈ os)) [m]
    rw [List.length_append]
    simp only [List.length_cons, List.length_nil] at this
    omega
def sp_law : DSp := fun ds S Q Ed => spLaw ds S Q Ed
theorem ok_law (T : Top K mg) {f : Addr} {fd : FuncData} (F : Fun K "law" "law" s_law f fd) : FnOk P w K mg base (L2.CX P w) 9 f fd ["_law_script"] (lift K spLaw) := by
  refine fn_ok F sc_law (fun ds S Q E ⟨_, e, _⟩ => by subst e; rfl) fun cdv A outer s H E Ed ds S Q hr h => ?_
  have nd : (fnC P w K mg base ["_law_script", "_law_bag_here", "_law_versions_here", "_law_last", "_law_open_lot", "_law_due", "_law_passed", "_law_kept", "_law_pair", "_law_more", "_law_wider", "_law_one"] "law" s_law f cdv A outer s H E Ed).X.N.Nodup := sc_law.nd
  have a0 : (fnC P w K mg base ["_law_script", "_law_bag_here", "_law_versions_here", "_law_last", "_law_open_lot", "_law_due", "_law_passed", "_law_kept", "_law_pair", "_law_more", "_law_wider", "_law_one"] "law" s_law f cdv A outer s H E Ed).X.N[0]? = some ("_law_script" : Str) := rfl
  have n0 : Nm (fnC P w K mg base ["_law_script", "_law_bag_here", "_law_versions_here", "_law_last", "_law_open_lot", "_law_due", "_law_passed", "_law_kept", "_law_pair", "_law_more", "_law_wider", "_law_one"] "law" s_law f cdv A outer s H E Ed) 0 "_law_script" := by walk_at "d.nm"
  have a1 : (fnC P w K mg base ["_law_script", "_law_bag_here", "_law_versions_here", "_law_last", "_law_open_lot", "_law_due", "_law_passed", "_law_kept", "_law_pair", "_law_more", "_law_wider", "_law_one"] "law" s_law f cdv A outer s H E Ed).X.N[1]? = some ("_law_bag_here" : Str) := rfl
  have n1 : Nm (fnC P w K mg base ["_law_script", "_law_bag_here", "_law_versions_here", "_law_last", "_law_open_lot", "_law_due", "_law_passed", "_law_kept", "_law_pair", "_law_more", "_law_wider", "_law_one"] "law" s_law f cdv A outer s H E Ed) 1 "_law_bag_here" := by walk_at "d.nm"
  have a2 : (fnC P w K mg base ["_law_script", "_law_bag_here", "_law_versions_here", "_law_last", "_law_open_lot", "_law_due", "_law_passed", "_law_kept", "_law_pair", "_law_more", "_law_wider", "_law_one"] "law" s_law f cdv A outer s H E Ed).X.N[2]? = some ("_law_versions_here" : Str) := rfl
  have n2 : Nm (fnC P w K mg base ["_law_script", "_law_bag_here", "_law_versions_here", "_law_last", "_law_open_lot", "_law_due", "_law_passed", "_law_kept", "_law_pair", "_law_more", "_law_wider", "_law_one"] "law" s_law f cdv A outer s H E Ed) 2 "_law_versions_here" := by walk_at "d.nm"
  have a3 : (fnC P w K mg base ["_law_script", "_law_bag_here", "_law_versions_here", "_law_last", "_law_open_lot", "_law_due", "_law_passed", "_law_kept", "_law_pair", "_law_more", "_law_wider", "_law_one"] "law" s_law f cdv A outer s H E Ed).X.N[3]? = some ("_law_last" : Str) := rfl
  have n3 : Nm (fnC P w K mg base ["_law_script", "_law_bag_here", "_law_versions_here", "_law_last", "_law_open_lot", "_law_due", "_law_passed", "_law_kept", "_law_pair", "_law_more", "_law_wider", "_law_one"] "law" s_law f cdv A outer s H E Ed) 3 "_law_last" := by walk_at "d.nm"
  have a4 : (fnC P w K mg base ["_law_script", "_law_bag_here", "_law_versions_here", "_law_last", "_law_open_lot", "_law_due", "_law_passed", "_law_kept", "_law_pair", "_law_more", "_law_wider", "_law_one"] "law" s_law f cdv A outer s H E Ed).X.N[4]? = some ("_law_open_lot" : Str) := rfl
  have n4 : Nm (fnC P w K mg base ["_law_script", "_law_bag_here", "_law_versions_here", "_law_last", "_law_open_lot", "_law_due", "_law_passed", "_law_kept", "_law_pair", "_law_more", "_law_wider", "_law_one"] "law" s_law f cdv A outer s H E Ed) 4 "_law_open_lot" := by walk_at "d.nm"
  have a5 : (fnC P w K mg base ["_law_script", "_law_bag_here", "_law_versions_here", "_law_last", "_law_open_lot", "_law_due", "_law_passed", "_law_kept", "_law_pair", "_law_more", "_law_wider", "_law_one"] "law" s_law f cdv A outer s H E Ed).X.N[5]? = some ("_law_due" : Str) := rfl
  have n5 : Nm (fnC P w K mg base ["_law_script", "_law_bag_here", "_law_versions_here", "_law_last", "_law_open_lot", "_law_due", "_law_passed", "_law_kept", "_law_pair", "_law_more", "_law_wider", "_law_one"] "law" s_law f cdv A outer s H E Ed) 5 "_law_due" := by walk_at "d.nm"
  have a6 : (fnC P w K mg base ["_law_script", "_law_bag_here", "_law_versions_here", "_law_last", "_law_open_lot", "_law_due", "_law_passed", "_law_kept", "_law_pair", "_law_more", "_law_wider", "_law_one"] "law" s_law f cdv A outer s H E Ed).X.N[6]? = some ("_law_passed" : Str) := rfl
  have n6 : Nm (fnC P w K mg base ["_law_script", "_law_bag_here", "_law_versions_here", "_law_last", "_law_open_lot", "_law_due", "_law_passed", "_law_kept", "_law_pair", "_law_more", "_law_wider", "_law_one"] "law" s_law f cdv A outer s H E Ed) 6 "_law_passed" := by walk_at "d.nm"
  have a7 : (fnC P w K mg base ["_law_script", "_law_bag_here", "_law_versions_here", "_law_last", "_law_open_lot", "_law_due", "_law_passed", "_law_kept", "_law_pair", "_law_more", "_law_wider", "_law_one"] "law" s_law f cdv A outer s H E Ed).X.N[7]? = some ("_law_kept" : Str) := rfl
  have n7 : Nm (fnC P w K mg base ["_law_script", "_law_bag_here", "_law_versions_here", "_law_last", "_law_open_lot", "_law_due", "_law_passed", "_law_kept", "_law_pair", "_law_more", "_law_wider", "_law_one"] "law" s_law f cdv A outer s H E Ed) 7 "_law_kept" := by walk_at "d.nm"
  have a8 : (fnC P w K mg base ["_law_script", "_law_bag_here", "_law_versions_here", "_law_last", "_law_open_lot", "_law_due", "_law_passed", "_law_kept", "_law_pair", "_law_more", "_law_wider", "_law_one"] "law" s_law f cdv A outer s H E Ed).X.N[8]? = some ("_law_pair" : Str) := rfl
  have a9 : (fnC P w K mg base ["_law_script", "_law_bag_here", "_law_versions_here", "_law_last", "_law_open_lot", "_law_due", "_law_passed", "_law_kept", "_law_pair", "_law_more", "_law_wider", "_law_one"] "law" s_law f cdv A outer s H E Ed).X.N[9]? = some ("_law_more" : Str) := rfl
  have n9 : Nm (fnC P w K mg base ["_law_script", "_law_bag_here", "_law_versions_here", "_law_last", "_law_open_lot", "_law_due", "_law_passed", "_law_kept", "_law_pair", "_law_more", "_law_wider", "_law_one"] "law" s_law f cdv A outer s H E Ed) 9 "_law_more" := by walk_at "d.nm"
  have a10 : (fnC P w K mg base ["_law_script", "_law_bag_here", "_law_versions_here", "_law_last", "_law_open_lot", "_law_due", "_law_passed", "_law_kept", "_law_pair", "_law_more", "_law_wider", "_law_one"] "law" s_law f cdv A outer s H E Ed).X.N[10]? = some ("_law_wider" : Str) := rfl
  have n10 : Nm (fnC P w K mg base ["_law_script", "_law_bag_here", "_law_versions_here", "_law_last", "_law_open_lot", "_law_due", "_law_passed", "_law_kept", "_law_pair", "_law_more", "_law_wider", "_law_one"] "law" s_law f cdv A outer s H E Ed) 10 "_law_wider" := by walk_at "d.nm"
  have a11 : (fnC P w K mg base ["_law_script", "_law_bag_here", "_law_versions_here", "_law_last", "_law_open_lot", "_law_due", "_law_passed", "_law_kept", "_law_pair", "_law_more", "_law_wider", "_law_one"] "law" s_law f cdv A outer s H E Ed).X.N[11]? = some ("_law_one" : Str) := rfl
  obtain ⟨ns, rfl, hl, hbits, rfl, q⟩ := h
  repeat walk_at "d"
  refine ⟨ns, rfl, hl, ?_⟩
  intro p b hp hb
  repeat walk_at "d"
  intro vs b hok hd hfew hnew hb
  rw [sup_sup]
  have hn0 := newest_pos hok
  have hlen : (encVs vs).length = vs.length := by unfold encVs; rw [List.length_map]
  repeat walk_at "d"
  refine js_join [some (.fl (ns.map .int)), some (.ref p), some (.fl (encVs vs)), some (.int (newest vs)), none, none, none, none, none, none, none, none] ?_ (fun h1 nx' hx => ?_) (fun h1 nx' hx => ?_)
  rotate_left
  · cases vs with
    | nil => exact (Bool.false_ne_true h1).elim
    | cons v vs =>
      repeat walk_at "d"
      refine ⟨encVs (v :: vs), _, encV v, .inl IsL.fl, rfl, atI_of (n := 0) rfl rfl, ?_⟩
      repeat walk_at "d"
      exact hx
  · cases vs with
    | cons v vs =>
      have := of_decide_eq_false h1
      rw [hlen, List.length_cons] at this
      omega
    | nil =>
      repeat walk_at "d"
      exact hx
  repeat walk_at "d"
  intro k b2 hk0 hk1 hb2
  rw [sup_sup]
  obtain ⟨m, hm, e⟩ := atI_int (xs := [1, 3, 100000000000000000]) (n := k) hk0 hk1
  have hm2 : 0 < m ∧ m ≤ 100000000000000000 := by simp only [List.mem_cons, List.not_mem_nil, or_false] at hm; omega
  refine ⟨_, _, _, .inl (.inl rfl), rfl, e, ?_⟩
  repeat walk_at "d"
  intro z b3 hz0 hz1 hb3
  rw [sup_sup]
  repeat walk_at "d"
  intro os b4 ho hos hb4
  rw [sup_sup]
  obtain ⟨last, hlast⟩ : ∃ last, newest vs + z = last := ⟨_, rfl⟩
  rw [hlast] at ho ⊢
  have hnl : newest vs ≤ last := by omega
  have hll : last ≤ 600000000000000000 := by omega
  repeat walk_at "d"
  refine ⟨vs, os, last, rfl, hd, hnl, ho.top, hfew, ?_⟩
  have hneed : ∀ (vs : List Ver) (os : List Int) (last : Int), vs.length ≤ 40 → (neededV vs os last).length ≤ 1000 := fun vs os last hf => by
    have := @needF_len (isSeen vs (askV os last)) vs.reverse []
    unfold neededV
    rw [List.length_reverse, List.length_nil] at this
    omega
  obtain ⟨due, hdue⟩ : ∃ due, neededV vs os last = due := ⟨_, rfl⟩
  have hduel : due.length ≤ 1000 := by rw [← hdue]; exact hneed _ _ _ hfew
  rw [hdue]
  repeat walk_at "d"
  refine cd_list (.inl IsL.fl) ?_
  have hvs : IsVs (.fl (encVs vs)) vs := .inl rfl
  have hvt : IsVs (.tup (encVs vs)) vs := .inr rfl
  repeat walk_at "d"
  rw [hdue]
  repeat walk_at "d"
  refine od_neD hr.units shp_vs shp_vs ?_
  rw [deq_vs]
  repeat walk_at "d"
  intro z2 b5 hy0 hy1 hb5
  rw [sup_sup]
  have ho2 : OkO os (last + z2) := ⟨ho.asc, ho.low, fun o h => by have := ho.top o h; omega, ho.few⟩
  repeat walk_at "d"
  rw [needed_last hd ho.top hnl (by omega), hdue]
  repeat walk_at "d"
  refine js_setLc (.n 8) [("_law_pair", 8)] 7 nd a7 rfl ?_ (lcT_n nd a8 (fun _ _ => .inl rfl) (fun _ _ => rfl)) (by rfl) (sw_comp rfl rfl rfl rfl)
  refine ji_fl ?_
  repeat walk_at "d"
  refine ⟨_, rfl, CompD.pure (keptD due) id (by rw [hlen]; exact Nat.lt_of_le_of_lt hfew (by decide)) (fun _ _ _ => trivial) (fun d S' hd => ?_) fun Dl hn => ?_⟩
  · obtain ⟨v, hv, rfl⟩ := List.mem_map.mp hd
    refine ⟨_, rfl, fun s H C cl fp => jts_one ?_⟩
    repeat walk_at "d"
    refine od_in (.inr rfl) rfl fl_ints ?_
    rw [inF_int]
    repeat walk_at "d"
    refine ⟨rfl, rfl, fun _ s H C cl fp => ?_⟩
    repeat walk_at "d"
    exact ⟨rfl, rfl⟩
  rw [kept_map]
  have hks : (keptV vs due).Sublist vs := List.filter_sublist
  have hkq : IsVs (.fl (encVs (keptV vs due))) (keptV vs due) := .inl rfl
  have hkok : ∀ v ∈ keptV vs due, OkV v := fun v hv => hok v (hks.subset hv)
  have hkd : Desc (keptV vs due) := hd.sublist hks
  have hkn : newest (keptV vs due) ≤ last := Int.le_trans (newest_sub hks hd hok) hnl
  have hkl : (keptV vs due).length ≤ 1000 := Nat.le_trans hks.length_le (by omega)
  have hkeep : neededV (keptV vs due) os last = due := by
    have := kept_same (vs := vs) hd (os := os) (last := last)
    rw [hdue] at this
    exact this
  repeat walk_at "d"
  rw [hkeep]
  repeat walk_at "d"
  intro more b6 hmo0 hmo1 hb6
  rw [sup_sup]
  repeat walk_at "d"
  refine cd_list (.inr rfl) ?_
  repeat walk_at "d"
  refine je_lc (.n 11) [("_law_one", 11)] nd ?_ (lcT_n nd a11 (fun _ _ => .inl rfl) (fun _ _ => rfl)) (by rfl)
  refine ji_fl ?_
  refine je_lst ?_
  repeat walk_at "d"
  refine ⟨_, rfl, CompD.pure (notD os) id (show 1 < sizeLine by decide) (fun _ _ _ => trivial) (fun d S' hd => ?_) fun Dl2 hn2 => ?_⟩
  · rw [List.mem_singleton] at hd
    subst hd
    refine ⟨_, rfl, fun s H C cl fp => jts_one ?_⟩
    repeat walk_at "d"
    refine od_notIn (.inr rfl) rfl fl_ints ?_
    rw [inF_int]
    repeat walk_at "d"
    refine ⟨rfl, rfl, fun _ s H C cl fp => ?_⟩
    repeat walk_at "d"
    exact ⟨rfl, rfl⟩
  repeat walk_at "d"
  refine od_cat IsL.fl IsL.fl (Nat.le_trans (m := 100) (by
    have := List.length_filter_le (notD os) [D.int more]
    rw [List.length_map, List.length_map]
    simp only [List.length_cons, List.length_nil] at this
    omega) (by decide)) ?_
  rw [more_map]
  repeat walk_at "d"
  refine cd_sortedI IsL.fl fun os2 hperm hsort => ?_
  have ho3 : OkO os2 last := more_ok ho hos hmo0 hmo1 hperm hsort
  repeat walk_at "d"
  refine ⟨vs, os2, last, rfl, hd, hnl, ho3.top, hfew, ?_⟩
  have hd3 := hneed vs os2 last hfew
  repeat walk_at "d"
  refine ⟨_, vs, [], last, rfl, hvs, hok, hd, hnl, by omega, ⟨List.Pairwise.nil, (fun _ h => nomatch h), (fun _ h => nomatch h), by decide⟩, by omega, ?_⟩
  repeat walk_at "d"
  refine ⟨vs, [], last, rfl, hd, hnl, (fun _ h => nomatch h), hfew, ?_⟩
  have hd4 := hneed vs [] last hfew
  repeat walk_at "d"
  rw [hdue]
  repeat walk_at "d"
  refine od_eqD hr.units shp_vs shp_vs ?_
  rw [deq_vs]
  exact q _

theorem walk {l : PySem.W.OpenLaw} {q : Program} {loose : List Str} {XP : (Str → Option Value) → Heap → Prop} {YP : World → Heap → Prop} {d : DefRec} {K : Params → PySem.W.Frag}
    (hn : l.most = some 63) (hnm : d.name = ("law" : Str)) (hdf : d.params.defaults = []) (hY : ∀ (w : World) (h : Heap), YP w h → (K w.params).In h)
    (T : ∀ (w : World) (mg : Str → Option Value) (h : Heap), (K w.params).In h → h.Ns mainGlobals mg → Top (K w.params) mg) : PySem.W.WalkO q loose XP YP l.row.toRowW d [] (fun f vs => PySem.call f vs) := by
  refine law_walk (k := 9) (x := "_law_script") hn hdf ⟨rfl, by decide, by decide⟩ hY fun w mg fa h hK hG hmf => ?_
  have t := T w mg h hK hG
  obtain ⟨f, fd, hm, F⟩ := t.f_law
  rw [hnm, hm] at hmf
  cases hmf
  refine ⟨fd, fun s u => ?_, fun base hb hN => ok_law t F⟩
  obtain ⟨oc, od, kV, doc, pm, an, cdv, ct, osl, rfl, _⟩ := F.ex
  exact BindsTo.of_eq rfl
end K41

namespace K41
open PySem L2 DP
theorem top_mk {K : PySem.W.Frag} {h : Heap} {mg : Str → Option Value} (X : K.In h) (G : h.Ns mainGlobals mg)
    {f0 : Addr} {od0 an0 : Option Addr} {sl0 : Array (Option Value)} {oc0 kV0 dc0 pm0 cd0 ct0 : Value}
    {f1 : Addr} {od1 an1 : Option Addr} {sl1 : Array (Option Value)} {oc1 kV1 dc1 pm1 cd1 ct1 : Value}
    {f2 : Addr} {od2 an2 : Option Addr} {sl2 : Array (Option Value)} {oc2 kV2 dc2 pm2 cd2 ct2 : Value}
    {f3 : Addr} {od3 an3 : Option Addr} {sl3 : Array (Option Value)} {oc3 kV3 dc3 pm3 cd3 ct3 : Value}
    {f4 : Addr} {od4 an4 : Option Addr} {sl4 : Array (Option Value)} {oc4 kV4 dc4 pm4 cd4 ct4 : Value}
    {f5 : Addr} {od5 an5 : Option Addr} {sl5 : Array (Option Value)} {oc5 kV5 dc5 pm5 cd5 ct5 : Value}
    {f6 : Addr} {od6 an6 : Option Addr} {sl6 : Array (Option Value)} {oc6 kV6 dc6 pm6 cd6 ct6 : Value}
    {f7 : Addr} {od7 an7 : Option Addr} {sl7 : Array (Option Value)} {oc7 kV7 dc7 pm7 cd7 ct7 : Value}
    {f8 : Addr} {od8 an8 : Option Addr} {sl8 : Array (Option Value)} {oc8 kV8 dc8 pm8 cd8 ct8 : Value}
    {f9 : Addr} {od9 an9 : Option Addr} {sl9 : Array (Option Value)} {oc9 kV9 dc9 pm9 cd9 ct9 : Value}
    {f10 : Addr} {od10 an10 : Option Addr} {sl10 : Array (Option Value)} {oc10 kV10 dc10 pm10 cd10 ct10 : Value}
    {f11 : Addr} {od11 an11 : Option Addr} {sl11 : Array (Option Value)} {oc11 kV11 dc11 pm11 cd11 ct11 : Value}
    {f12 : Addr} {od12 an12 : Option Addr} {sl12 : Array (Option Value)} {oc12 kV12 dc12 pm12 cd12 ct12 : Value}
    {f13 : Addr} {od13 an13 : Option Addr} {sl13 : Array (Option Value)} {oc13 kV13 dc13 pm13 cd13 ct13 : Value}
    {f14 : Addr} {od14 an14 : Option Addr} {sl14 : Array (Option Value)} {oc14 kV14 dc14 pm14 cd14 ct14 : Value}
    {f15 : Addr} {od15 an15 : Option Addr} {sl15 : Array (Option Value)} {oc15 kV15 dc15 pm15 cd15 ct15 : Value}
    {f16 : Addr} {od16 an16 : Option Addr} {sl16 : Array (Option Value)} {oc16 kV16 dc16 pm16 cd16 ct16 : Value}
    {f17 : Addr} {od17 an17 : Option Addr} {sl17 : Array (Option Value)} {oc17 kV17 dc17 pm17 cd17 ct17 : Value}
    {f18 : Addr} {od18 an18 : Option Addr} {sl18 : Array (Option Value)} {oc18 kV18 dc18 pm18 cd18 ct18 : Value}
    {f19 : Addr} {od19 an19 : Option Addr} {sl19 : Array (Option Value)} {oc19 kV19 dc19 pm19 cd19 ct19 : Value}
    {f20 : Addr} {od20 an20 : Option Addr} {sl20 : Array (Option Value)} {oc20 kV20 dc20 pm20 cd20 ct20 : Value}
    {f21 : Addr} {od21 an21 : Option Addr} {sl21 : Array (Option Value)} {oc21 kV21 dc21 pm21 cd21 ct21 : Value}
    {f22 : Addr} {od22 an22 : Option Addr} {sl22 : Array (Option Value)} {oc22 kV22 dc22 pm22 cd22 ct22 : Value}
    {f23 : Addr} {od23 an23 : Option Addr} {sl23 : Array (Option Value)} {oc23 kV23 dc23 pm23 cd23 ct23 : Value}
    {f24 : Addr} {od24 an24 : Option Addr} {sl24 : Array (Option Value)} {oc24 kV24 dc24 pm24 cd24 ct24 : Value}
    {t_MOST_WORTH : Tok}
    (a0 : PySem.W.nsIn K mainGlobals "is_integer" = some (some (.ref f0))) (l0 : K.lookup f0 = some ⟨oc0, od0, .func (PySem.W.fnOf "is_integer" "is_integer" (defArgs s_is_integer) (defBody s_is_integer) (defScope s_is_integer) .none kV0 dc0 pm0 an0 cd0 ct0), sl0⟩) (c0 : PySem.W.codeIn K cd0 "is_integer" = true) (k0 : PySem.W.keepIn K (.ref f0) = true)
    (a1 : PySem.W.nsIn K mainGlobals "is_within" = some (some (.ref f1))) (l1 : K.lookup f1 = some ⟨oc1, od1, .func (PySem.W.fnOf "is_within" "is_within" (defArgs s_is_within) (defBody s_is_within) (defScope s_is_within) .none kV1 dc1 pm1 an1 cd1 ct1), sl1⟩) (c1 : PySem.W.codeIn K cd1 "is_within" = true) (k1 : PySem.W.keepIn K (.ref f1) = true)
    (a2 : PySem.W.nsIn K mainGlobals "is_pair" = some (some (.ref f2))) (l2 : K.lookup f2 = some ⟨oc2, od2, .func (PySem.W.fnOf "is_pair" "is_pair" (defArgs s_is_pair) (defBody s_is_pair) (defScope s_is_pair) .none kV2 dc2 pm2 an2 cd2 ct2), sl2⟩) (c2 : PySem.W.codeIn K cd2 "is_pair" = true) (k2 : PySem.W.keepIn K (.ref f2) = true)
    (a3 : PySem.W.nsIn K mainGlobals "is_lot" = some (some (.ref f3))) (l3 : K.lookup f3 = some ⟨oc3, od3, .func (PySem.W.fnOf "is_lot" "is_lot" (defArgs s_is_lot) (defBody s_is_lot) (defScope s_is_lot) .none kV3 dc3 pm3 an3 cd3 ct3), sl3⟩) (c3 : PySem.W.codeIn K cd3 "is_lot" = true) (k3 : PySem.W.keepIn K (.ref f3) = true)
    (a4 : PySem.W.nsIn K mainGlobals "is_worth" = some (some (.ref f4))) (l4 : K.lookup f4 = some ⟨oc4, od4, .func (PySem.W.fnOf "is_worth" "is_worth" (defArgs s_is_worth) (defBody s_is_worth) (defScope s_is_worth) .none kV4 dc4 pm4 an4 cd4 ct4), sl4⟩) (c4 : PySem.W.codeIn K cd4 "is_worth" = true) (k4 : PySem.W.keepIn K (.ref f4) = true)
    (a5 : PySem.W.nsIn K mainGlobals "is_mark" = some (some (.ref f5))) (l5 : K.lookup f5 = some ⟨oc5, od5, .func (PySem.W.fnOf "is_mark" "is_mark" (defArgs s_is_mark) (defBody s_is_mark) (defScope s_is_mark) .none kV5 dc5 pm5 an5 cd5 ct5), sl5⟩) (c5 : PySem.W.codeIn K cd5 "is_mark" = true) (k5 : PySem.W.keepIn K (.ref f5) = true)
    (a6 : PySem.W.nsIn K mainGlobals "is_commit" = some (some (.ref f6))) (l6 : K.lookup f6 = some ⟨oc6, od6, .func (PySem.W.fnOf "is_commit" "is_commit" (defArgs s_is_commit) (defBody s_is_commit) (defScope s_is_commit) .none kV6 dc6 pm6 an6 cd6 ct6), sl6⟩) (c6 : PySem.W.codeIn K cd6 "is_commit" = true) (k6 : PySem.W.keepIn K (.ref f6) = true)
    (a7 : PySem.W.nsIn K mainGlobals "check_versions" = some (some (.ref f7))) (l7 : K.lookup f7 = some ⟨oc7, od7, .func (PySem.W.fnOf "check_versions" "check_versions" (defArgs s_check_versions) (defBody s_check_versions) (defScope s_check_versions) .none kV7 dc7 pm7 an7 cd7 ct7), sl7⟩) (c7 : PySem.W.codeIn K cd7 "check_versions" = true) (k7 : PySem.W.keepIn K (.ref f7) = true)
    (a8 : PySem.W.nsIn K mainGlobals "check_last" = some (some (.ref f8))) (l8 : K.lookup f8 = some ⟨oc8, od8, .func (PySem.W.fnOf "check_last" "check_last" (defArgs s_check_last) (defBody s_check_last) (defScope s_check_last) .none kV8 dc8 pm8 an8 cd8 ct8), sl8⟩) (c8 : PySem.W.codeIn K cd8 "check_last" = true) (k8 : PySem.W.keepIn K (.ref f8) = true)
    (a9 : PySem.W.nsIn K mainGlobals "check_open" = some (some (.ref f9))) (l9 : K.lookup f9 = some ⟨oc9, od9, .func (PySem.W.fnOf "check_open" "check_open" (defArgs s_check_open) (defBody s_check_open) (defScope s_check_open) .none kV9 dc9 pm9 an9 cd9 ct9), sl9⟩) (c9 : PySem.W.codeIn K cd9 "check_open" = true) (k9 : PySem.W.keepIn K (.ref f9) = true)
    (a10 : PySem.W.nsIn K mainGlobals "check_asked" = some (some (.ref f10))) (l10 : K.lookup f10 = some ⟨oc10, od10, .func (PySem.W.fnOf "check_asked" "check_asked" (defArgs s_check_asked) (defBody s_check_asked) (defScope s_check_asked) .none kV10 dc10 pm10 an10 cd10 ct10), sl10⟩) (c10 : PySem.W.codeIn K cd10 "check_asked" = true) (k10 : PySem.W.keepIn K (.ref f10) = true)
    (a11 : PySem.W.nsIn K mainGlobals "seen_of" = some (some (.ref f11))) (l11 : K.lookup f11 = some ⟨oc11, od11, .func (PySem.W.fnOf "seen_of" "seen_of" (defArgs s_seen_of) (defBody s_seen_of) (defScope s_seen_of) .none kV11 dc11 pm11 an11 cd11 ct11), sl11⟩) (c11 : PySem.W.codeIn K cd11 "seen_of" = true) (k11 : PySem.W.keepIn K (.ref f11) = true)
    (a12 : PySem.W.nsIn K mainGlobals "asked_of" = some (some (.ref f12))) (l12 : K.lookup f12 = some ⟨oc12, od12, .func (PySem.W.fnOf "asked_of" "asked_of" (defArgs s_asked_of) (defBody s_asked_of) (defScope s_asked_of) .none kV12 dc12 pm12 an12 cd12 ct12), sl12⟩) (c12 : PySem.W.codeIn K cd12 "asked_of" = true) (k12 : PySem.W.keepIn K (.ref f12) = true)
    (a13 : PySem.W.nsIn K mainGlobals "needed_of" = some (some (.ref f13))) (l13 : K.lookup f13 = some ⟨oc13, od13, .func (PySem.W.fnOf "needed_of" "needed_of" (defArgs s_needed_of) (defBody s_needed_of) (defScope s_needed_of) .none kV13 dc13 pm13 an13 cd13 ct13), sl13⟩) (c13 : PySem.W.codeIn K cd13 "needed_of" = true) (k13 : PySem.W.keepIn K (.ref f13) = true)
    (a14 : PySem.W.nsIn K mainGlobals "needed" = some (some (.ref f14))) (l14 : K.lookup f14 = some ⟨oc14, od14, .func (PySem.W.fnOf "needed" "needed" (defArgs s_needed) (defBody s_needed) (defScope s_needed) .none kV14 dc14 pm14 an14 cd14 ct14), sl14⟩) (c14 : PySem.W.codeIn K cd14 "needed" = true) (k14 : PySem.W.keepIn K (.ref f14) = true)
    (a15 : PySem.W.nsIn K mainGlobals "_law_mixed" = some (some (.ref f15))) (l15 : K.lookup f15 = some ⟨oc15, od15, .func (PySem.W.fnOf "_law_mixed" "_law_mixed" (defArgs s_L_mixed) (defBody s_L_mixed) (defScope s_L_mixed) .none kV15 dc15 pm15 an15 cd15 ct15), sl15⟩) (c15 : PySem.W.codeIn K cd15 "_law_mixed" = true) (k15 : PySem.W.keepIn K (.ref f15) = true)
    (a16 : PySem.W.nsIn K mainGlobals "_law_bag" = some (some (.ref f16))) (l16 : K.lookup f16 = some ⟨oc16, od16, .func (PySem.W.fnOf "_law_bag" "_law_bag" (defArgs s_L_bag) (defBody s_L_bag) (defScope s_L_bag) .none kV16 dc16 pm16 an16 cd16 ct16), sl16⟩) (c16 : PySem.W.codeIn K cd16 "_law_bag" = true) (k16 : PySem.W.keepIn K (.ref f16) = true)
    (a17 : PySem.W.nsIn K mainGlobals "_law_draw" = some (some (.ref f17))) (l17 : K.lookup f17 = some ⟨oc17, od17, .func (PySem.W.fnOf "_law_draw" "_law_draw" (defArgs s_L_draw) (defBody s_L_draw) (defScope s_L_draw) .none kV17 dc17 pm17 an17 cd17 ct17), sl17⟩) (c17 : PySem.W.codeIn K cd17 "_law_draw" = true) (k17 : PySem.W.keepIn K (.ref f17) = true)
    (a18 : PySem.W.nsIn K mainGlobals "_law_worth" = some (some (.ref f18))) (l18 : K.lookup f18 = some ⟨oc18, od18, .func (PySem.W.fnOf "_law_worth" "_law_worth" (defArgs s_L_worth) (defBody s_L_worth) (defScope s_L_worth) .none kV18 dc18 pm18 an18 cd18 ct18), sl18⟩) (c18 : PySem.W.codeIn K cd18 "_law_worth" = true) (k18 : PySem.W.keepIn K (.ref f18) = true)
    (a19 : PySem.W.nsIn K mainGlobals "_law_versions" = some (some (.ref f19))) (l19 : K.lookup f19 = some ⟨oc19, od19, .func (PySem.W.fnOf "_law_versions" "_law_versions" (defArgs s_L_versions) (defBody s_L_versions) (defScope s_L_versions) .none kV19 dc19 pm19 an19 cd19 ct19), sl19⟩) (c19 : PySem.W.codeIn K cd19 "_law_versions" = true) (k19 : PySem.W.keepIn K (.ref f19) = true)
    (a20 : PySem.W.nsIn K mainGlobals "_law_snapshot" = some (some (.ref f20))) (l20 : K.lookup f20 = some ⟨oc20, od20, .func (PySem.W.fnOf "_law_snapshot" "_law_snapshot" (defArgs s_L_snapshot) (defBody s_L_snapshot) (defScope s_L_snapshot) .none kV20 dc20 pm20 an20 cd20 ct20), sl20⟩) (c20 : PySem.W.codeIn K cd20 "_law_snapshot" = true) (k20 : PySem.W.keepIn K (.ref f20) = true)
    (a21 : PySem.W.nsIn K mainGlobals "_law_open" = some (some (.ref f21))) (l21 : K.lookup f21 = some ⟨oc21, od21, .func (PySem.W.fnOf "_law_open" "_law_open" (defArgs s_L_open) (defBody s_L_open) (defScope s_L_open) .none kV21 dc21 pm21 an21 cd21 ct21), sl21⟩) (c21 : PySem.W.codeIn K cd21 "_law_open" = true) (k21 : PySem.W.keepIn K (.ref f21) = true)
    (a22 : PySem.W.nsIn K mainGlobals "_law_needed" = some (some (.ref f22))) (l22 : K.lookup f22 = some ⟨oc22, od22, .func (PySem.W.fnOf "_law_needed" "_law_needed" (defArgs s_L_needed) (defBody s_L_needed) (defScope s_L_needed) .none kV22 dc22 pm22 an22 cd22 ct22), sl22⟩) (c22 : PySem.W.codeIn K cd22 "_law_needed" = true) (k22 : PySem.W.keepIn K (.ref f22) = true)
    (a23 : PySem.W.nsIn K mainGlobals "_law_is_it" = some (some (.ref f23))) (l23 : K.lookup f23 = some ⟨oc23, od23, .func (PySem.W.fnOf "_law_is_it" "_law_is_it" (defArgs s_L_is_it) (defBody s_L_is_it) (defScope s_L_is_it) .none kV23 dc23 pm23 an23 cd23 ct23), sl23⟩) (c23 : PySem.W.codeIn K cd23 "_law_is_it" = true) (k23 : PySem.W.keepIn K (.ref f23) = true)
    (a24 : PySem.W.nsIn K mainGlobals "law" = some (some (.ref f24))) (l24 : K.lookup f24 = some ⟨oc24, od24, .func (PySem.W.fnOf "law" "law" (defArgs s_law) (defBody s_law) (defScope s_law) .none kV24 dc24 pm24 an24 cd24 ct24), sl24⟩) (c24 : PySem.W.codeIn K cd24 "law" = true) (k24 : PySem.W.keepIn K (.ref f24) = true)
    (z_abs : PySem.W.nsIn K mainGlobals "abs" = some none)
    (z_bool : PySem.W.nsIn K mainGlobals "bool" = some none)
    (z_enumerate : PySem.W.nsIn K mainGlobals "enumerate" = some none)
    (z_int : PySem.W.nsIn K mainGlobals "int" = some none)
    (z_isinstance : PySem.W.nsIn K mainGlobals "isinstance" = some none)
    (z_len : PySem.W.nsIn K mainGlobals "len" = some none)
    (z_list : PySem.W.nsIn K mainGlobals "list" = some none)
    (z_min : PySem.W.nsIn K mainGlobals "min" = some none)
    (z_range : PySem.W.nsIn K mainGlobals "range" = some none)
    (z_sorted : PySem.W.nsIn K mainGlobals "sorted" = some none)
    (z_tuple : PySem.W.nsIn K mainGlobals "tuple" = some none)
    (v_MOST_WORTH : PySem.W.nsIn K mainGlobals "MOST_WORTH" = some (some (.int (1000000000000000000) t_MOST_WORTH)))
    : Top K mg where
  b_abs := PySem.W.mg_none_of X G z_abs
  b_bool := PySem.W.mg_none_of X G z_bool
  b_enumerate := PySem.W.mg_none_of X G z_enumerate
  b_int := PySem.W.mg_none_of X G z_int
  b_isinstance := PySem.W.mg_none_of X G z_isinstance
  b_len := PySem.W.mg_none_of X G z_len
  b_list := PySem.W.mg_none_of X G z_list
  b_min := PySem.W.mg_none_of X G z_min
  b_range := PySem.W.mg_none_of X G z_range
  b_sorted := PySem.W.mg_none_of X G z_sorted
  b_tuple := PySem.W.mg_none_of X G z_tuple
  c_MOST_WORTH := ⟨_, PySem.W.mg_of X G v_MOST_WORTH⟩
  f_is_integer := ⟨_, _, PySem.W.mg_of X G a0, fun_mk (st := s_is_integer) l0 c0 k0⟩
  f_is_within := ⟨_, _, PySem.W.mg_of X G a1, fun_mk (st := s_is_within) l1 c1 k1⟩
  f_is_pair := ⟨_, _, PySem.W.mg_of X G a2, fun_mk (st := s_is_pair) l2 c2 k2⟩
  f_is_lot := ⟨_, _, PySem.W.mg_of X G a3, fun_mk (st := s_is_lot) l3 c3 k3⟩
  f_is_worth := ⟨_, _, PySem.W.mg_of X G a4, fun_mk (st := s_is_worth) l4 c4 k4⟩
  f_is_mark := ⟨_, _, PySem.W.mg_of X G a5, fun_mk (st := s_is_mark) l5 c5 k5⟩
  f_is_commit := ⟨_, _, PySem.W.mg_of X G a6, fun_mk (st := s_is_commit) l6 c6 k6⟩
  f_check_versions := ⟨_, _, PySem.W.mg_of X G a7, fun_mk (st := s_check_versions) l7 c7 k7⟩
  f_check_last := ⟨_, _, PySem.W.mg_of X G a8, fun_mk (st := s_check_last) l8 c8 k8⟩
  f_check_open := ⟨_, _, PySem.W.mg_of X G a9, fun_mk (st := s_check_open) l9 c9 k9⟩
  f_check_asked := ⟨_, _, PySem.W.mg_of X G a10, fun_mk (st := s_check_asked) l10 c10 k10⟩
  f_seen_of := ⟨_, _, PySem.W.mg_of X G a11, fun_mk (st := s_seen_of) l11 c11 k11⟩
  f_asked_of := ⟨_, _, PySem.W.mg_of X G a12, fun_mk (st := s_asked_of) l12 c12 k12⟩
  f_needed_of := ⟨_, _, PySem.W.mg_of X G a13, fun_mk (st := s_needed_of) l13 c13 k13⟩
  f_needed := ⟨_, _, PySem.W.mg_of X G a14, fun_mk (st := s_needed) l14 c14 k14⟩
  f_L_mixed := ⟨_, _, PySem.W.mg_of X G a15, fun_mk (st := s_L_mixed) l15 c15 k15⟩
  f_L_bag := ⟨_, _, PySem.W.mg_of X G a16, fun_mk (st := s_L_bag) l16 c16 k16⟩
  f_L_draw := ⟨_, _, PySem.W.mg_of X G a17, fun_mk (st := s_L_draw) l17 c17 k17⟩
  f_L_worth := ⟨_, _, PySem.W.mg_of X G a18, fun_mk (st := s_L_worth) l18 c18 k18⟩
  f_L_versions := ⟨_, _, PySem.W.mg_of X G a19, fun_mk (st := s_L_versions) l19 c19 k19⟩
  f_L_snapshot := ⟨_, _, PySem.W.mg_of X G a20, fun_mk (st := s_L_snapshot) l20 c20 k20⟩
  f_L_open := ⟨_, _, PySem.W.mg_of X G a21, fun_mk (st := s_L_open) l21 c21 k21⟩
  f_L_needed := ⟨_, _, PySem.W.mg_of X G a22, fun_mk (st := s_L_needed) l22 c22 k22⟩
  f_L_is_it := ⟨_, _, PySem.W.mg_of X G a23, fun_mk (st := s_L_is_it) l23 c23 k23⟩
  f_law := ⟨_, _, PySem.W.mg_of X G a24, fun_mk (st := s_law) l24 c24 k24⟩
end K41
open PySem PySem.W PyProof.Rows
set_option maxRecDepth 100000 in
set_option maxHeartbeats 0 in
theorem PySem.Challenge.cw_wholeways_k41_whole_needed_versions_holds : PySem.Challenge.rw_wholeways_k41_whole_needed_versions.Holds := by
  w_on; o_law; k_head; (case hw => w_witness2)
  k_fill
  refine K41.walk (l := PySem.Challenge.rw_wholeways_k41_whole_needed_versions) rfl rfl rfl (fun w h Y => PySem.W.kIn_of Y) ?F
  case F =>
    intro w mg h KX G
    refine' K41.top_mk KX G ?a0 ?l0 ?c0 ?k0 ?a1 ?l1 ?c1 ?k1 ?a2 ?l2 ?c2 ?k2 ?a3 ?l3 ?c3 ?k3 ?a4 ?l4 ?c4 ?k4 ?a5 ?l5 ?c5 ?k5 ?a6 ?l6 ?c6 ?k6 ?a7 ?l7 ?c7 ?k7 ?a8 ?l8 ?c8 ?k8 ?a9 ?l9 ?c9 ?k9 ?a10 ?l10 ?c10 ?k10 ?a11 ?l11 ?c11 ?k11 ?a12 ?l12 ?c12 ?k12 ?a13 ?l13 ?c13 ?k13 ?a14 ?l14 ?c14 ?k14 ?a15 ?l15 ?c15 ?k15 ?a16 ?l16 ?c16 ?k16 ?a17 ?l17 ?c17 ?k17 ?a18 ?l18 ?c18 ?k18 ?a19 ?l19 ?c19 ?k19 ?a20 ?l20 ?c20 ?k20 ?a21 ?l21 ?c21 ?k21 ?a22 ?l22 ?c22 ?k22 ?a23 ?l23 ?c23 ?k23 ?a24 ?l24 ?c24 ?k24 ?z_abs ?z_bool ?z_enumerate ?z_int ?z_isinstance ?z_len ?z_list ?z_min ?z_range ?z_sorted ?z_tuple ?v_MOST_WORTH
    (case a0 => k_is)
    (case l0 => k_is)
    (case c0 => k_is)
    (case k0 => k_is)
    (case a1 => k_is)
    (case l1 => k_is)
    (case c1 => k_is)
    (case k1 => k_is)
    (case a2 => k_is)
    (case l2 => k_is)
    (case c2 => k_is)
    (case k2 => k_is)
    (case a3 => k_is)
    (case l3 => k_is)
    (case c3 => k_is)
    (case k3 => k_is)
    (case a4 => k_is)
    (case l4 => k_is)
    (case c4 => k_is)
    (case k4 => k_is)
    (case a5 => k_is)
    (case l5 => k_is)
    (case c5 => k_is)
    (case k5 => k_is)
    (case a6 => k_is)
    (case l6 => k_is)
    (case c6 => k_is)
    (case k6 => k_is)
    (case a7 => k_is)
    (case l7 => k_is)
    (case c7 => k_is)
    (case k7 => k_is)
    (case a8 => k_is)
    (case l8 => k_is)
    (case c8 => k_is)
    (case k8 => k_is)
    (case a9 => k_is)
    (case l9 => k_is)
    (case c9 => k_is)
    (case k9 => k_is)
    (case a10 => k_is)
    (case l10 => k_is)
    (case c10 => k_is)
    (case k10 => k_is)
    (case a11 => k_is)
    (case l11 => k_is)
    (case c11 => k_is)
    (case k11 => k_is)
    (case a12 => k_is)
    (case l12 => k_is)
    (case c12 => k_is)
    (case k12 => k_is)
    (case a13 => k_is)
    (case l13 => k_is)
    (case c13 => k_is)
    (case k13 => k_is)
    (case a14 => k_is)
    (case l14 => k_is)
    (case c14 => k_is)
    (case k14 => k_is)
    (case a15 => k_is)
    (case l15 => k_is)
    (case c15 => k_is)
    (case k15 => k_is)
    (case a16 => k_is)
    (case l16 => k_is)
    (case c16 => k_is)
    (case k16 => k_is)
    (case a17 => k_is)
    (case l17 => k_is)
    (case c17 => k_is)
    (case k17 => k_is)
    (case a18 => k_is)
    (case l18 => k_is)
    (case c18 => k_is)
    (case k18 => k_is)
    (case a19 => k_is)
    (case l19 => k_is)
    (case c19 => k_is)
    (case k19 => k_is)
    (case a20 => k_is)
    (case l20 => k_is)
    (case c20 => k_is)
    (case k20 => k_is)
    (case a21 => k_is)
    (case l21 => k_is)
    (case c21 => k_is)
    (case k21 => k_is)
    (case a22 => k_is)
    (case l22 => k_is)
    (case c22 => k_is)
    (case k22 => k_is)
    (case a23 => k_is)
    (case l23 => k_is)
    (case c23 => k_is)
    (case k23 => k_is)
    (case a24 => k_is)
    (case l24 => k_is)
    (case c24 => k_is)
    (case k24 => k_is)
    (case z_abs => k_is)
    (case z_bool => k_is)
    (case z_enumerate => k_is)
    (case z_int => k_is)
    (case z_isinstance => k_is)
    (case z_len => k_is)
    (case z_list => k_is)
    (case z_min => k_is)
    (case z_range => k_is)
    (case z_sorted => k_is)
    (case z_tuple => k_is)
    (case v_MOST_WORTH => k_is)
