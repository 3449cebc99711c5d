import PyProof.Rows.All
import HandS.ForMost
import HandS.ForExc
import HandS.TupAny
import HandS.TupMul
import HandS.EndBits
import HandS.CallSlots
import KE.SortData
import HandS.Defaults
import PyProof.P3In
import HandS.IsInst
import HandS.Zip
import HandS.Deep
import HandS.TupLe
import HandS.Strs
import KE.SortKeyHeap
import HandS.SortKw
import HandS.More
import PySem.Challenge.RW_cancelleaves_k09_up_to
set_option Elab.async false
set_option linter.all false
set_option maxRecDepth 100000
set_option autoImplicit true
namespace PL
open PySem PySem.Spec PyProof.Rows L2

/-! ## plain values: tuples are values, lists, dicts and instances stand at addresses -/
inductive PV where
  | non | bl (b : Bool) | int (i : Int) | str (x : Str) | tup (xs : List PV) | ref (a : Addr) | ty (n : String)

abbrev Fg := PySem.W.Frag

mutual
def Rep (K : Fg) (H : Hp) : PV → V → Prop
  | .non, v => v = .non
  | .bl b, v => v = .bl b
  | .int i, v => v = .int i
  | .str x, v => v = .str x
  | .tup xs, v => ∃ a vs, v = .ref a ∧ SqT K H a vs ∧ Reps K H xs vs
  | .ref a, v => v = .ref a
  | .ty n, v => v = .ty n
def Reps (K : Fg) (H : Hp) : List PV → List V → Prop
  | [], vs => vs = []
  | x :: xs, vs => ∃ v r, vs = v :: r ∧ Rep K H x v ∧ Reps K H xs r
end

inductive PO where
  | lst (xs : List PV)
  | rol (xs : List PV)
  | ins (C : Addr) (fs : List (Str × PV))
  | dK (kvs : List (Key × PV))
def PO.wr : PO → Bool
  | .rol _ => false
  | _ => true

abbrev PH := Addr → Option PO
def pupd (M : PH) (a : Addr) (o : PO) : PH := fun b => if b = a then some o else M b
theorem pupd_same {M : PH} {a : Addr} {o : PO} : pupd M a o a = some o := by unfold pupd; rw [if_pos rfl]
theorem pupd_ne {M : PH} {a b : Addr} {o : PO} (h : b ≠ a) : pupd M a o b = M b := by unfold pupd; rw [if_neg h]
/-- what stands at a may be written -/
def Wr (M : PH) (a : Addr) : Prop := ∃ o, M a = some o ∧ o.wr = true
theorem Wr.of {M : PH} {a : Addr} {o : PO} (h : M a = some o) (w : o.wr = true := by rfl) : Wr M a := ⟨o, h, w⟩
theorem Wr.ne {M : PH} {a b : Addr} (w : Wr M a) (n : ¬ Wr M b) : a ≠ b := fun e => n (e ▸ w)

def RepF (K : Fg) (H : Hp) (fs : List (Str × PV)) (vs : List (Str × V)) : Prop := fs.map (·.1) = vs.map (·.1) ∧ Reps K H (fs.map (·.2)) (vs.map (·.2))
def RepK (K : Fg) (H : Hp) (fs : List (Key × PV)) (vs : List (Key × V)) : Prop := fs.map (·.1) = vs.map (·.1) ∧ Reps K H (fs.map (·.2)) (vs.map (·.2))
/-- a list of the written part -/
def KList (K : Fg) (a : Addr) (xs : List V) : Prop :=
  ∃ (o : Obj) (its : Array Value) (n : Nat), K.lookup a = some o ∧ o.cls = .type "list" ∧ o.dict = none ∧ o.data = .seq its n ∧ its.size ≤ sizeLine ∧ Vals xs its.toList
def RepO (K : Fg) (H : Hp) (a : Addr) : PO → Prop
  | .lst xs => ∃ vs, H a = some (.lst vs) ∧ Reps K H xs vs
  | .rol xs => ∃ vs, ((∃ o, H a = some (.frz o (.lst vs))) ∨ KList K a vs) ∧ Reps K H xs vs
  | .ins C fs => ∃ dx vs, H a = some (.ins C dx vs) ∧ RepF K H fs vs
  | .dK kvs => ∃ vs, H a = some (.dK vs) ∧ RepK K H kvs vs
def RepH (K : Fg) (H : Hp) (M : PH) : Prop := ∀ a o, M a = some o → RepO K H a o

structure Step (M : PH) (H : Hp) (M' : PH) (H' : Hp) : Prop where
  keep : ∀ a o, H a = some o → ¬ Wr M a → H' a = some o
  fresh : ∀ a, Wr M' a → ¬ Wr M a → H a = none
  there : ∀ a, H a ≠ none → H' a ≠ none
theorem Step.refl (M : PH) (H : Hp) : Step M H M H := ⟨fun _ _ e _ => e, fun _ w n => (n w).elim, fun _ h => h⟩
theorem there_upd {H : Hp} {b : Addr} {o : HO} : ∀ a, H a ≠ none → upd H b o a ≠ none := fun a h => by
  unfold upd
  split
  · exact fun z => (by cases z)
  · exact h
theorem Step.trans {M M1 M2 : PH} {H H1 H2 : Hp} (a : Step M H M1 H1) (b : Step M1 H1 M2 H2) : Step M H M2 H2 := by
  refine ⟨fun x o e n => ?_, fun x w n => ?_, fun x h => b.there x (a.there x h)⟩
  · refine b.keep x o (a.keep x o e n) fun w1 => ?_
    have := a.fresh x w1 n
    rw [e] at this; cases this
  · by_cases w1 : Wr M1 x
    · exact a.fresh x w1 n
    · have h1 := b.fresh x w w1
      cases q : H x with
      | none => rfl
      | some o => rw [a.keep x o q n] at h1; cases h1

/-- the tuples that stand stay: enough for what represents values -/
def TKeep (H H' : Hp) : Prop := (∀ a xs, H a = some (.tup xs) → H' a = some (.tup xs)) ∧ ∀ a o xs, H a = some (.frz o (.tup xs)) → H' a = some (.frz o (.tup xs))
theorem TKeep.refl (H : Hp) : TKeep H H := ⟨fun _ _ e => e, fun _ _ _ e => e⟩
theorem sqt_keep {K : Fg} {H H' : Hp} (t : TKeep H H') {a : Addr} {xs : List V} (h : SqT K H a xs) : SqT K H' a xs := by
  rcases h with (h | ⟨o, h⟩) | h
  · exact .inl (.inl (t.1 _ _ h))
  · exact .inl (.inr ⟨o, t.2 _ _ _ h⟩)
  · exact .inr h
mutual
theorem Rep.tk {K : Fg} {H H' : Hp} (t : TKeep H H') : ∀ {p : PV} {v : V}, Rep K H p v → Rep K H' p v
  | .non, _, h => h
  | .bl _, _, h => h
  | .int _, _, h => h
  | .str _, _, h => h
  | .ref _, _, h => h
  | .ty _, _, h => h
  | .tup xs, v, h => by
    rw [Rep] at h ⊢
    obtain ⟨a, vs, e, s, r⟩ := h
    exact ⟨a, vs, e, sqt_keep t s, Reps.tk t r⟩
theorem Reps.tk {K : Fg} {H H' : Hp} (t : TKeep H H') : ∀ {ps : List PV} {vs : List V}, Reps K H ps vs → Reps K H' ps vs
  | [], _, h => h
  | x :: xs, _, h => by
    rw [Reps] at h ⊢
    obtain ⟨v, r, e, s, q⟩ := h
    exact ⟨v, r, e, Rep.tk t s, Reps.tk t q⟩
end
theorem RepF.tk {K : Fg} {H H' : Hp} (t : TKeep H H') {fs : List (Str × PV)} {vs : List (Str × V)} (h : RepF K H fs vs) : RepF K H' fs vs := ⟨h.1, h.2.tk t⟩
theorem RepK.tk {K : Fg} {H H' : Hp} (t : TKeep H H') {fs : List (Key × PV)} {vs : List (Key × V)} (h : RepK K H fs vs) : RepK K H' fs vs := ⟨h.1, h.2.tk t⟩
/-- no tuple stands where something may be written -/
theorem RepH.notup {K : Fg} {H : Hp} {M : PH} (rh : RepH K H M) {a : Addr} (w : Wr M a) : (∀ xs, H a ≠ some (.tup xs)) ∧ ∀ o xs, H a ≠ some (.frz o xs) := by
  obtain ⟨o, e, hw⟩ := w
  have r := rh a o e
  cases o with
  | lst xs => obtain ⟨vs, h, _⟩ := r; rw [h]; exact ⟨fun _ z => (by cases z), fun _ _ z => (by cases z)⟩
  | rol xs => cases hw
  | ins C fs => obtain ⟨dx, vs, h, _⟩ := r; rw [h]; exact ⟨fun _ z => (by cases z), fun _ _ z => (by cases z)⟩
  | dK kvs => obtain ⟨vs, h, _⟩ := r; rw [h]; exact ⟨fun _ z => (by cases z), fun _ _ z => (by cases z)⟩
theorem Step.tk {K : Fg} {M M' : PH} {H H' : Hp} (S : Step M H M' H') (rh : RepH K H M) : TKeep H H' :=
  ⟨fun a xs e => S.keep a _ e fun w => (rh.notup w).1 _ e, fun a o xs e => S.keep a _ e fun w => (rh.notup w).2 _ _ e⟩
/-- .. and where it may, something stands -/
theorem RepH.there {K : Fg} {H : Hp} {M : PH} (rh : RepH K H M) {a : Addr} (w : Wr M a) : H a ≠ none := by
  obtain ⟨o, e, hw⟩ := w
  have r := rh a o e
  cases o with
  | lst xs => obtain ⟨vs, h, _⟩ := r; rw [h]; exact fun z => (by cases z)
  | rol xs => cases hw
  | ins C fs => obtain ⟨dx, vs, h, _⟩ := r; rw [h]; exact fun z => (by cases z)
  | dK kvs => obtain ⟨vs, h, _⟩ := r; rw [h]; exact fun z => (by cases z)
theorem RepH.free {K : Fg} {H : Hp} {M : PH} (rh : RepH K H M) {a : Addr} (e : H a = none) : ¬ Wr M a := fun w => rh.there w e

/-- what stands at a, where the heap is the same at a and the tuples stay -/
theorem RepO.keep {K : Fg} {H H' : Hp} {a : Addr} (t : TKeep H H') (e : ∀ u, H a = some u → H' a = some u) : ∀ {o : PO}, RepO K H a o → RepO K H' a o
  | .lst xs, ⟨vs, h, r⟩ => ⟨vs, e _ h, r.tk t⟩
  | .rol xs, ⟨vs, .inl ⟨o, h⟩, r⟩ => ⟨vs, .inl ⟨o, e _ h⟩, r.tk t⟩
  | .rol xs, ⟨vs, .inr h, r⟩ => ⟨vs, .inr h, r.tk t⟩
  | .ins C fs, ⟨dx, vs, h, r⟩ => ⟨dx, vs, e _ h, r.tk t⟩
  | .dK kvs, ⟨vs, h, r⟩ => ⟨vs, e _ h, r.tk t⟩

/-- a write or a new object at a: what was not there, or what could be written -/
theorem tk_upd {H : Hp} {a : Addr} {o : HO} (h : (∀ xs, H a ≠ some (.tup xs)) ∧ ∀ o xs, H a ≠ some (.frz o xs)) : TKeep H (upd H a o) :=
  ⟨fun b xs e => by rw [upd_ne (fun z => h.1 xs (by rw [← z]; exact e))]; exact e, fun b u xs e => by rw [upd_ne (fun z => h.2 u _ (by rw [← z]; exact e))]; exact e⟩
theorem tk_new {H : Hp} {a : Addr} {o : HO} (h : H a = none) : TKeep H (upd H a o) := tk_upd ⟨fun _ z => (by rw [h] at z; cases z), fun _ _ z => (by rw [h] at z; cases z)⟩
theorem RepH.upd_free {K : Fg} {H : Hp} {M : PH} (rh : RepH K H M) {a : Addr} {o : HO} (h : H a = none) : RepH K (upd H a o) M := fun b u e =>
  (rh b u e).keep (tk_new h) fun w q => by rw [upd_ne fun z => by rw [z, h] at q; cases q]; exact q
/-- an object outside of M is written -/
theorem RepH.upd_out {K : Fg} {H : Hp} {M : PH} (rh : RepH K H M) {a : Addr} {o : HO} (hw : ¬ Wr M a) (h : (∀ xs, H a ≠ some (.tup xs)) ∧ ∀ o xs, H a ≠ some (.frz o xs)) : RepH K (upd H a o) M := fun b u e => by
  have t : TKeep H (upd H a o) := tk_upd h
  have r := rh b u e
  by_cases hb : b = a
  · subst hb
    cases u with
    | lst xs => exact (hw ⟨_, e, rfl⟩).elim
    | ins C fs => exact (hw ⟨_, e, rfl⟩).elim
    | dK kvs => exact (hw ⟨_, e, rfl⟩).elim
    | rol xs =>
      obtain ⟨vs, hh, q⟩ := r
      rcases hh with ⟨o', hh⟩ | hh
      · exact (h.2 _ _ hh).elim
      · exact ⟨vs, .inr hh, q.tk t⟩
  · exact r.keep t fun w q => by rw [upd_ne hb]; exact q
/-- an object is written or laid at a, in both heaps -/
theorem RepH.upd_both {K : Fg} {H : Hp} {M : PH} (rh : RepH K H M) {a : Addr} {o : HO} {p : PO} (h : (∀ xs, H a ≠ some (.tup xs)) ∧ ∀ o xs, H a ≠ some (.frz o xs)) (new : RepO K (upd H a o) a p) : RepH K (upd H a o) (pupd M a p) := fun b u e => by
  by_cases hb : b = a
  · subst hb
    rw [pupd_same] at e; cases e
    exact new
  · rw [pupd_ne hb] at e
    exact (rh b u e).keep (tk_upd h) fun w q => by rw [upd_ne hb]; exact q
theorem wr_pupd {M : PH} {a b : Addr} {p : PO} (w : Wr (pupd M a p) b) : b = a ∨ Wr M b := by
  by_cases hb : b = a
  · exact .inl hb
  · obtain ⟨o, e, hw⟩ := w
    rw [pupd_ne hb] at e
    exact .inr ⟨o, e, hw⟩
theorem Step.write {M : PH} {H : Hp} {a : Addr} {o : HO} {p : PO} (w : Wr M a) : Step M H (pupd M a p) (upd H a o) :=
  ⟨fun b u e n => by rw [upd_ne (fun z => n (by rw [z]; exact w))]; exact e, fun b wb n => (by
    rcases wr_pupd wb with e | e
    · exact (n (e ▸ w)).elim
    · exact (n e).elim), there_upd⟩
theorem Step.new {M : PH} {H : Hp} {a : Addr} {o : HO} {p : PO} (h : H a = none) : Step M H (pupd M a p) (upd H a o) :=
  ⟨fun b u e n => by rw [upd_ne fun z => by rw [z, h] at e; cases e]; exact e, fun b wb n => (by
    rcases wr_pupd wb with e | e
    · rw [e]; exact h
    · exact (n e).elim), there_upd⟩
/-- something that M does not know is laid -/
theorem Step.hidden {M : PH} {H : Hp} {a : Addr} {o : HO} (h : H a = none) : Step M H M (upd H a o) :=
  ⟨fun b u e n => by rw [upd_ne fun z => by rw [z, h] at e; cases e]; exact e, fun b wb n => (n wb).elim, there_upd⟩
theorem Step.free {M M' : PH} {H H' : Hp} (S : Step M H M' H') {a : Addr} (h : H' a = none) : H a = none := by
  cases z : H a with
  | none => rfl
  | some u => exact (S.there a (by rw [z]; exact fun q => (by cases q)) h).elim
/-- .. or written, where it wasn't there at the start -/
theorem Step.over {M M' : PH} {H H' : Hp} {a : Addr} {o : HO} (S : Step M H M' H') (h : H a = none) : Step M H M' (upd H' a o) :=
  ⟨fun b u e n => by rw [upd_ne fun z => by rw [z, h] at e; cases e]; exact S.keep b u e n, S.fresh, fun b hb => there_upd b (S.there b hb)⟩
/-- forgetting -/
def PLe (M M' : PH) : Prop := ∀ a o, M a = some o → M' a = some o
theorem PLe.refl (M : PH) : PLe M M := fun _ _ e => e
theorem PLe.trans {M M1 M2 : PH} (a : PLe M M1) (b : PLe M1 M2) : PLe M M2 := fun x o e => b x o (a x o e)
theorem RepH.le {K : Fg} {H : Hp} {M M' : PH} (l : PLe M M') (rh : RepH K H M') : RepH K H M := fun a o e => rh a o (l a o e)
theorem Wr.le {M M' : PH} (l : PLe M M') {a : Addr} (w : Wr M a) : Wr M' a := let ⟨o, e, h⟩ := w; ⟨o, l a o e, h⟩
theorem Step.le {M M1 M2 : PH} {H H' : Hp} (S : Step M H M2 H') (l : PLe M1 M2) : Step M H M1 H' := ⟨S.keep, fun a w n => S.fresh a (w.le l) n, S.there⟩

/-! ## lists of represented values -/
section
variable {K : Fg} {H : Hp}
theorem Reps.length : ∀ {ps : List PV} {vs : List V}, Reps K H ps vs → ps.length = vs.length
  | [], _, h => by rw [Reps] at h; subst h; rfl
  | x :: xs, _, h => by
    rw [Reps] at h
    obtain ⟨v, r, e, _, q⟩ := h
    subst e
    simp [Reps.length q]
theorem Reps.nil : Reps K H [] [] := by rw [Reps]
theorem Reps.cons {p : PV} {v : V} {ps : List PV} {vs : List V} (h : Rep K H p v) (t : Reps K H ps vs) : Reps K H (p :: ps) (v :: vs) := by
  rw [Reps]; exact ⟨v, vs, rfl, h, t⟩
theorem Reps.append : ∀ {ps qs : List PV} {vs us : List V}, Reps K H ps vs → Reps K H qs us → Reps K H (ps ++ qs) (vs ++ us)
  | [], _, _, _, h, g => by rw [Reps] at h; subst h; exact g
  | x :: xs, qs, _, us, h, g => by
    rw [Reps] at h
    obtain ⟨v, r, e, h1, q⟩ := h
    subst e
    exact .cons h1 (Reps.append q g)
theorem Reps.get : ∀ {ps : List PV} {vs : List V}, Reps K H ps vs → ∀ {i : Nat} {p : PV}, ps[i]? = some p → ∃ v, vs[i]? = some v ∧ Rep K H p v
  | [], _, _, i, p, e => by simp at e
  | x :: xs, _, h, i, p, e => by
    rw [Reps] at h
    obtain ⟨v, r, e', h1, q⟩ := h
    subst e'
    cases i with
    | zero => simp at e; subst e; exact ⟨v, rfl, h1⟩
    | succ i =>
      obtain ⟨u, a, b⟩ := Reps.get q (i := i) (p := p) (by simpa using e)
      exact ⟨u, by simpa using a, b⟩
theorem Reps.got : ∀ {ps : List PV} {vs : List V}, Reps K H ps vs → ∀ {i : Nat} {v : V}, vs[i]? = some v → ∃ p, ps[i]? = some p ∧ Rep K H p v := fun {ps vs} h {i v} e => by
  have hl := h.length
  have hi : i < vs.length := (List.getElem?_eq_some_iff.mp e).1
  have e1 : ps[i]? = some (ps[i]'(by omega)) := List.getElem?_eq_getElem _
  obtain ⟨u, a, b⟩ := h.get e1
  rw [e] at a; cases a
  exact ⟨_, e1, b⟩
theorem Reps.set {p : PV} {v : V} (r : Rep K H p v) : ∀ {ps : List PV} {vs : List V} (i : Nat), Reps K H ps vs → Reps K H (ps.set i p) (vs.set i v)
  | [], _, _, h => by rw [Reps] at h; subst h; exact .nil
  | x :: xs, _, i, h => by
    rw [Reps] at h
    obtain ⟨u, t, e, h1, q⟩ := h
    subst e
    cases i with
    | zero => exact .cons r q
    | succ i => exact .cons h1 (Reps.set r i q)
theorem Reps.take : ∀ {ps : List PV} {vs : List V} (n : Nat), Reps K H ps vs → Reps K H (ps.take n) (vs.take n)
  | [], _, n, h => by rw [Reps] at h; subst h; simp [Reps]
  | x :: xs, _, n, h => by
    rw [Reps] at h
    obtain ⟨u, t, e, h1, q⟩ := h
    subst e
    cases n with
    | zero => exact .nil
    | succ n => exact .cons h1 (Reps.take n q)
theorem Reps.drop : ∀ {ps : List PV} {vs : List V} (n : Nat), Reps K H ps vs → Reps K H (ps.drop n) (vs.drop n)
  | [], _, n, h => by rw [Reps] at h; subst h; simp [Reps]
  | x :: xs, _, n, h => by
    rw [Reps] at h
    obtain ⟨u, t, e, h1, q⟩ := h
    subst e
    cases n with
    | zero => exact .cons h1 q
    | succ n => exact Reps.drop n q
theorem Reps.eraseIdx : ∀ {ps : List PV} {vs : List V} (n : Nat), Reps K H ps vs → Reps K H (ps.eraseIdx n) (vs.eraseIdx n)
  | [], _, n, h => by rw [Reps] at h; subst h; simp [Reps]
  | x :: xs, _, n, h => by
    rw [Reps] at h
    obtain ⟨u, t, e, h1, q⟩ := h
    subst e
    cases n with
    | zero => exact q
    | succ n => exact .cons h1 (Reps.eraseIdx n q)
theorem Reps.rep {ps : List PV} {vs : List V} (h : Reps K H ps vs) : ∀ k : Nat, Reps K H (List.replicate k ps).flatten (List.replicate k vs).flatten
  | 0 => .nil
  | k + 1 => by
    rw [List.replicate_succ, List.replicate_succ, List.flatten_cons, List.flatten_cons]
    exact h.append (Reps.rep h k)
theorem Reps.isEmpty {ps : List PV} {vs : List V} (h : Reps K H ps vs) : ps.isEmpty = vs.isEmpty := by
  have := h.length
  cases ps <;> cases vs <;> simp_all
theorem Rep.int_of {p : PV} {i : Int} (h : Rep K H p (.int i)) : p = .int i := by
  cases p with
  | int j => rw [Rep] at h; cases h; rfl
  | tup xs => rw [Rep] at h; obtain ⟨_, _, e, _⟩ := h; cases e
  | _ => rw [Rep] at h; cases h
theorem Reps.ints : ∀ {ns : List Int}, Reps K H (ns.map PV.int) (ns.map V.int)
  | [] => .nil
  | n :: r => by rw [List.map_cons, List.map_cons]; exact .cons (by rw [Rep]) Reps.ints
end
end PL
set_option autoImplicit true
namespace PL
open PySem PySem.Spec L2
open PyProof.Rows hiding St

/-! ## what is wanted: predicates over plain values and heaps -/
abbrev PSt := List (Option PV)
abbrev PX := Value → List (Str × PV) → PSt → PH → Prop
abbrev QE := PV → PH → Prop
abbrev WE := PX → PSt → PH → QE → Prop
abbrev WT := PX → PSt → PH → (Bool → PH → Prop) → Prop
abbrev WA := PX → PSt → PH → (List PV → PH → Prop) → Prop
structure PEnds where
  nx : PSt → PH → Prop
  rt : PV → PH → Prop
  bk : PSt → PH → Prop := fun _ _ => False
  ct : PSt → PH → Prop := fun _ _ => False
abbrev WS := PX → PEnds → PSt → PH → Prop

def RepS (K : Fg) (H : Hp) (ps : PSt) (σ : St) : Prop := ps.length = σ.length ∧ ∀ (i : Nat) (p : PV), ps[i]? = some (some p) → ∃ v, σ[i]? = some (some v) ∧ Rep K H p v
theorem RepS.tk {K : Fg} {H H' : Hp} (t : TKeep H H') {ps : PSt} {σ : St} (h : RepS K H ps σ) : RepS K H' ps σ :=
  ⟨h.1, fun i p e => let ⟨v, a, b⟩ := h.2 i p e; ⟨v, a, b.tk t⟩⟩
theorem RepS.set {K : Fg} {H : Hp} {ps : PSt} {σ : St} (h : RepS K H ps σ) {p : PV} {v : V} (r : Rep K H p v) (i : Nat) : RepS K H (ps.set i (some p)) (σ.set i (some v)) := by
  refine ⟨by simp [h.1], fun j q e => ?_⟩
  by_cases hj : j = i
  · subst hj
    have hl : j < ps.length := by
      have := (List.getElem?_eq_some_iff.mp e).1
      simpa using this
    rw [List.getElem?_set_self hl] at e
    cases e
    exact ⟨v, List.getElem?_set_self (by rw [← h.1]; exact hl), r⟩
  · rw [List.getElem?_set_ne (Ne.symm hj)] at e
    obtain ⟨u, a, b⟩ := h.2 j q e
    exact ⟨u, by rw [List.getElem?_set_ne (Ne.symm hj)]; exact a, b⟩
theorem RepS.setN {K : Fg} {H : Hp} {ps : PSt} {σ : St} (h : RepS K H ps σ) (i : Nat) : RepS K H (ps.set i none) (σ.set i none) := by
  refine ⟨by simp [h.1], fun j q e => ?_⟩
  by_cases hj : j = i
  · subst hj
    have hl : j < ps.length := by
      have := (List.getElem?_eq_some_iff.mp e).1
      simpa using this
    rw [List.getElem?_set_self hl] at e
    cases e
  · rw [List.getElem?_set_ne (Ne.symm hj)] at e
    obtain ⟨u, a, b⟩ := h.2 j q e
    exact ⟨u, by rw [List.getElem?_set_ne (Ne.symm hj)]; exact a, b⟩
def ExcAt (K : Fg) (H : Hp) (od : Option Addr) (fs : List (Str × PV)) : Prop := (od = none ∧ fs = []) ∨ ∃ d vs, od = some d ∧ H d = some (.xd vs) ∧ RepF K H fs vs

structure Cur (K : Fg) (W : WX) (EP : PX) (ps : PSt) (M : PH) (σ : St) (H : Hp) : Prop where
  rs : RepS K H ps σ
  rh : RepH K H M
  tk : ∀ C od fs ps' σ' M' H', Step M H M' H' → RepS K H' ps' σ' → RepH K H' M' → ExcAt K H' od fs → EP C fs ps' M' → W C od σ' H'
section
variable {K : Fg} {W : WX} {EP : PX} {ps : PSt} {M M1 M2 : PH} {σ : St} {H H1 H2 : Hp}
theorem Cur.step (c : Cur K W EP ps M σ H) (S : Step M H M1 H1) (rh : RepH K H1 M1) : Cur K W EP ps M1 σ H1 :=
  ⟨c.rs.tk (S.tk c.rh), rh, fun C od fs ps' σ' M' H' S' r1 r2 r3 q => c.tk C od fs ps' σ' M' H' (S.trans S') r1 r2 r3 q⟩
/-- the wish of the hand layer seen from here -/
def Dn (K : Fg) (M : PH) (H : Hp) (Q : VK) : QE := fun p M' => ∀ v H', Step M H M' H' → RepH K H' M' → Rep K H' p v → Q v H'
def DnT (K : Fg) (M : PH) (H : Hp) (Q : Bool → Hp → Prop) : Bool → PH → Prop := fun b M' => ∀ H', Step M H M' H' → RepH K H' M' → Q b H'
def DnA (K : Fg) (M : PH) (H : Hp) (Q : List V → Hp → Prop) : List PV → PH → Prop := fun p M' => ∀ v H', Step M H M' H' → RepH K H' M' → Reps K H' p v → Q v H'
theorem Dn.on {Q : VK} {p : PV} {M' : PH} (S : Step M H M1 H1) (h : Dn K M H Q p M') : Dn K M1 H1 Q p M' := fun v H' S' r q => h v H' (S.trans S') r q
theorem DnT.on {Q : Bool → Hp → Prop} {p : Bool} {M' : PH} (S : Step M H M1 H1) (h : DnT K M H Q p M') : DnT K M1 H1 Q p M' := fun H' S' r => h H' (S.trans S') r
theorem DnA.on {Q : List V → Hp → Prop} {p : List PV} {M' : PH} (S : Step M H M1 H1) (h : DnA K M H Q p M') : DnA K M1 H1 Q p M' := fun v H' S' r q => h v H' (S.trans S') r q
def dn (K : Fg) (M : PH) (H : Hp) (D : Ends) : PEnds where
  nx := fun ps' M' => ∀ σ' H', Step M H M' H' → RepH K H' M' → RepS K H' ps' σ' → D.nx σ' H'
  rt := Dn K M H D.rt
  bk := fun ps' M' => ∀ σ' H', Step M H M' H' → RepH K H' M' → RepS K H' ps' σ' → D.bk σ' H'
  ct := fun ps' M' => ∀ σ' H', Step M H M' H' → RepH K H' M' → RepS K H' ps' σ' → D.ct σ' H'
structure PEnds.Le (D D' : PEnds) : Prop where
  nx : ∀ s M, D.nx s M → D'.nx s M
  rt : ∀ p M, D.rt p M → D'.rt p M
  bk : ∀ s M, D.bk s M → D'.bk s M
  ct : ∀ s M, D.ct s M → D'.ct s M
theorem PEnds.Le.refl (D : PEnds) : D.Le D := ⟨fun _ _ h => h, fun _ _ h => h, fun _ _ h => h, fun _ _ h => h⟩
theorem dn_on {D : Ends} (S : Step M H M1 H1) : (dn K M H D).Le (dn K M1 H1 D) :=
  ⟨fun _ _ h σ' H' S' r q => h σ' H' (S.trans S') r q, fun _ _ h => h.on S, fun _ _ h σ' H' S' r q => h σ' H' (S.trans S') r q, fun _ _ h σ' H' S' r q => h σ' H' (S.trans S') r q⟩
end
def MonoE (w : WE) : Prop := ∀ EP s M Q Q', (∀ p M', Q p M' → Q' p M') → w EP s M Q → w EP s M Q'
def MonoT (w : WT) : Prop := ∀ EP s M Q Q', (∀ p M', Q p M' → Q' p M') → w EP s M Q → w EP s M Q'
def MonoA (w : WA) : Prop := ∀ EP s M Q Q', (∀ p M', Q p M' → Q' p M') → w EP s M Q → w EP s M Q'
def MonoS (w : WS) : Prop := ∀ EP D D' s M, D.Le D' → w EP D s M → w EP D' s M
def up (K : Fg) (W : WX) (w : WE) : TE := fun σ H Q => ∃ EP s M, Cur K W EP s M σ H ∧ w EP s M (Dn K M H Q)
def upT (K : Fg) (W : WX) (w : WT) : TT := fun σ H Q => ∃ EP s M, Cur K W EP s M σ H ∧ w EP s M (DnT K M H Q)
def upA (K : Fg) (W : WX) (w : WA) : TA := fun σ H Q => ∃ EP s M, Cur K W EP s M σ H ∧ w EP s M (DnA K M H Q)
def upS (K : Fg) (W : WX) (w : WS) : TS := fun D σ H => ∃ EP s M, Cur K W EP s M σ H ∧ w EP (dn K M H D) s M
section
variable {K : Fg} {W : WX} {EP : PX} {s : PSt} {M : PH} {σ : St} {H : Hp}
theorem Cur.use {w : WE} (c : Cur K W EP s M σ H) (hm : MonoE w) {R : QE} (h : w EP s M R) {Q : VK} (k : ∀ p M1 v H1, R p M1 → Step M H M1 H1 → Cur K W EP s M1 σ H1 → Rep K H1 p v → Q v H1) : up K W w σ H Q :=
  ⟨EP, s, M, c, hm _ _ _ _ _ (fun p M1 r v H1 S rh q => k p M1 v H1 r S (c.step S rh) q) h⟩
theorem Cur.useT {w : WT} (c : Cur K W EP s M σ H) (hm : MonoT w) {R : Bool → PH → Prop} (h : w EP s M R) {Q : Bool → Hp → Prop} (k : ∀ p M1 H1, R p M1 → Step M H M1 H1 → Cur K W EP s M1 σ H1 → Q p H1) : upT K W w σ H Q :=
  ⟨EP, s, M, c, hm _ _ _ _ _ (fun p M1 r H1 S rh => k p M1 H1 r S (c.step S rh)) h⟩
theorem Cur.useA {w : WA} (c : Cur K W EP s M σ H) (hm : MonoA w) {R : List PV → PH → Prop} (h : w EP s M R) {Q : List V → Hp → Prop} (k : ∀ p M1 v H1, R p M1 → Step M H M1 H1 → Cur K W EP s M1 σ H1 → Reps K H1 p v → Q v H1) : upA K W w σ H Q :=
  ⟨EP, s, M, c, hm _ _ _ _ _ (fun p M1 r v H1 S rh q => k p M1 v H1 r S (c.step S rh) q) h⟩
theorem Cur.useS {w : WS} (c : Cur K W EP s M σ H) (hm : MonoS w) {D' : PEnds} {D : Ends} (h : w EP D' s M) (k : D'.Le (dn K M H D)) : upS K W w D σ H :=
  ⟨EP, s, M, c, hm _ _ _ _ _ k h⟩
end
/-! ## judgements -/
structure EE (X : Cx) (W : WX) (e : Expr) (w : WE) : Prop where
  mono : MonoE w
  run : PE X e (up X.K W w)
structure ET (X : Cx) (W : WX) (e : Expr) (w : WT) : Prop where
  mono : MonoT w
  run : PT X e (upT X.K W w)
structure EW (X : Cx) (W : WX) (e : Expr) (w : WT) : Prop where
  mono : MonoT w
  run : PW X e (upT X.K W w)
structure EA (X : Cx) (W : WX) (es : List Expr) (w : WA) : Prop where
  mono : MonoA w
  run : PA X es (upA X.K W w)
structure ES (X : Cx) (W : WX) (st : Stmt) (w : WS) : Prop where
  mono : MonoS w
  run : PS X st (upS X.K W w)
structure EB (X : Cx) (W : WX) (st : List Stmt) (w : WS) : Prop where
  mono : MonoS w
  run : PSs X st (upS X.K W w)
theorem pe_weak {X : Cx} {e : Expr} {t t' : TE} (h : PE X e t) (k : ∀ σ H Q, t' σ H Q → t σ H Q) : PE X e t' := ⟨fun pins s σ H Q I q => h.run pins s σ H Q I (k _ _ _ q)⟩
theorem pt_weak {X : Cx} {e : Expr} {t t' : TT} (h : PT X e t) (k : ∀ σ H Q, t' σ H Q → t σ H Q) : PT X e t' := ⟨fun pins s σ H Q I q => h.run pins s σ H Q I (k _ _ _ q)⟩
theorem pw_weak {X : Cx} {e : Expr} {t t' : TT} (h : PW X e t) (k : ∀ σ H Q, t' σ H Q → t σ H Q) : PW X e t' := ⟨fun wh pins s σ H Q I q => h.run wh pins s σ H Q I (k _ _ _ q)⟩
theorem pa_weak {X : Cx} {e : List Expr} {t t' : TA} (h : PA X e t) (k : ∀ σ H Q, t' σ H Q → t σ H Q) : PA X e t' := ⟨fun pos pins s σ H Q I q => h.run pos pins s σ H Q I (k _ _ _ q)⟩
theorem ps_weak {X : Cx} {e : Stmt} {t t' : TS} (h : PS X e t) (k : ∀ D σ H, t' D σ H → t D σ H) : PS X e t' := ⟨fun pins s σ H D I q => h.run pins s σ H D I (k _ _ _ q)⟩
theorem pss_weak {X : Cx} {e : List Stmt} {t t' : TS} (h : PSs X e t) (k : ∀ D σ H, t' D σ H → t D σ H) : PSs X e t' := ⟨fun pins s σ H D I q => h.run pins s σ H D I (k _ _ _ q)⟩

/-! ## names, constants -/
def wVar (i : Nat) : WE := fun _ s M Q => match s[i]? with
  | some (some p) => Q p M
  | _ => False
def wC (p : PV) : WE := fun _ _ M Q => Q p M
section
variable {X : Cx} {W : WX} {pos : Pos}
theorem ee_var (i : Nat) {x : Str} (hN : X.N[i]? = some x := by rfl) (hv : Vis X.env.scope x := by first | exact Or.inl rfl | exact Or.inr (Or.inl rfl) | exact Or.inr (Or.inr rfl)) (hd : (x == ("__debug__" : Str)) = false := by decide) (hcd : (x == ("__classdict__" : Str)) = false := by decide) : EE X W (.Name x pos) (wVar i) := by
  refine ⟨fun EP s M Q Q' k h => ?_, pe_weak (pe_var hN hv hd hcd) ?_⟩
  · unfold wVar at h ⊢
    split at h
    · exact k _ _ h
    · exact h
  · rintro σ H Q ⟨EP, s, M, c, h⟩
    unfold wVar at h
    split at h
    · rename_i p e
      obtain ⟨v, a, b⟩ := c.rs.2 i p e
      exact ⟨v, a, h v H (.refl _ _) c.rh b⟩
    · exact h.elim
theorem mono_c {p : PV} : MonoE (wC p) := fun _ _ _ _ _ k h => k _ _ h
theorem ee_c {e : Expr} {p : PV} {v : V} (h : PE X e (tC v)) (r : ∀ H, Rep X.K H p v) : EE X W e (wC p) :=
  ⟨mono_c, pe_weak h fun σ H Q q => by obtain ⟨EP, s, M, c, q⟩ := q; exact q v H (.refl _ _) c.rh (r H)⟩
theorem ee_int {i j} : EE X W (.Constant (.int i) j pos) (wC (.int i)) := ee_c pe_int fun _ => by rw [Rep]
theorem ee_bl {i j} : EE X W (.Constant (.bool i) j pos) (wC (.bl i)) := ee_c pe_bl fun _ => by rw [Rep]
theorem ee_non {j} : EE X W (.Constant .none j pos) (wC .non) := ee_c pe_non fun _ => by rw [Rep]
theorem ee_str {i j} : EE X W (.Constant (.str i) j pos) (wC (.str i)) := ee_c pe_str fun _ => by rw [Rep]
theorem ee_glob {x : Str} {p : PV} {v : V} {u : Value} (hm : X.mg x = some u) (r : RelV v u) (rp : ∀ H, Rep X.K H p v) (hg : Gl X x := by rfl) (hd : (x == ("__debug__" : Str)) = false := by decide) : EE X W (.Name x pos) (wC p) := ee_c (pe_glob hg hm r hd) rp
theorem ee_blt {x : Str} {p : PV} {v : V} {u : Value} (hm : X.mg x = none) (hv : bootBuiltins x = some u) (r : RelV v u) (rp : ∀ H, Rep X.K H p v) (hg : Gl X x := by rfl) (hn : x ≠ "__name__" := by decide) (hd : (x == ("__debug__" : Str)) = false := by decide) : EE X W (.Name x pos) (wC p) := ee_c (pe_bltn hg hm hv r hn hd) rp
end

/-! ## argument lists, tuples, lists -/
def wNil : WA := fun _ _ M Q => Q [] M
def wCons (a : WE) (r : WA) : WA := fun EP s M Q => a EP s M fun x M1 => r EP s M1 fun xs M2 => Q (x :: xs) M2
def wTup (a : WA) : WE := fun EP s M Q => a EP s M fun xs M1 => xs.length ≤ sizeLine ∧ Q (.tup xs) M1
/-- an expression that makes a list which nobody else holds -/
abbrev WL := WA
def wNew (l : WL) : WE := fun EP s M Q => l EP s M fun xs M1 => ∀ D, ¬ Wr M D → ¬ Wr M1 D → Q (.ref D) (pupd M1 D (.lst xs))
def wDisp (a : WA) : WL := fun EP s M Q => a EP s M fun xs M1 => xs.length ≤ sizeLine ∧ Q xs M1
def DnL (K : Fg) (M : PH) (H : Hp) (Q : VK) : List PV → PH → Prop := fun xs M' => ∀ D vs H', Step M H M' H' → RepH K H' M' → H D = none → ¬ Wr M' D → H' D = some (.lst vs) → Reps K H' xs vs → xs.length ≤ sizeLine → Q (.ref D) H'
def upL (K : Fg) (W : WX) (w : WL) : TE := fun σ H Q => ∃ EP s M, Cur K W EP s M σ H ∧ w EP s M (DnL K M H Q)
structure EL (X : Cx) (W : WX) (e : Expr) (w : WL) : Prop where
  mono : MonoA w
  run : PE X e (upL X.K W w)
section
variable {X : Cx} {W : WX} {pos : Pos} {e : Expr} {es : List Expr} {w : WE} {t : WA}
theorem ea_nil : EA X W [] wNil := ⟨fun _ _ _ _ _ k h => k _ _ h, pa_weak pa_nil fun σ H Q ⟨EP, s, M, c, q⟩ => q [] H (.refl _ _) c.rh .nil⟩
theorem ea_cons (ha : EE X W e w) (hr : EA X W es t) (hs : starEach (e :: es) X.env = (false, eval e X.env) :: starEach es X.env := by rfl) : EA X W (e :: es) (wCons w t) := by
  refine ⟨fun EP s M Q Q' k h => ha.mono _ _ _ _ _ (fun p M1 h1 => hr.mono _ _ _ _ _ (fun ps M2 h2 => k _ _ h2) h1) h, pa_weak (pa_cons ha.run hr.run hs) ?_⟩
  rintro σ H Q ⟨EP, s, M, c, h⟩
  refine c.use ha.mono h fun p M1 v H1 h1 S1 c1 r1 => ?_
  refine c1.useA hr.mono h1 fun ps M2 vs H2 h2 S2 c2 r2 => ?_
  exact h2 (v :: vs) H2 (S1.trans S2) c2.rh (.cons (r1.tk (S2.tk c1.rh)) r2)
theorem ee_tup {x1} (h : EA X W es t) : EE X W (.Tuple es x1 pos) (wTup t) := by
  refine ⟨fun EP s M Q Q' k q => h.mono _ _ _ _ _ (fun ps M1 h1 => ⟨h1.1, k _ _ h1.2⟩) q, pe_weak (pe_tup h.run) ?_⟩
  rintro σ H Q ⟨EP, s, M, c, q⟩
  refine c.useA h.mono q fun ps M1 vs H1 h1 S1 c1 r1 => ⟨by rw [← r1.length]; exact h1.1, fun p hp => ?_⟩
  have t1 : TKeep H1 (upd H1 p (.tup vs)) := tk_new hp
  refine h1.2 (.ref p) _ (S1.trans (Step.hidden hp)) (c1.rh.upd_free hp) ?_
  rw [Rep]
  exact ⟨p, vs, rfl, SqT.of upd_same, r1.tk t1⟩
theorem el_disp (h : EA X W es t) : EL X W (.List es pos) (wDisp t) := by
  refine ⟨fun EP s M Q Q' k q => h.mono _ _ _ _ _ (fun ps M1 h1 => ⟨h1.1, k _ _ h1.2⟩) q, pe_weak (pe_lst h.run) ?_⟩
  rintro σ H Q ⟨EP, s, M, c, q⟩
  refine c.useA h.mono q fun ps M1 vs H1 h1 S1 c1 r1 => ⟨by rw [← r1.length]; exact h1.1, fun p hp => ?_⟩
  have t1 : TKeep H1 (upd H1 p (.lst vs)) := tk_new hp
  exact h1.2 p vs _ (S1.trans (Step.hidden hp)) (c1.rh.upd_free hp) (S1.free hp) (c1.rh.free hp) upd_same (r1.tk t1) h1.1
end
end PL
set_option autoImplicit true
namespace PL
open PySem PySem.Spec L2
open PyProof.Rows hiding St

section
variable {K : Fg} {W : WX} {EP : PX} {s : PSt} {M M1 : PH} {σ : St} {H H1 : Hp}
theorem DnL.on {Q : VK} {xs : List PV} {M' : PH} (S : Step M H M1 H1) (h : DnL K M H Q xs M') : DnL K M1 H1 Q xs M' := fun D vs H' S' r n w e q z => h D vs H' (S.trans S') r (S.free n) w e q z
theorem Cur.useL {w : WL} (c : Cur K W EP s M σ H) (hm : MonoA w) {R : List PV → PH → Prop} (h : w EP s M R) {Q : VK}
    (k : ∀ xs M1 D vs H1, R xs M1 → Step M H M1 H1 → Cur K W EP s M1 σ H1 → H D = none → ¬ Wr M1 D → H1 D = some (.lst vs) → Reps K H1 xs vs → xs.length ≤ sizeLine → Q (.ref D) H1) : upL K W w σ H Q :=
  ⟨EP, s, M, c, hm _ _ _ _ _ (fun xs M1 r D vs H1 S rh n w e q z => k xs M1 D vs H1 r S (c.step S rh) n w e q z) h⟩
end
/-! ## operators -/
abbrev PR2 := PV → PV → PH → QE → Prop
def Mono2 (r : PR2) : Prop := ∀ x y M Q Q', (∀ p M', Q p M' → Q' p M') → r x y M Q → r x y M Q'
def Lift2 (K : Fg) (r : PR2) (r0 : R2) : Prop := ∀ {M : PH} {H : Hp} {x y : PV} {v u : V} {Q : VK}, RepH K H M → Rep K H x v → Rep K H y u → r x y M (Dn K M H Q) → r0 v u H Q
def wOp (r : PR2) (a b : WE) : WE := fun EP s M Q => a EP s M fun x M1 => b EP s M1 fun y M2 => r x y M2 Q
theorem mono_op {r : PR2} {a b : WE} (hr : Mono2 r) (ha : MonoE a) (hb : MonoE b) : MonoE (wOp r a b) := fun EP s M Q Q' k h =>
  ha _ _ _ _ _ (fun x M1 h1 => hb _ _ _ _ _ (fun y M2 h2 => hr _ _ _ _ _ k h2) h1) h
theorem up_op {X : Cx} {W : WX} {r : PR2} {r0 : R2} {a b : WE} (hr : Mono2 r) (hl : Lift2 X.K r r0) (ha : MonoE a) (hb : MonoE b) : ∀ σ H Q, up X.K W (wOp r a b) σ H Q → tOp r0 (up X.K W a) (up X.K W b) σ H Q := by
  rintro σ H Q ⟨EP, s, M, c, h⟩
  refine c.use ha h fun x M1 v H1 h1 S1 c1 rx => ?_
  refine c1.use hb h1 fun y M2 u H2 h2 S2 c2 ry => ?_
  exact hl c2.rh (rx.tk (S2.tk c1.rh)) ry (hr _ _ _ _ _ (fun p M' q => q.on (S1.trans S2)) h2)
section
variable {X : Cx} {W : WX} {a b : Expr} {wa wb : WE} {pos : Pos} {r : PR2} {r0 : R2}
theorem ee_op {op : Operator} (ho : OpR X (binaryOp op) r0) (hl : Lift2 X.K r r0) (hr : Mono2 r) (ha : EE X W a wa) (hb : EE X W b wb) : EE X W (.BinOp a op b pos) (wOp r wa wb) :=
  ⟨mono_op hr ha.mono hb.mono, pe_weak (pe_op ho ha.run hb.run) (up_op hr hl ha.mono hb.mono)⟩
theorem ee_cmp {op : CmpOp} (ho : OpR X (compareOp op) r0) (hl : Lift2 X.K r r0) (hr : Mono2 r) (ha : EE X W a wa) (hb : EE X W b wb) (hm : behindInMarks op b = false) : EE X W (.Compare a [op] [b] pos) (wOp r wa wb) :=
  ⟨mono_op hr ha.mono hb.mono, pe_weak (pe_cmpR ho ha.run hb.run hm) (up_op hr hl ha.mono hb.mono)⟩
/-- a value as a test -/
def wTest (w : WE) : WT := fun EP s M Q => w EP s M fun p M1 => match p with
  | .bl k => Q k M1
  | _ => False
theorem mono_test {w : WE} (h : MonoE w) : MonoT (wTest w) := fun EP s M Q Q' k q => h _ _ _ _ _ (fun p M1 z => by
  cases p with
  | bl b => exact k _ _ z
  | _ => exact z) q
theorem up_test {K : Fg} {W : WX} {w : WE} (h : MonoE w) : ∀ σ H Q, upT K W (wTest w) σ H Q → up K W w σ H fun x H' => ∃ k, x = .bl k ∧ Q k H' := by
  rintro σ H Q ⟨EP, s, M, c, q⟩
  refine c.use h q fun p M1 v H1 h1 S1 c1 r1 => ?_
  cases p with
  | bl b => rw [Rep] at r1; exact ⟨b, r1, h1 H1 S1 c1.rh⟩
  | _ => exact h1.elim
theorem et_cmp {op : CmpOp} (ho : OpR X (compareOp op) r0) (hl : Lift2 X.K r r0) (hr : Mono2 r) (ha : EE X W a wa) (hb : EE X W b wb) (hm : behindInMarks op b = false) : ET X W (.Compare a [op] [b] pos) (wTest (wOp r wa wb)) := by
  have hm2 := mono_op hr ha.mono hb.mono
  refine ⟨mono_test hm2, pt_weak (pt_cmpR ho ha.run hb.run hm) fun σ H Q h => ?_⟩
  exact up_op (W := W) hr hl ha.mono hb.mono σ H _ (up_test hm2 σ H Q h)
/-- a op1 b op2 c -/
def wChain (r r' : PR2) (a b c : WE) : WE := fun EP s M Q => a EP s M fun x M1 => b EP s M1 fun y M2 => r x y M2 fun z M3 => match z with
  | .bl k => if k = true then c EP s M3 fun u M4 => r' y u M4 Q else Q (.bl false) M3
  | _ => False
variable {c : Expr} {wc : WE} {r' : PR2} {r0' : R2}
theorem mono_chain (hr : Mono2 r) (hr' : Mono2 r') (ha : MonoE wa) (hb : MonoE wb) (hc : MonoE wc) : MonoE (wChain r r' wa wb wc) := fun EP s M Q Q' k h =>
  ha _ _ _ _ _ (fun x M1 h1 => hb _ _ _ _ _ (fun y M2 h2 => hr _ _ _ _ _ (fun z M3 h3 => by
    cases z with
    | bl b =>
      cases b with
      | true => exact hc _ _ _ _ _ (fun u M4 h4 => hr' _ _ _ _ _ k h4) h3
      | false => exact k _ _ h3
    | _ => exact h3) h2) h1) h
theorem up_chain (hr : Mono2 r) (hl : Lift2 X.K r r0) (hr' : Mono2 r') (hl' : Lift2 X.K r' r0') (ha : MonoE wa) (hb : MonoE wb) (hc : MonoE wc) :
    ∀ σ H Q, up X.K W (wChain r r' wa wb wc) σ H Q → tChain r0 r0' (up X.K W wa) (up X.K W wb) (up X.K W wc) σ H Q := by
  rintro σ H Q ⟨EP, s, M, cu, h⟩
  refine cu.use ha h fun x M1 v H1 h1 S1 c1 rx => ?_
  refine c1.use hb h1 fun y M2 u H2 h2 S2 c2 ry => ?_
  refine hl c2.rh (rx.tk (S2.tk c1.rh)) ry (hr _ _ _ _ _ (fun z M3 h3 => ?_) h2)
  intro zv H3 S3 rh3 rz
  cases z with
  | bl b =>
    rw [Rep] at rz
    refine ⟨b, rz, ?_⟩
    have c3 := c2.step S3 rh3
    cases b with
    | true =>
      refine c3.use hc h3 fun z2 M4 v4 H4 h4 S4 c4 r4 => ?_
      exact hl' c4.rh ((ry.tk (S3.tk c2.rh)).tk (S4.tk c3.rh)) r4 (hr' _ _ _ _ _ (fun p M' q => q.on (((S1.trans S2).trans S3).trans S4)) h4)
    | false => exact h3 _ _ ((S1.trans S2).trans S3) rh3 (by rw [Rep])
  | _ => exact h3.elim
theorem ee_chain {op op' : CmpOp} (ho : OpR X (compareOp op) r0) (hl : Lift2 X.K r r0) (hr : Mono2 r) (ho' : OpR X (compareOp op') r0') (hl' : Lift2 X.K r' r0') (hr' : Mono2 r') (ha : EE X W a wa) (hb : EE X W b wb) (hc : EE X W c wc)
    (hm : lastMarks [op, op'] [b, c] = false := by with_unfolding_all rfl) : EE X W (.Compare a [op, op'] [b, c] pos) (wChain r r' wa wb wc) :=
  ⟨mono_chain hr hr' ha.mono hb.mono hc.mono, pe_weak (pe_chain ho ho' ha.run hb.run hc.run hm) (up_chain hr hl hr' hl' ha.mono hb.mono hc.mono)⟩
theorem et_chain {op op' : CmpOp} (ho : OpR X (compareOp op) r0) (hl : Lift2 X.K r r0) (hr : Mono2 r) (ho' : OpR X (compareOp op') r0') (hl' : Lift2 X.K r' r0') (hr' : Mono2 r') (ha : EE X W a wa) (hb : EE X W b wb) (hc : EE X W c wc)
    (hm : lastMarks [op, op'] [b, c] = false := by with_unfolding_all rfl) : ET X W (.Compare a [op, op'] [b, c] pos) (wTest (wChain r r' wa wb wc)) := by
  have hm2 := mono_chain hr hr' ha.mono hb.mono hc.mono
  refine ⟨mono_test hm2, pt_weak (pt_chain ho ho' ha.run hb.run hc.run hm) fun σ H Q h => ?_⟩
  exact up_chain (W := W) hr hl hr' hl' ha.mono hb.mono hc.mono σ H _ (up_test hm2 σ H Q h)
end
/-! ## truth -/
/-- a value's truth -/
def truV (p : PV) (M : PH) (Q : Bool → PH → Prop) : Prop := match p with
  | .non => Q false M
  | .bl b => Q b M
  | .int i => Q (i != 0) M
  | .str y => y.length ≤ sizeLine ∧ Q ((y.length : Int) != 0) M
  | .tup xs => Q (!xs.isEmpty) M
  | .ref a => match M a with
    | some (.lst xs) => Q (!xs.isEmpty) M
    | some (.dK kvs) => Q (!kvs.isEmpty) M
    | _ => False
  | _ => False
def wTru (w : WE) : WT := fun EP s M Q => w EP s M fun p M1 => truV p M1 Q
theorem truV_mono {p : PV} {M : PH} {Q Q' : Bool → PH → Prop} (k : ∀ p M', Q p M' → Q' p M') (h : truV p M Q) : truV p M Q' := by
  unfold truV at h ⊢
  split at h
  all_goals first | exact k _ _ h | exact ⟨h.1, k _ _ h.2⟩ | exact h | skip
  split at h
  all_goals first | exact k _ _ h | exact h
theorem truV_lift {K : Fg} {M : PH} {H : Hp} {p : PV} {v : V} {Q : Bool → Hp → Prop} (rh : RepH K H M) (r : Rep K H p v) (h : truV p M fun b M' => M' = M → Q b H) : ∃ k, TruV K v H k ∧ Q k H := by
  cases p with
  | non => rw [Rep] at r; subst r; exact ⟨_, rfl, h rfl⟩
  | bl b => rw [Rep] at r; subst r; exact ⟨_, rfl, h rfl⟩
  | int i => rw [Rep] at r; subst r; exact ⟨_, rfl, h rfl⟩
  | str y => rw [Rep] at r; subst r; exact ⟨_, ⟨h.1, rfl⟩, h.2 rfl⟩
  | ty n => exact h.elim
  | tup xs =>
    rw [Rep] at r
    obtain ⟨a, vs, rfl, hs, rs⟩ := r
    exact ⟨_, .inr (.inl ⟨vs, hs, rfl⟩), by rw [← rs.isEmpty]; exact h rfl⟩
  | ref a =>
    rw [Rep] at r; subst r
    unfold truV at h
    dsimp only at h
    split at h
    · rename_i xs e
      obtain ⟨vs, hv, rs⟩ := rh a _ e
      exact ⟨_, .inl ⟨vs, SqL.of hv, rfl⟩, by rw [← rs.isEmpty]; exact h rfl⟩
    · rename_i kvs e
      obtain ⟨vs, hv, rs⟩ := rh a _ e
      refine ⟨_, .inr (.inr ⟨vs, hv, rfl⟩), ?_⟩
      have : vs.isEmpty = kvs.isEmpty := by
        have e := congrArg List.length rs.1
        simp only [List.length_map] at e
        cases vs <;> cases kvs <;> simp_all
      rw [this]; exact h rfl
    · exact h.elim
section
variable {X : Cx} {W : WX} {a b : Expr} {wa wb : WE} {ta tb : WT} {pos : Pos} {rest : List Expr}
theorem mono_tru (h : MonoE wa) : MonoT (wTru wa) := fun EP s M Q Q' k q => h _ _ _ _ _ (fun p M1 z => truV_mono k z) q
theorem truV_at {p : PV} {M : PH} {Q : Bool → PH → Prop} (h : truV p M Q) : truV p M fun b M' => M' = M ∧ Q b M' := by
  unfold truV at h ⊢
  split at h
  all_goals first | exact ⟨rfl, h⟩ | exact ⟨h.1, rfl, h.2⟩ | exact h | skip
  split at h
  all_goals first | exact ⟨rfl, h⟩ | exact h
/-- an expression of any kind as a test -/
theorem et_tru (ha : EE X W a wa) (he : ∀ whole, isTrue a X.env whole = (do let v ← whole; standAt a.pos; holding [v] (truthy v)) := by intro _; rfl) : ET X W a (wTru wa) := by
  refine ⟨mono_tru ha.mono, pt_weak (pt_truth ha.run he) ?_⟩
  rintro σ H Q ⟨EP, s, M, c, h⟩
  refine c.use ha.mono h fun p M1 v H1 h1 S1 c1 r1 => ?_
  exact truV_lift c1.rh r1 (truV_mono (fun b M' q e => by obtain ⟨e1, q⟩ := q; subst e1; exact q H1 S1 c1.rh) (truV_at h1))
/-- and, or, not as tests -/
def wAndT (t u : WT) : WT := fun EP s M Q => t EP s M fun c M1 => if c = true then u EP s M1 Q else Q false M1
def wOrT (t u : WT) : WT := fun EP s M Q => t EP s M fun c M1 => if c = true then Q true M1 else u EP s M1 Q
def wNotT (t : WT) : WT := fun EP s M Q => t EP s M fun c M1 => Q (!c) M1
theorem ew_and1 (ha : ET X W a ta) : EW X W (.BoolOp .And [a] pos) ta := ⟨ha.mono, pw_and1 ha.run⟩
theorem ew_or1 (ha : ET X W a ta) : EW X W (.BoolOp .Or [a] pos) ta := ⟨ha.mono, pw_or1 ha.run⟩
theorem ew_and (ha : ET X W a ta) (hb : EW X W (.BoolOp .And (b :: rest) pos) tb) : EW X W (.BoolOp .And (a :: b :: rest) pos) (wAndT ta tb) := by
  refine ⟨fun EP s M Q Q' k h => ha.mono _ _ _ _ _ (fun c M1 h1 => ?_) h, pw_weak (pw_and ha.run hb.run) ?_⟩
  · cases c with
    | true => exact hb.mono _ _ _ _ _ k h1
    | false => exact k _ _ h1
  · rintro σ H Q ⟨EP, s, M, c, h⟩
    refine c.useT ha.mono h fun d M1 H1 h1 S1 c1 => ?_
    cases d with
    | true => exact c1.useT hb.mono h1 fun e M2 H2 h2 S2 c2 => h2 H2 (S1.trans S2) c2.rh
    | false => exact h1 H1 S1 c1.rh
theorem ew_or (ha : ET X W a ta) (hb : EW X W (.BoolOp .Or (b :: rest) pos) tb) : EW X W (.BoolOp .Or (a :: b :: rest) pos) (wOrT ta tb) := by
  refine ⟨fun EP s M Q Q' k h => ha.mono _ _ _ _ _ (fun c M1 h1 => ?_) h, pw_weak (pw_or ha.run hb.run) ?_⟩
  · cases c with
    | false => exact hb.mono _ _ _ _ _ k h1
    | true => exact k _ _ h1
  · rintro σ H Q ⟨EP, s, M, c, h⟩
    refine c.useT ha.mono h fun d M1 H1 h1 S1 c1 => ?_
    cases d with
    | false => exact c1.useT hb.mono h1 fun e M2 H2 h2 S2 c2 => h2 H2 (S1.trans S2) c2.rh
    | true => exact h1 H1 S1 c1.rh
theorem et_w (h : EW X W a ta) : ET X W a ta := ⟨h.mono, h.run.pt⟩
theorem et_not (ha : ET X W a ta) : ET X W (.UnaryOp .Not a pos) (wNotT ta) := by
  refine ⟨fun EP s M Q Q' k h => ha.mono _ _ _ _ _ (fun c M1 h1 => k _ _ h1) h, pt_weak (pt_not ha.run) ?_⟩
  rintro σ H Q ⟨EP, s, M, c, h⟩
  exact c.useT ha.mono h fun d M1 H1 h1 S1 c1 => h1 H1 S1 c1.rh
/-- .. as values -/
def wAndV (t u : WE) : WE := fun EP s M Q => t EP s M fun x M1 => match x with
  | .bl c => if c = true then u EP s M1 Q else Q (.bl false) M1
  | _ => False
def wOrV (t u : WE) : WE := fun EP s M Q => t EP s M fun x M1 => match x with
  | .bl c => if c = true then Q (.bl true) M1 else u EP s M1 Q
  | _ => False
def wNotV (t : WE) : WE := fun EP s M Q => t EP s M fun x M1 => match x with
  | .bl c => Q (.bl (!c)) M1
  | _ => False
theorem ee_one {op} (ha : EE X W a wa) : EE X W (.BoolOp op [a] pos) wa := ⟨ha.mono, pe_one ha.run⟩
theorem ee_and (ha : EE X W a wa) (hb : EE X W (.BoolOp .And (b :: rest) pos) wb) : EE X W (.BoolOp .And (a :: b :: rest) pos) (wAndV wa wb) := by
  refine ⟨fun EP s M Q Q' k h => ha.mono _ _ _ _ _ (fun x M1 h1 => ?_) h, pe_weak (pe_and ha.run hb.run) ?_⟩
  · cases x with
    | bl c =>
      cases c with
      | true => exact hb.mono _ _ _ _ _ k h1
      | false => exact k _ _ h1
    | _ => exact h1
  · rintro σ H Q ⟨EP, s, M, c, h⟩
    refine c.use ha.mono h fun x M1 v H1 h1 S1 c1 r1 => ?_
    cases x with
    | bl d =>
      rw [Rep] at r1
      refine ⟨d, r1, ?_⟩
      cases d with
      | true => exact c1.use hb.mono h1 fun p M2 u H2 h2 S2 c2 r2 => h2 u H2 (S1.trans S2) c2.rh r2
      | false => exact h1 _ H1 S1 c1.rh (by rw [Rep])
    | _ => exact h1.elim
theorem ee_or (ha : EE X W a wa) (hb : EE X W (.BoolOp .Or (b :: rest) pos) wb) : EE X W (.BoolOp .Or (a :: b :: rest) pos) (wOrV wa wb) := by
  refine ⟨fun EP s M Q Q' k h => ha.mono _ _ _ _ _ (fun x M1 h1 => ?_) h, pe_weak (pe_or ha.run hb.run) ?_⟩
  · cases x with
    | bl c =>
      cases c with
      | false => exact hb.mono _ _ _ _ _ k h1
      | true => exact k _ _ h1
    | _ => exact h1
  · rintro σ H Q ⟨EP, s, M, c, h⟩
    refine c.use ha.mono h fun x M1 v H1 h1 S1 c1 r1 => ?_
    cases x with
    | bl d =>
      rw [Rep] at r1
      refine ⟨d, r1, ?_⟩
      cases d with
      | false => exact c1.use hb.mono h1 fun p M2 u H2 h2 S2 c2 r2 => h2 u H2 (S1.trans S2) c2.rh r2
      | true => exact h1 _ H1 S1 c1.rh (by rw [Rep])
    | _ => exact h1.elim
theorem ee_not (ha : EE X W a wa) : EE X W (.UnaryOp .Not a pos) (wNotV wa) := by
  refine ⟨fun EP s M Q Q' k h => ha.mono _ _ _ _ _ (fun x M1 h1 => ?_) h, pe_weak (pe_not ha.run) ?_⟩
  · cases x with
    | bl c => exact k _ _ h1
    | _ => exact h1
  · rintro σ H Q ⟨EP, s, M, c, h⟩
    refine c.use ha.mono h fun x M1 v H1 h1 S1 c1 r1 => ?_
    cases x with
    | bl d => rw [Rep] at r1; exact ⟨d, r1, h1 _ H1 S1 c1.rh (by rw [Rep])⟩
    | _ => exact h1.elim
/-- a if t else b -/
def wIfE (t : WT) (a b : WE) : WE := fun EP s M Q => t EP s M fun c M1 => if c = true then a EP s M1 Q else b EP s M1 Q
theorem ee_if {c : Expr} {tc : WT} (hc : ET X W c tc) (ha : EE X W a wa) (hb : EE X W b wb) : EE X W (.IfExp c a b pos) (wIfE tc wa wb) := by
  refine ⟨fun EP s M Q Q' k h => hc.mono _ _ _ _ _ (fun d M1 h1 => ?_) h, pe_weak (pe_ifExp hc.run ha.run hb.run) ?_⟩
  · cases d with
    | true => exact ha.mono _ _ _ _ _ k h1
    | false => exact hb.mono _ _ _ _ _ k h1
  · rintro σ H Q ⟨EP, s, M, c, h⟩
    refine c.useT hc.mono h fun d M1 H1 h1 S1 c1 => ?_
    cases d with
    | true => exact c1.use ha.mono h1 fun p M2 u H2 h2 S2 c2 r2 => h2 u H2 (S1.trans S2) c2.rh r2
    | false => exact c1.use hb.mono h1 fun p M2 u H2 h2 S2 c2 r2 => h2 u H2 (S1.trans S2) c2.rh r2
end
/-! ## a new list as a value -/
theorem ee_new {X : Cx} {W : WX} {e : Expr} {l : WL} (h : EL X W e l) : EE X W e (wNew l) := by
  refine ⟨fun EP s M Q Q' k q => h.mono _ _ _ _ _ (fun xs M1 z D w w1 => k _ _ (z D w w1)) q, pe_weak h.run ?_⟩
  rintro σ H Q ⟨EP, s, M, c, q⟩
  refine c.useL h.mono q fun xs M1 D vs H1 h1 S1 c1 n w e r z => ?_
  have e1 : upd H1 D (.lst vs) = H1 := by
    funext b
    by_cases hb : b = D
    · subst hb; rw [upd_same, e]
    · rw [upd_ne hb]
  have hn : (∀ xs, H1 D ≠ some (.tup xs)) ∧ ∀ o xs, H1 D ≠ some (.frz o xs) := by
    rw [e]; exact ⟨fun _ z => (by cases z), fun _ _ z => (by cases z)⟩
  have rh : RepH X.K H1 (pupd M1 D (.lst xs)) := by
    have := c1.rh.upd_both (o := .lst vs) (p := .lst xs) hn ⟨vs, upd_same, by rw [e1]; exact r⟩
    rwa [e1] at this
  refine h1 D (c.rh.free n) w (.ref D) H1 ⟨S1.keep, fun b wb nb => ?_, S1.there⟩ rh (by rw [Rep])
  rcases wr_pupd wb with e2 | e2
  · rw [e2]; exact n
  · exact S1.fresh b e2 nb
end PL
set_option autoImplicit true
namespace PL
open PySem PySem.Spec L2
open PyProof.Rows hiding St

/-! ## statements -/
theorem MonoS.app {w : WS} (m : MonoS w) {EP : PX} {D D' : PEnds} {s : PSt} {M : PH} (h : w EP D s M) (k : D.Le D') : w EP D' s M := m _ _ _ _ _ k h
def wNext : WS := fun _ D s M => D.nx s M
def wSeq (t u : WS) : WS := fun EP D s M => t EP { D with nx := u EP D } s M
def wDrop (e : WE) : WS := fun EP D s M => e EP s M fun _ M1 => D.nx s M1
def wRet (e : WE) : WS := fun EP D s M => e EP s M D.rt
def wRetN : WS := fun _ D _ M => D.rt .non M
def wBreak : WS := fun _ D s M => D.bk s M
def wCont : WS := fun _ D s M => D.ct s M
def wIf (c : WT) (t u : WS) : WS := fun EP D s M => c EP s M fun b M1 => if b = true then t EP D s M1 else u EP D s M1
def wSet (i : Nat) (e : WE) : WS := fun EP D s M => e EP s M fun p M1 => D.nx (s.set i (some p)) M1
section
variable {K : Fg} {W : WX} {EP : PX} {s : PSt} {M M1 : PH} {σ : St} {H H1 : Hp} {D : Ends}
theorem PEnds.Le.trans {A B C : PEnds} (a : A.Le B) (b : B.Le C) : A.Le C := ⟨fun _ _ h => b.nx _ _ (a.nx _ _ h), fun _ _ h => b.rt _ _ (a.rt _ _ h), fun _ _ h => b.bk _ _ (a.bk _ _ h), fun _ _ h => b.ct _ _ (a.ct _ _ h)⟩
/-- where the hand layer goes on -/
theorem Cur.at (c : Cur K W EP s M σ H) {s' : PSt} {σ' : St} (r : RepS K H s' σ') : Cur K W EP s' M σ' H := ⟨r, c.rh, c.tk⟩
end
section
variable {X : Cx} {W : WX} {st : Stmt} {rest : List Stmt} {t u : WS} {e : Expr} {we : WE} {pos : Pos}
theorem eb_nil : EB X W [] wNext := ⟨fun _ _ _ _ _ k h => k.nx _ _ h, pss_weak pss_nil fun D σ H h => by
  obtain ⟨EP, s, M, c, h⟩ := h
  exact h σ H (.refl _ _) c.rh c.rs⟩
theorem eb_cons (h1 : ES X W st t) (h2 : EB X W rest u) : EB X W (st :: rest) (wSeq t u) := by
  refine ⟨fun EP D D' s M k h => ?_, pss_weak (pss_cons h1.run h2.run) ?_⟩
  · exact h1.mono.app (w := t) (show t EP { D with nx := u EP D } s M from h) ⟨fun s' M' z => h2.mono.app z k, k.rt, k.bk, k.ct⟩
  · rintro D σ H ⟨EP, s, M, c, h⟩
    refine c.useS h1.mono h ⟨fun s' M' z σ' H' S rh rs => ?_, fun _ _ z => z, fun _ _ z => z, fun _ _ z => z⟩
    exact ⟨EP, s', M', (c.step S rh).at rs, h2.mono _ _ _ _ _ (dn_on S) z⟩
theorem eb_one (h1 : ES X W st t) : EB X W [st] t := ⟨h1.mono, pss_one h1.run⟩
theorem es_pass : ES X W (.Pass pos) wNext := ⟨fun _ _ _ _ _ k h => k.nx _ _ h, ps_weak ps_pass fun D σ H h => by
  obtain ⟨EP, s, M, c, h⟩ := h
  exact h σ H (.refl _ _) c.rh c.rs⟩
theorem es_break : ES X W (.Break pos) wBreak := ⟨fun _ _ _ _ _ k h => k.bk _ _ h, ps_weak ps_break fun D σ H h => by
  obtain ⟨EP, s, M, c, h⟩ := h
  exact h σ H (.refl _ _) c.rh c.rs⟩
theorem es_continue : ES X W (.Continue pos) wCont := ⟨fun _ _ _ _ _ k h => k.ct _ _ h, ps_weak ps_continue fun D σ H h => by
  obtain ⟨EP, s, M, c, h⟩ := h
  exact h σ H (.refl _ _) c.rh c.rs⟩
theorem es_doc {x j pos'} : ES X W (.Expr (.Constant (.str x) j pos) pos') wNext := ⟨fun _ _ _ _ _ k h => k.nx _ _ h, ps_weak ps_doc fun D σ H h => by
  obtain ⟨EP, s, M, c, h⟩ := h
  exact h σ H (.refl _ _) c.rh c.rs⟩
theorem es_expr (he : EE X W e we) (hs : swapsWith e none pos.line X.env = pure false := by rfl) : ES X W (.Expr e pos) (wDrop we) := by
  refine ⟨fun EP D D' s M k h => he.mono _ _ _ _ _ (fun _ _ z => k.nx _ _ z) h, ps_weak (ps_expr he.run hs) ?_⟩
  rintro D σ H ⟨EP, s, M, c, h⟩
  exact c.use he.mono h fun p M1 v H1 h1 S c1 r => h1 σ H1 S c1.rh c1.rs
theorem es_ret (he : EE X W e we) : ES X W (.Return (some e) pos) (wRet we) := by
  refine ⟨fun EP D D' s M k h => he.mono _ _ _ _ _ (fun _ _ z => k.rt _ _ z) h, ps_weak (ps_ret he.run) ?_⟩
  rintro D σ H ⟨EP, s, M, c, h⟩
  exact c.use he.mono h fun p M1 v H1 h1 S c1 r => h1 v H1 S c1.rh r
theorem es_retN : ES X W (.Return none pos) wRetN := ⟨fun _ _ _ _ _ k h => k.rt _ _ h, ps_weak ps_retN fun D σ H h => by
  obtain ⟨EP, s, M, c, h⟩ := h
  exact h .non H (.refl _ _) c.rh (by rw [Rep])⟩
theorem es_if {c : Expr} {a b : List Stmt} {tc : WT} (hc : ET X W c tc) (ha : EB X W a t) (hb : EB X W b u) : ES X W (.If c a b pos) (wIf tc t u) := by
  refine ⟨fun EP D D' s M k h => hc.mono _ _ _ _ _ (fun d M1 z => ?_) h, ps_weak (ps_if hc.run ha.run hb.run) ?_⟩
  · cases d with
    | true => exact ha.mono _ _ _ _ _ k z
    | false => exact hb.mono _ _ _ _ _ k z
  · rintro D σ H ⟨EP, s, M, c, h⟩
    refine c.useT hc.mono h fun d M1 H1 h1 S c1 => ?_
    cases d with
    | true => exact c1.useS ha.mono h1 (dn_on S)
    | false => exact c1.useS hb.mono h1 (dn_on S)
theorem es_set {i : Nat} {x : Str} {pos' : Pos} (hN : X.N.Nodup) (he : EE X W e we) (hi : X.N[i]? = some x := by rfl) (hx : Loc X.env.scope x := by first | exact .inl rfl | exact .inr rfl) (hs : swapsWith e (some (.Name x pos')) pos.line X.env = pure false := by rfl) (hf : X.fn x = true ∨ X.env.scope.names.lookup x = some .local := by first | exact .inl rfl | exact .inr rfl | assumption) :
    ES X W (.Assign [.Name x pos'] e pos) (wSet i we) := by
  refine ⟨fun EP D D' s M k h => he.mono _ _ _ _ _ (fun _ _ z => k.nx _ _ z) h, ps_weak (ps_set hN hi hx he.run hs hf) ?_⟩
  rintro D σ H ⟨EP, s, M, c, h⟩
  exact c.use he.mono h fun p M1 v H1 h1 S c1 r => h1 _ H1 S c1.rh (c1.rs.set r i)
end
/-! ## targets -/
abbrev WG := PV → PSt → PH → (PSt → PH → Prop) → Prop
def MonoG (g : WG) : Prop := ∀ p s M Q Q', (∀ s' M', Q s' M' → Q' s' M') → g p s M Q → g p s M Q'
theorem MonoG.app {g : WG} (m : MonoG g) {p : PV} {s : PSt} {M : PH} {Q Q' : PSt → PH → Prop} (h : g p s M Q) (k : ∀ s' M', Q s' M' → Q' s' M') : g p s M Q' := m _ _ _ _ _ k h
def gNm (i : Nat) : WG := fun p s M Q => Q (s.set i (some p)) M
def gAll : List WG → List PV → PSt → PH → (PSt → PH → Prop) → Prop
  | [], [], s, M, Q => Q s M
  | g :: gs, x :: xs, s, M, Q => g x s M fun s' M' => gAll gs xs s' M' Q
  | _, _, _, _, _ => False
def gTp (gs : List WG) : WG := fun p s M Q => match p with
  | .tup xs => gAll gs xs s M Q
  | _ => False
def DnG (K : Fg) (M : PH) (H : Hp) (Q : St → Hp → Prop) : PSt → PH → Prop := fun s' M' => ∀ σ' H', Step M H M' H' → RepH K H' M' → RepS K H' s' σ' → Q σ' H'
def upG (K : Fg) (g : WG) : TG := fun v σ H Q => ∃ p s M, RepS K H s σ ∧ RepH K H M ∧ Rep K H p v ∧ g p s M (DnG K M H Q)
def upGs (K : Fg) (gs : List WG) : TGs := fun vs σ H Q => ∃ ps s M, RepS K H s σ ∧ RepH K H M ∧ Reps K H ps vs ∧ gAll gs ps s M (DnG K M H Q)
structure EG (X : Cx) (tg : Expr) (g : WG) : Prop where
  mono : MonoG g
  run : PG X tg (upG X.K g)
structure EGs (X : Cx) (ts : List Expr) (gs : List WG) : Prop where
  mono : ∀ ps s M Q Q', (∀ s' M', Q s' M' → Q' s' M') → gAll gs ps s M Q → gAll gs ps s M Q'
  run : PGs X ts (upGs X.K gs)
theorem pg_weak {X : Cx} {e : Expr} {t t' : TG} (h : PG X e t) (k : ∀ v σ H Q, t' v σ H Q → t v σ H Q) : PG X e t' := ⟨fun pins s σ H v u Q I r q => h.run pins s σ H v u Q I r (k _ _ _ _ q)⟩
theorem pgs_weak {X : Cx} {e : List Expr} {t t' : TGs} (h : PGs X e t) (k : ∀ v σ H Q, t' v σ H Q → t v σ H Q) : PGs X e t' := ⟨fun pins s σ H v u Q I r q => h.run pins s σ H v u Q I r (k _ _ _ _ q)⟩
section
variable {X : Cx} {pos : Pos}
theorem eg_name (i : Nat) {x : Str} (hN : X.N.Nodup) (hi : X.N[i]? = some x := by rfl) (hx : Loc X.env.scope x := by first | exact .inl rfl | exact .inr rfl) (hf : X.fn x = true ∨ X.env.scope.names.lookup x = some .local := by first | exact .inl rfl | exact .inr rfl | assumption) : EG X (.Name x pos) (gNm i) := by
  refine ⟨fun p s M Q Q' k h => k _ _ h, pg_weak (pg_name hN hi hx hf) ?_⟩
  rintro v σ H Q ⟨p, s, M, rs, rh, r, h⟩
  exact h _ H (.refl _ _) rh (rs.set r i)
theorem egs_nil : EGs X [] [] := by
  refine ⟨fun ps s M Q Q' k h => ?_, pgs_weak pgs_nil ?_⟩
  · cases ps with
    | nil => exact k _ _ h
    | cons x r => exact h
  · rintro v σ H Q ⟨p, s, M, rs, rh, r, h⟩
    cases p with
    | nil => rw [Reps] at r; exact ⟨r, h _ H (.refl _ _) rh rs⟩
    | cons x t => exact h.elim
theorem egs_cons {e : Expr} {es : List Expr} {g : WG} {gs : List WG} (h1 : EG X e g) (h2 : EGs X es gs)
    (hs : (assignEach (e :: es) X.env).map (·.2) = assign e X.env :: (assignEach es X.env).map (·.2) := by rfl) : EGs X (e :: es) (g :: gs) := by
  refine ⟨fun ps s M Q Q' k h => ?_, pgs_weak (pgs_cons h1.run h2.run hs) ?_⟩
  · cases ps with
    | nil => exact h
    | cons x r => exact h1.mono _ _ _ _ _ (fun s' M' z => h2.mono _ _ _ _ _ k z) h
  · rintro vs σ H Q ⟨ps, s, M, rs, rh, r, h⟩
    cases ps with
    | nil => exact h.elim
    | cons x t =>
      rw [Reps] at r
      obtain ⟨v, vr, rfl, rv, rr⟩ := r
      refine ⟨v, vr, rfl, x, s, M, rs, rh, rv, h1.mono _ _ _ _ _ (fun s' M' z σ' H' S rh' rs' => ?_) h⟩
      exact ⟨t, s', M', rs', rh', rr.tk (S.tk rh), h2.mono _ _ _ _ _ (fun s2 M2 z2 σ2 H2 S2 rh2 rs2 => z2 σ2 H2 (S.trans S2) rh2 rs2) z⟩
theorem gAll_len {gs : List WG} : ∀ {ps : List PV} {s : PSt} {M : PH} {Q : PSt → PH → Prop} (hm : ∀ g ∈ gs, MonoG g), gAll gs ps s M Q → (∃ s' M', Q s' M') ∨ True := fun _ _ => .inr trivial
theorem eg_tup {es : List Expr} {k : Nat} {gs : List WG} (hc : X.calm = true) (h : EGs X es gs) 
    (hn : (assignEach es X.env).length = gs.length := by rfl) (hst : (assignEach es X.env).findIdx? (·.1) = none := by rfl) (hl : ∀ (ps : List PV) s M Q, gAll gs ps s M Q → ps.length = gs.length) : EG X (.Tuple es k pos) (gTp gs) := by
  refine ⟨fun p s M Q Q' k h' => ?_, pg_weak (pg_tup hc h.run hn hst) ?_⟩
  · cases p with
    | tup xs => exact h.mono _ _ _ _ _ k h'
    | _ => exact h'
  · rintro v σ H Q ⟨p, s, M, rs, rh, r, h'⟩
    cases p with
    | tup xs =>
      rw [Rep] at r
      obtain ⟨a, vs, rfl, hs, rr⟩ := r
      exact ⟨a, vs, rfl, hs, by rw [← rr.length]; exact hl _ _ _ _ h', xs, s, M, rs, rh, rr, h'⟩
    | _ => exact h'.elim
theorem gl2 {i j : Nat} : ∀ (ps : List PV) s M Q, gAll [gNm i, gNm j] ps s M Q → ps.length = [gNm i, gNm j].length
  | [_, _], _, _, _, _ => rfl
  | [], _, _, _, h => h.elim
  | [_], _, _, _, h => h.elim
  | _ :: _ :: _ :: _, _, _, _, h => h.elim
theorem gl3 {i j k : Nat} : ∀ (ps : List PV) s M Q, gAll [gNm i, gNm j, gNm k] ps s M Q → ps.length = [gNm i, gNm j, gNm k].length
  | [_, _, _], _, _, _, _ => rfl
  | [], _, _, _, h => h.elim
  | [_], _, _, _, h => h.elim
  | [_, _], _, _, _, h => h.elim
  | _ :: _ :: _ :: _ :: _, _, _, _, h => h.elim
theorem gl4 {i j k l : Nat} : ∀ (ps : List PV) s M Q, gAll [gNm i, gNm j, gNm k, gNm l] ps s M Q → ps.length = [gNm i, gNm j, gNm k, gNm l].length
  | [_, _, _, _], _, _, _, _ => rfl
  | [], _, _, _, h => h.elim
  | [_], _, _, _, h => h.elim
  | [_, _], _, _, _, h => h.elim
  | [_, _, _], _, _, _, h => h.elim
  | _ :: _ :: _ :: _ :: _ :: _, _, _, _, h => h.elim
/-- a, b = e -/
def wAsg (e : WE) (g : WG) : WS := fun EP D s M => e EP s M fun p M1 => g p s M1 D.nx
theorem es_asg {W : WX} {tg e : Expr} {we : WE} {g : WG} (he : EE X W e we) (hg : EG X tg g) (hs : swapsWithSole [tg] e pos.line X.env = pure false := by rfl) (hw : swappedStores [tg] e X.env = pure none := by rfl)
    (h1 : (assignEach [tg] X.env).map (·.2) = [assign tg X.env] := by rfl) : ES X W (.Assign [tg] e pos) (wAsg we g) := by
  refine ⟨fun EP D D' s M k h => he.mono _ _ _ _ _ (fun p M1 z => hg.mono _ _ _ _ _ k.nx z) h, ps_weak (ps_asg he.run hg.run hs hw h1) ?_⟩
  rintro D σ H ⟨EP, s, M, c, h⟩
  refine c.use he.mono h fun p M1 v H1 h1 S c1 r => ?_
  exact ⟨p, s, M1, c1.rs, c1.rh, r, hg.mono _ _ _ _ _ (fun s' M' z σ' H' S' rh' rs' => z σ' H' (S.trans S') rh' rs') h1⟩
end
/-! ## what is walked -/
structure PSrc where
  items : List PV
  ok : PH → Prop := fun _ => True
abbrev WI := PX → PSt → PH → (PSrc → PH → Prop) → Prop
def MonoI (w : WI) : Prop := ∀ EP s M Q Q', (∀ p M', Q p M' → Q' p M') → w EP s M Q → w EP s M Q'
def ItOk (K : Fg) (J : It) (src : PSrc) (M1 : PH) (H1 : Hp) : Prop :=
  ∀ (i : Nat) M H, Step M1 H1 M H → RepH K H M → src.ok M → (∀ p, src.items[i]? = some p → J.go i H ∧ ∀ x H', J.yld i H x H' → Step M H M H' ∧ RepH K H' M ∧ Rep K H' p x) ∧ (i = src.items.length → J.stop i H)
def DnI (K : Fg) (M : PH) (H : Hp) (R : It → Hp → Prop) : PSrc → PH → Prop := fun src M1 => ∀ J H1, Step M H M1 H1 → RepH K H1 M1 → ItOk K J src M1 H1 → R J H1
def upI (K : Fg) (W : WX) (w : WI) : TI := fun σ H R => ∃ EP s M, Cur K W EP s M σ H ∧ w EP s M (DnI K M H R)
structure EI (X : Cx) (W : WX) (tg iter : Expr) (w : WI) : Prop where
  mono : MonoI w
  run : PI X tg iter (upI X.K W w)
theorem pi_weak {X : Cx} {tg e : Expr} {t t' : TI} (h : PI X tg e t) (k : ∀ σ H Q, t' σ H Q → t σ H Q) : PI X tg e t' := ⟨fun pins s σ H Q I q => h.run pins s σ H Q I (k _ _ _ q)⟩
theorem Cur.useI {K : Fg} {W : WX} {EP : PX} {s : PSt} {M : PH} {σ : St} {H : Hp} {w : WI} (c : Cur K W EP s M σ H) (hm : MonoI w) {R : PSrc → PH → Prop} (h : w EP s M R) {Q : It → Hp → Prop}
    (k : ∀ src M1 J H1, R src M1 → Step M H M1 H1 → Cur K W EP s M1 σ H1 → ItOk K J src M1 H1 → Q J H1) : upI K W w σ H Q :=
  ⟨EP, s, M, c, hm _ _ _ _ _ (fun src M1 r J H1 S rh io => k src M1 J H1 r S (c.step S rh) io) h⟩
/-- over a tuple -/
def iTp (e : WE) : WI := fun EP s M Q => e EP s M fun p M1 => match p with
  | .tup xs => Q ⟨xs, fun _ => True⟩ M1
  | _ => False
/-- over a list that stands -/
def iLs (e : WE) : WI := fun EP s M Q => e EP s M fun p M1 => match p with
  | .ref a => ∃ xs, M1 a = some (.lst xs) ∧ Q ⟨xs, fun M => M a = some (.lst xs)⟩ M1
  | _ => False
/-- over a list just made -/
def iNw (l : WL) : WI := fun EP s M Q => l EP s M fun xs M1 => Q ⟨xs, fun _ => True⟩ M1
/-- over the signs of a text -/
def iSt (e : WE) : WI := fun EP s M Q => e EP s M fun p M1 => match p with
  | .str z => Q ⟨z.cps.toList.map fun c => .str ⟨#[c]⟩, fun _ => True⟩ M1
  | _ => False
section
variable {X : Cx} {W : WX} {tg e : Expr} {we : WE} {wl : WL}
theorem ei_tup (h : EE X W e we) : EI X W tg e (iTp we) := by
  refine ⟨fun EP s M Q Q' k q => h.mono _ _ _ _ _ (fun p M1 z => ?_) q, pi_weak (pi_tup h.run) ?_⟩
  · cases p with
    | tup xs => exact k _ _ z
    | _ => exact z
  · rintro σ H R ⟨EP, s, M, c, q⟩
    refine c.use h.mono q fun p M1 v H1 h1 S c1 r => ?_
    cases p with
    | tup xs =>
      rw [Rep] at r
      obtain ⟨a, vs, rfl, hs, rr⟩ := r
      refine ⟨a, rfl, ⟨vs, hs⟩, h1 _ H1 S c1.rh fun i M2 H2 S2 rh2 _ => ⟨fun p hp => ?_, fun hi => ?_⟩⟩
      · obtain ⟨v, hv, rv⟩ := rr.get hp
        have hs2 := sqt_keep (S2.tk c1.rh) hs
        refine ⟨⟨vs, v, hs2, hv⟩, fun x H' hy => ?_⟩
        obtain ⟨rfl, hy⟩ := hy
        have e1 := hy vs hs2
        rw [hv] at e1; cases e1
        exact ⟨.refl _ _, rh2, rv.tk (S2.tk c1.rh)⟩
      · exact ⟨vs, sqt_keep (S2.tk c1.rh) hs, by rw [← rr.length, hi]; exact Nat.le_refl _⟩
    | _ => exact h1.elim
theorem ei_list (h : EE X W e we) : EI X W tg e (iLs we) := by
  refine ⟨fun EP s M Q Q' k q => h.mono _ _ _ _ _ (fun p M1 z => ?_) q, pi_weak (pi_list h.run) ?_⟩
  · cases p with
    | ref a => exact let ⟨xs, e, z⟩ := z; ⟨xs, e, k _ _ z⟩
    | _ => exact z
  · rintro σ H R ⟨EP, s, M, c, q⟩
    refine c.use h.mono q fun p M1 v H1 h1 S c1 r => ?_
    cases p with
    | ref a =>
      rw [Rep] at r; subst r
      obtain ⟨xs, e1, h1⟩ := h1
      obtain ⟨vs1, hv1, _⟩ := c1.rh a _ e1
      refine ⟨a, rfl, ⟨vs1, SqL.of hv1⟩, h1 _ H1 S c1.rh fun i M2 H2 S2 rh2 ok => ?_⟩
      have ok : M2 a = some (.lst xs) := ok
      obtain ⟨vs, hv, rr⟩ := rh2 a _ ok
      refine ⟨fun p hp => ?_, fun hi => ⟨vs, SqL.of hv, by rw [← rr.length, hi]; exact Nat.le_refl _⟩⟩
      obtain ⟨v, hvv, rv⟩ := rr.get hp
      refine ⟨⟨vs, v, SqL.of hv, hvv⟩, fun x H' hy => ?_⟩
      obtain ⟨rfl, hy⟩ := hy
      have e2 := hy vs (SqL.of hv)
      rw [hvv] at e2; cases e2
      exact ⟨.refl _ _, rh2, rv⟩
    | _ => exact h1.elim
theorem ei_new (h : EL X W e wl) : EI X W tg e (iNw wl) := by
  refine ⟨fun EP s M Q Q' k q => h.mono _ _ _ _ _ (fun p M1 z => k _ _ z) q, pi_weak (pi_list h.run) ?_⟩
  rintro σ H R ⟨EP, s, M, c, q⟩
  refine c.useL h.mono q fun xs M1 D vs H1 h1 S c1 n w e1 rr z => ?_
  refine ⟨D, rfl, ⟨vs, SqL.of e1⟩, h1 _ H1 S c1.rh fun i M2 H2 S2 rh2 _ => ?_⟩
  have e2 : H2 D = some (.lst vs) := S2.keep D _ e1 w
  have r2 := rr.tk (S2.tk c1.rh)
  refine ⟨fun p hp => ?_, fun hi => ⟨vs, SqL.of e2, by rw [← rr.length, hi]; exact Nat.le_refl _⟩⟩
  obtain ⟨v, hvv, rv⟩ := r2.get hp
  refine ⟨⟨vs, v, SqL.of e2, hvv⟩, fun x H' hy => ?_⟩
  obtain ⟨rfl, hy⟩ := hy
  have e3 := hy vs (SqL.of e2)
  rw [hvv] at e3; cases e3
  exact ⟨.refl _ _, rh2, rv⟩
theorem ei_str (h : EE X W e we) : EI X W tg e (iSt we) := by
  refine ⟨fun EP s M Q Q' k q => h.mono _ _ _ _ _ (fun p M1 z => ?_) q, pi_weak (pi_str h.run) ?_⟩
  · cases p with
    | str xs => exact k _ _ z
    | _ => exact z
  · rintro σ H R ⟨EP, s, M, c, q⟩
    refine c.use h.mono q fun p M1 v H1 h1 S c1 r => ?_
    cases p with
    | str x =>
      rw [Rep] at r; subst r
      refine ⟨x, rfl, h1 _ H1 S c1.rh fun i M2 H2 S2 rh2 _ => ⟨fun p hp => ?_, fun hi => ?_⟩⟩
      · have hp' : (x.cps.toList.map fun c => PV.str ⟨#[c]⟩)[i]? = some p := hp
        rw [List.getElem?_map] at hp'
        obtain ⟨cc, e1, e2⟩ := Option.map_eq_some_iff.mp hp'
        have e3 : x.cps[i]? = some cc := by simpa using e1
        have hlt : i < x.cps.size := (Array.getElem?_eq_some_iff.mp e3).1
        refine ⟨hlt, fun y H' hy => ?_⟩
        obtain ⟨rfl, c', e4, rfl⟩ := hy
        rw [e3] at e4; cases e4
        exact ⟨.refl _ _, rh2, by rw [← e2, Rep]⟩
      · have hi' : i = (x.cps.toList.map fun c => PV.str ⟨#[c]⟩).length := hi
        simp only [List.length_map, Array.length_toList] at hi'
        exact Nat.le_of_eq hi'.symm
    | _ => exact h1.elim
end
/-! ## for -/
def forW (ok : PH → Prop) (g : WG) (b : WS) (EP : PX) (D : PEnds) : List PV → PSt → PH → Prop
  | [], s, M => ok M ∧ D.nx s M
  | x :: xs, s, M => ok M ∧ g x s M fun s2 M2 => b EP { D with nx := forW ok g b EP D xs, ct := forW ok g b EP D xs, bk := D.nx } s2 M2
def wFor (i : WI) (g : WG) (b : WS) : WS := fun EP D s M => i EP s M fun src M1 => forW src.ok g b EP D src.items s M1
theorem forW_mono {ok : PH → Prop} {g : WG} {b : WS} {EP : PX} {D D' : PEnds} (hg : MonoG g) (hb : MonoS b) (k : D.Le D') : ∀ (xs : List PV) s M, forW ok g b EP D xs s M → forW ok g b EP D' xs s M
  | [], s, M, h => ⟨h.1, k.nx _ _ h.2⟩
  | x :: xs, s, M, h => ⟨h.1, hg.app h.2 fun s2 M2 z => hb.app z ⟨forW_mono hg hb k xs, k.rt, k.nx, forW_mono hg hb k xs⟩⟩
theorem es_for {X : Cx} {W : WX} {tg iter : Expr} {body : List Stmt} {wi : WI} {g : WG} {wb : WS} {pos : Pos} (hp : PassesOwn (model X.prog X.w) X.A X.env X.xe) (hc : X.calm = true) (hi : EI X W tg iter wi) (hg : EG X tg g) (hb : EB X W body wb)
    (hs : ∀ x, foldedSetIterable iter X.env x = pure x := by intro _; rfl) : ES X W (.For tg iter body [] pos) (wFor wi g wb) := by
  refine ⟨fun EP D D' s M k h => hi.mono _ _ _ _ _ (fun src M1 z => forW_mono hg.mono hb.mono k _ _ _ z) h, ps_weak (ps_for hp hc hi.run hg.run hb.run hs) ?_⟩
  rintro D σ H ⟨EP, s, M, c, h⟩
  refine c.useI hi.mono h fun src M1 J H1 h1 S1 c1 io => ?_
  refine ⟨fun i m σ' H' => ∃ s' M', i + m = src.items.length ∧ Step M1 H1 M' H' ∧ RepH X.K H' M' ∧ RepS X.K H' s' σ' ∧ forW src.ok g wb EP (dn X.K M1 H1 D) (src.items.drop i) s' M', ⟨src.items.length, s, M1, by omega, .refl _ _, c1.rh, c1.rs, forW_mono hg.mono hb.mono (dn_on S1) _ _ _ h1⟩, fun i m σ' H' hW => ?_⟩
  obtain ⟨s', M', em, S', rh', rs', hf⟩ := hW
  by_cases hlt : i < src.items.length
  · have ed : src.items.drop i = src.items[i] :: src.items.drop (i + 1) := List.drop_eq_getElem_cons hlt
    rw [ed] at hf
    have hio := io i M' H' S' rh' hf.1
    obtain ⟨hgo, hy⟩ := hio.1 src.items[i] (List.getElem?_eq_getElem hlt)
    refine .inr ⟨hgo, fun σ2 H2 => ∃ s2 M2, Step M1 H1 M2 H2 ∧ RepH X.K H2 M2 ∧ RepS X.K H2 s2 σ2 ∧ forW src.ok g wb EP (dn X.K M1 H1 D) (src.items.drop (i + 1)) s2 M2, fun σ2 H2 hN => ?_, fun x H2 hyl => ?_⟩
    · obtain ⟨s2, M2, a1, a2, a3, a4⟩ := hN
      exact ⟨m - 1, by omega, s2, M2, by omega, a1, a2, a3, a4⟩
    · obtain ⟨S2, rh2, rx⟩ := hy x H2 hyl
      refine ⟨src.items[i], s', M', rs'.tk (S2.tk rh'), rh2, rx, hg.mono _ _ _ _ _ (fun s3 M3 z σ3 H3 S3 rh3 rs3 => ?_) hf.2⟩
      have SS := (S'.trans S2).trans S3
      have c3 : Cur X.K W EP s3 M3 σ3 H3 := (c1.step SS rh3).at rs3
      refine ⟨EP, s3, M3, c3, hb.mono.app z ⟨fun s4 M4 z4 σ4 H4 S4 rh4 rs4 => ⟨s4, M4, SS.trans S4, rh4, rs4, z4⟩, fun p M4 z4 v H4 S4 rh4 r4 => z4 v H4 (SS.trans S4) rh4 r4,
        fun s4 M4 z4 σ4 H4 S4 rh4 rs4 => z4 σ4 H4 (SS.trans S4) rh4 rs4, fun s4 M4 z4 σ4 H4 S4 rh4 rs4 => ⟨s4, M4, SS.trans S4, rh4, rs4, z4⟩⟩⟩
  · have ei : i = src.items.length := by omega
    rw [List.drop_eq_nil_of_le (by omega)] at hf
    exact .inl ⟨(io i M' H' S' rh' hf.1).2 ei, hf.2 σ' H' S' rh' rs'⟩
/-- the rule one uses: an invariant over the turn -/
theorem forW_inv {ok : PH → Prop} {g : WG} {b : WS} {EP : PX} {D : PEnds} {xs : List PV} (P : Nat → PSt → PH → Prop) (hg : MonoG g) (hb : MonoS b) {s : PSt} {M : PH} (h0 : P 0 s M) (hok : ∀ i s M, i ≤ xs.length → P i s M → ok M)
    (hs : ∀ i x s M, xs[i]? = some x → P i s M → g x s M fun s2 M2 => b EP { D with nx := P (i + 1), ct := P (i + 1), bk := D.nx } s2 M2) (hd : ∀ s M, P xs.length s M → D.nx s M) : forW ok g b EP D xs s M := by
  have go : ∀ (m i : Nat) (s : PSt) (M : PH), i + m = xs.length → P i s M → forW ok g b EP D (xs.drop i) s M := by
    intro m
    induction m with
    | zero =>
      intro i s M e h
      rw [List.drop_eq_nil_of_le (by omega)]
      have ei : i = xs.length := by omega
      exact ⟨hok i s M (by omega) h, hd s M (ei ▸ h)⟩
    | succ m ih =>
      intro i s M e h
      have hlt : i < xs.length := by omega
      rw [List.drop_eq_getElem_cons hlt]
      exact ⟨hok i s M (by omega) h, hg.app (hs i xs[i] s M (List.getElem?_eq_getElem hlt) h) fun s2 M2 z => hb.app z ⟨fun s' M' z' => ih (i + 1) s' M' (by omega) z', fun _ _ z' => z', fun _ _ z' => z', fun s' M' z' => ih (i + 1) s' M' (by omega) z'⟩⟩
  have := go xs.length 0 s M (by omega) h0
  simpa using this
/-! ## while -/
def wWhile (t : WT) (b : WS) : WS := fun EP D s M => ∃ P : Nat → PSt → PH → Prop, (∃ m, P m s M) ∧ ∀ m s M, P m s M → t EP s M fun c M1 => if c = true then ∃ N : PSt → PH → Prop, (∀ s' M', N s' M' → ∃ m', m' < m ∧ P m' s' M') ∧ b EP { D with nx := N, ct := N, bk := D.nx } s M1 else D.nx s M1
theorem es_while {X : Cx} {W : WX} {c : Expr} {body : List Stmt} {tc : WT} {wb : WS} {pos : Pos} (hp : PassesOwn (model X.prog X.w) X.A X.env X.xe) (hc : ET X W c tc) (hb : EB X W body wb) : ES X W (.While c body [] pos) (wWhile tc wb) := by
  refine ⟨fun EP D D' s M k h => ?_, ps_weak (ps_while hp hc.run hb.run) ?_⟩
  · obtain ⟨P, h0, h⟩ := h
    refine ⟨P, h0, fun m s M hm => hc.mono _ _ _ _ _ (fun d M1 z => ?_) (h m s M hm)⟩
    cases d with
    | true => exact let ⟨N, a, b⟩ := z; ⟨N, a, hb.mono.app b ⟨fun _ _ q => q, k.rt, k.nx, fun _ _ q => q⟩⟩
    | false => exact k.nx _ _ z
  · rintro D σ H ⟨EP, s, M, cu, P, ⟨m0, h0⟩, h⟩
    refine ⟨fun m σ' H' => ∃ s' M', Step M H M' H' ∧ RepH X.K H' M' ∧ RepS X.K H' s' σ' ∧ P m s' M', ⟨m0, s, M, .refl _ _, cu.rh, cu.rs, h0⟩, fun m σ' H' hW => ?_⟩
    obtain ⟨s', M', S', rh', rs', hP⟩ := hW
    have c' : Cur X.K W EP s' M' σ' H' := (cu.step S' rh').at rs'
    refine c'.useT hc.mono (h m s' M' hP) fun d M1 H1 h1 S1 c1 => ?_
    have SS := S'.trans S1
    cases d with
    | false => exact h1 σ' H1 SS c1.rh c1.rs
    | true =>
      obtain ⟨N, hN, h2⟩ := h1
      refine ⟨fun σ2 H2 => ∃ s2 M2, Step M H M2 H2 ∧ RepH X.K H2 M2 ∧ RepS X.K H2 s2 σ2 ∧ N s2 M2, fun σ2 H2 ⟨s2, M2, a1, a2, a3, a4⟩ => ?_, ?_⟩
      · obtain ⟨m', hm', q⟩ := hN s2 M2 a4
        exact ⟨m', hm', s2, M2, a1, a2, a3, q⟩
      · refine c1.useS hb.mono h2 ⟨fun s4 M4 z4 σ4 H4 S4 rh4 rs4 => ⟨s4, M4, SS.trans S4, rh4, rs4, z4⟩, fun p M4 z4 v H4 S4 rh4 r4 => z4 v H4 (SS.trans S4) rh4 r4,
          fun s4 M4 z4 σ4 H4 S4 rh4 rs4 => z4 σ4 H4 (SS.trans S4) rh4 rs4, fun s4 M4 z4 σ4 H4 S4 rh4 rs4 => ⟨s4, M4, SS.trans S4, rh4, rs4, z4⟩⟩
end PL
set_option autoImplicit true
namespace PL
open PySem PySem.Spec L2
open PyProof.Rows hiding St

/-! ## list comprehensions -/
def pwipe (s : PSt) : List Nat → PSt
  | [] => s
  | v :: vs => (pwipe s vs).set v none
theorem RepS.wipe {K : Fg} {H : Hp} {s : PSt} {σ : St} (h : RepS K H s σ) : ∀ vs : List Nat, RepS K H (pwipe s vs) (L2.wipe σ vs)
  | [] => h
  | v :: vs => (RepS.wipe h vs).setN v
theorem wipe_set (σ : St) (i : Nat) (x : Option V) : ∀ vs : List Nat, L2.wipe (σ.set i x) vs = if i ∈ vs then L2.wipe σ vs else (L2.wipe σ vs).set i x
  | [] => by simp [L2.wipe]
  | v :: vs => by
    show (L2.wipe (σ.set i x) vs).set v none = _
    rw [wipe_set σ i x vs]
    by_cases h : i ∈ vs
    · rw [if_pos h, if_pos (List.mem_cons_of_mem _ h)]; rfl
    · rw [if_neg h]
      by_cases e : i = v
      · subst e
        rw [if_pos List.mem_cons_self, List.set_set]; rfl
      · rw [if_neg (by simp [e, h]), List.set_comm _ _ e]; rfl
theorem wipe_wipe (σ : St) : ∀ vs : List Nat, L2.wipe (L2.wipe σ vs) vs = L2.wipe σ vs := by
  have key : ∀ (us vs : List Nat), (∀ u ∈ us, u ∈ vs) → L2.wipe (L2.wipe σ us) vs = L2.wipe σ vs := by
    intro us
    induction us with
    | nil => intro vs _; rfl
    | cons u us ih =>
      intro vs h
      show L2.wipe ((L2.wipe σ us).set u none) vs = _
      rw [wipe_set, if_pos (h u List.mem_cons_self)]
      exact ih vs fun x hx => h x (List.mem_cons_of_mem _ hx)
  exact fun vs => key vs vs fun _ h => h
/-- names stored one after the other -/
def setsV (σ : St) : List Nat → List V → St
  | i :: is, v :: vs => setsV (σ.set i (some v)) is vs
  | _, _ => σ
def gsN : List Nat → TGs
  | [] => gNil
  | i :: is => gCons (gName i) (gsN is)
theorem gsN_run {H : Hp} : ∀ (is : List Nat) (vs : List V) (σ : St) (Q : St → Hp → Prop), vs.length = is.length → Q (setsV σ is vs) H → gsN is vs σ H Q
  | [], [], σ, Q, _, q => ⟨rfl, q⟩
  | i :: is, v :: vs, σ, Q, h, q => ⟨v, vs, rfl, gsN_run is vs _ Q (by simpa using h) q⟩
theorem wipe_sets {vs : List Nat} : ∀ (is : List Nat) (xs : List V) (σ : St), (∀ i ∈ is, i ∈ vs) → L2.wipe (setsV σ is xs) vs = L2.wipe σ vs
  | [], _, _, _ => by simp [setsV]
  | i :: is, [], _, _ => by simp [setsV]
  | i :: is, x :: xs, σ, h => by
    show L2.wipe (setsV (σ.set i (some x)) is xs) vs = _
    rw [wipe_sets is xs _ fun j hj => h j (List.mem_cons_of_mem _ hj), wipe_set, if_pos (h i List.mem_cons_self)]
theorem gAll_sets {K : Fg} {H : Hp} {M : PH} : ∀ (is : List Nat) (ps : List PV) (vs : List V) (s : PSt) (σ : St) (Q : PSt → PH → Prop), RepS K H s σ → Reps K H ps vs → gAll (is.map gNm) ps s M Q → vs.length = is.length ∧ ∃ s', RepS K H s' (setsV σ is vs) ∧ Q s' M
  | [], [], vs, s, σ, Q, rs, r, h => by rw [Reps] at r; subst r; exact ⟨rfl, s, rs, h⟩
  | [], p :: ps, vs, s, σ, Q, rs, r, h => h.elim
  | i :: is, [], vs, s, σ, Q, rs, r, h => h.elim
  | i :: is, p :: ps, vs, s, σ, Q, rs, r, h => by
    rw [Reps] at r
    obtain ⟨v, t, rfl, r1, r2⟩ := r
    have := gAll_sets is ps t _ _ Q (rs.set r1 i) r2 h
    exact ⟨by simp [this.1], this.2⟩
/-- a comprehension's target: one name, or a tuple of names -/
inductive CTg where
  | one (i : Nat)
  | many (is : List Nat)
def CTg.g : CTg → WG
  | .one i => gNm i
  | .many is => gTp (is.map gNm)
def CTg.t (K : Fg) : CTg → TG
  | .one i => gName i
  | .many is => gTup K is.length (gsN is)
def CTg.ix : CTg → List Nat
  | .one i => [i]
  | .many is => is
theorem pgs_names {X : Cx} {pos : Pos} : ∀ (is : List Nat), True := fun _ => trivial

def lcW (ok : PH → Prop) (g : WG) (t : WT) (e : WE) (sw : PSt) (Q : List PV → PH → Prop) : List PV → List PV → PH → Prop
  | [], acc, M => ok M ∧ Q acc M
  | x :: xs, acc, M => ok M ∧ g x sw M fun s2 M2 => t (fun _ _ _ _ => False) s2 M2 fun b M3 =>
      if b = true then e (fun _ _ _ _ => False) s2 M3 fun y M4 => acc.length < sizeLine ∧ lcW ok g t e sw Q xs (acc ++ [y]) M4 else lcW ok g t e sw Q xs acc M3
def wLc (i : WI) (g : CTg) (t : WT) (e : WE) (vs : List Nat) : WL := fun EP s M Q => i EP s M fun src M1 => lcW src.ok g.g t e (pwipe s vs) Q src.items [] M1
theorem CTg.mono : ∀ g : CTg, MonoG g.g
  | .one i => fun p s M Q Q' k h => k _ _ h
  | .many is => fun p s M Q Q' k h => by
    have go : ∀ (is : List Nat) (ps : List PV) (s : PSt), gAll (is.map gNm) ps s M Q → gAll (is.map gNm) ps s M Q' := by
      intro is
      induction is with
      | nil => intro ps s h; cases ps with
        | nil => exact k _ _ h
        | cons => exact h
      | cons i is ih => intro ps s h; cases ps with
        | nil => exact h
        | cons p ps => exact ih ps _ h
    cases p with
    | tup xs => exact go is xs s h
    | _ => exact h
theorem lcW_mono {ok : PH → Prop} {g : WG} {t : WT} {e : WE} {sw : PSt} {Q Q' : List PV → PH → Prop} (hg : MonoG g) (ht : MonoT t) (he : MonoE e) (k : ∀ xs M, Q xs M → Q' xs M) : ∀ (xs acc : List PV) (M : PH), lcW ok g t e sw Q xs acc M → lcW ok g t e sw Q' xs acc M
  | [], acc, M, h => ⟨h.1, k _ _ h.2⟩
  | x :: xs, acc, M, h => ⟨h.1, hg.app h.2 fun s2 M2 z => ht _ _ _ _ _ (fun b M3 z3 => by
    cases b with
    | true => exact he _ _ _ _ _ (fun y M4 z4 => ⟨z4.1, lcW_mono hg ht he k xs _ M4 z4.2⟩) z3
    | false => exact lcW_mono hg ht he k xs _ M3 z3) z⟩
abbrev W0 : WX := fun _ _ _ _ => False
structure ETs (X : Cx) (ifs : List Expr) (w : WT) : Prop where
  mono : MonoT w
  run : PTs X ifs (upT X.K W0 w)
def wYes : WT := fun _ _ M Q => Q true M
theorem pts_weak {X : Cx} {e : List Expr} {t t' : TT} (h : PTs X e t) (k : ∀ σ H Q, t' σ H Q → t σ H Q) : PTs X e t' := ⟨fun pins s σ H Q I q => h.run pins s σ H Q I (k _ _ _ q)⟩
theorem ets_nil {X : Cx} : ETs X [] wYes := ⟨fun _ _ _ _ _ k h => k _ _ h, pts_weak pts_nil fun σ H Q h => by
  obtain ⟨EP, s, M, c, h⟩ := h
  exact h H (.refl _ _) c.rh⟩
theorem ets_one {X : Cx} {c : Expr} {w : WT} (h : ET X W0 c w) : ETs X [c] w := ⟨h.mono, pts_one h.run⟩
theorem cur0 {K : Fg} {s : PSt} {M : PH} {σ : St} {H : Hp} (rs : RepS K H s σ) (rh : RepH K H M) : Cur K W0 (fun _ _ _ _ => False) s M σ H := ⟨rs, rh, fun _ _ _ _ _ _ _ _ _ _ _ h => h⟩
theorem wr_no {M M' : PH} {H H' : Hp} (S : Step M H M' H') {a : Addr} {o : HO} (n : ¬ Wr M a) (e : H a = some o) : ¬ Wr M' a := fun w => by
  have := S.fresh a w n
  rw [e] at this; cases this
theorem up_lc {K : Fg} {W : WX} {wi : WI} {g : CTg} {wt : WT} {we : WE} {vs : List Nat} (hi : MonoI wi) (ht : MonoT wt) (he : MonoE we) (hv : ∀ i ∈ g.ix, i ∈ vs) :
    ∀ σ H Q, upL K W (wLc wi g wt we vs) σ H Q → tLc (upI K W wi) (g.t K) (upT K W0 wt) (up K W0 we) vs σ H Q := by
  rintro σ H Q ⟨EP, s, M0, c, h⟩
  refine c.useI hi h fun src M1 J H1 h1 S1 c1 io => ?_
  intro D hD
  have nD := c1.rh.free hD
  refine ⟨fun i m H' => ∃ acc M us, i + m = src.items.length ∧ Step M1 H1 M H' ∧ RepH K H' M ∧ ¬ Wr M D ∧ H' D = some (.lst us) ∧ Reps K H' acc us ∧ acc.length ≤ sizeLine ∧
    lcW src.ok g.g wt we (pwipe s vs) (DnL K M0 H Q) (src.items.drop i) acc M, ⟨src.items.length, [], M1, [], by omega, Step.hidden hD, c1.rh.upd_free hD, nD, upd_same, .nil, by simp, h1⟩, fun i m H' hW => ?_⟩
  obtain ⟨acc, M, us, em, S', rh', nw, eD, ra, hz, hl⟩ := hW
  by_cases hlt : i < src.items.length
  · rw [List.drop_eq_getElem_cons hlt] at hl
    have hio := io i M H' S' rh' hl.1
    obtain ⟨hgo, hy⟩ := hio.1 src.items[i] (List.getElem?_eq_getElem hlt)
    refine .inr ⟨hgo, fun H2 => ∃ acc M us, Step M1 H1 M H2 ∧ RepH K H2 M ∧ ¬ Wr M D ∧ H2 D = some (.lst us) ∧ Reps K H2 acc us ∧ acc.length ≤ sizeLine ∧
      lcW src.ok g.g wt we (pwipe s vs) (DnL K M0 H Q) (src.items.drop (i + 1)) acc M, fun H2 hN => ?_, fun x H2 hyl => ?_⟩
    · obtain ⟨acc, M, us, a1, a2, a3, a4, a5, a6, a7⟩ := hN
      exact ⟨m - 1, by omega, acc, M, us, by omega, a1, a2, a3, a4, a5, a6, a7⟩
    · obtain ⟨S2, rh2, rx⟩ := hy x H2 hyl
      have e2 : H2 D = some (.lst us) := S2.keep D _ eD nw
      have rs2 : RepS K H2 (pwipe s vs) (L2.wipe σ vs) := ((c1.rs.tk (S'.tk c1.rh)).tk (S2.tk rh')).wipe vs
      -- behind the target
      have body : ∀ (s2 : PSt) (σ2 : St), RepS K H2 s2 σ2 → (wt (fun _ _ _ _ => False) s2 M fun b M3 =>
          if b = true then we (fun _ _ _ _ => False) s2 M3 fun y M4 => acc.length < sizeLine ∧ lcW src.ok g.g wt we (pwipe s vs) (DnL K M0 H Q) (src.items.drop (i + 1)) (acc ++ [y]) M4
          else lcW src.ok g.g wt we (pwipe s vs) (DnL K M0 H Q) (src.items.drop (i + 1)) acc M3) →
          upT K W0 wt σ2 H2 fun b H3 => if b = true then up K W0 we σ2 H3 fun y H4 => ∃ acc', H4 D = some (.lst acc') ∧ acc'.length < sizeLine ∧ (∃ acc M us, Step M1 H1 M (upd H4 D (.lst (acc' ++ [y]))) ∧ RepH K (upd H4 D (.lst (acc' ++ [y]))) M ∧ ¬ Wr M D ∧ upd H4 D (.lst (acc' ++ [y])) D = some (.lst us) ∧ Reps K (upd H4 D (.lst (acc' ++ [y]))) acc us ∧ acc.length ≤ sizeLine ∧
      lcW src.ok g.g wt we (pwipe s vs) (DnL K M0 H Q) (src.items.drop (i + 1)) acc M) else ∃ acc M us, Step M1 H1 M H3 ∧ RepH K H3 M ∧ ¬ Wr M D ∧ H3 D = some (.lst us) ∧ Reps K H3 acc us ∧ acc.length ≤ sizeLine ∧
      lcW src.ok g.g wt we (pwipe s vs) (DnL K M0 H Q) (src.items.drop (i + 1)) acc M := by
        intro s2 σ2 r2 hb
        refine (cur0 r2 rh2).useT ht hb fun b M3 H3 h3 S3 c3 => ?_
        have e3 : H3 D = some (.lst us) := S3.keep D _ e2 nw
        have n3 : ¬ Wr M3 D := wr_no S3 nw e2
        have r3 := (ra.tk (S2.tk rh')).tk (S3.tk rh2)
        cases b with
        | false => exact ⟨acc, M3, us, (S'.trans S2).trans S3, c3.rh, n3, e3, r3, hz, h3⟩
        | true =>
          refine c3.use he h3 fun y M4 v H4 h4 S4 c4 ry => ?_
          have e4 : H4 D = some (.lst us) := S4.keep D _ e3 n3
          have n4 : ¬ Wr M4 D := wr_no S4 n3 e3
          have r4 := r3.tk (S4.tk c3.rh)
          have hn4 : (∀ xs, H4 D ≠ some (.tup xs)) ∧ ∀ o xs, H4 D ≠ some (.frz o xs) := by
            rw [e4]; exact ⟨fun _ z => (by cases z), fun _ _ z => (by cases z)⟩
          have t4 : TKeep H4 (upd H4 D (.lst (us ++ [v]))) := tk_upd hn4
          refine ⟨us, e4, by rw [← r4.length]; exact h4.1, acc ++ [y], M4, us ++ [v], ((((S'.trans S2).trans S3).trans S4).over hD), c4.rh.upd_out n4 hn4, n4, upd_same, (r4.tk t4).append (.cons (ry.tk t4) .nil), ?_, h4.2⟩
          rw [List.length_append]
          exact h4.1
      cases g with
      | one j =>
        refine ⟨?_, body _ _ (rs2.set rx j) hl.2⟩
        rw [wipe_set, if_pos (hv j (by simp [CTg.ix])), wipe_wipe]
      | many is =>
        have hl2 := hl.2
        generalize src.items[i] = pp at rx hl2
        cases pp with
        | tup ps =>
          rw [Rep] at rx
          obtain ⟨a, xs, rfl, hs, rr⟩ := rx
          obtain ⟨hlen, s', rs', q⟩ := gAll_sets is ps xs _ _ _ rs2 rr hl2
          refine ⟨a, xs, rfl, hs, hlen, gsN_run is xs _ _ hlen ⟨?_, body _ _ rs' q⟩⟩
          rw [wipe_sets is xs _ fun j hj => hv j hj, wipe_wipe]
        | _ => exact hl2.elim
  · have ei : i = src.items.length := by omega
    rw [List.drop_eq_nil_of_le (by omega)] at hl
    exact .inl ⟨(io i M H' S' rh' hl.1).2 ei, hl.2 D us H' (S1.trans S') rh' (S1.free hD) nw eD ra hz⟩
structure EC (X : Cx) (tg : Expr) (g : CTg) : Prop where
  run : PG X tg (g.t X.K)
theorem ec_one {X : Cx} {pos : Pos} (i : Nat) {x : Str} (hN : X.N.Nodup) (hi : X.N[i]? = some x := by rfl) (hx : Loc X.env.scope x := by first | exact .inl rfl | exact .inr rfl) (hf : X.fn x = true ∨ X.env.scope.names.lookup x = some .local := by first | exact .inl rfl | exact .inr rfl | assumption) : EC X (.Name x pos) (.one i) := ⟨pg_name hN hi hx hf⟩
structure ECs (X : Cx) (ts : List Expr) (is : List Nat) : Prop where
  run : PGs X ts (gsN is)
theorem ecs_nil {X : Cx} : ECs X [] [] := ⟨pgs_nil⟩
theorem ecs_cons {X : Cx} {pos : Pos} {es : List Expr} {is : List Nat} (i : Nat) {x : Str} (hN : X.N.Nodup) (h2 : ECs X es is) (hi : X.N[i]? = some x := by rfl) (hx : Loc X.env.scope x := by first | exact .inl rfl | exact .inr rfl) (hf : X.fn x = true ∨ X.env.scope.names.lookup x = some .local := by first | exact .inl rfl | exact .inr rfl | assumption)
    (hs : (assignEach (.Name x pos :: es) X.env).map (·.2) = assign (.Name x pos) X.env :: (assignEach es X.env).map (·.2) := by rfl) : ECs X (.Name x pos :: es) (i :: is) := ⟨pgs_cons (pg_name hN hi hx hf) h2.run hs⟩
theorem ec_many {X : Cx} {es : List Expr} {is : List Nat} {k : Nat} {pos : Pos} (hc : X.calm = true) (h : ECs X es is) (hn : (assignEach es X.env).length = is.length := by rfl) (hst : (assignEach es X.env).findIdx? (·.1) = none := by rfl) : EC X (.Tuple es k pos) (.many is) := ⟨pg_tup hc h.run hn hst⟩
section
variable {X : Cx} {W : WX} {elt tg iter : Expr} {ifs : List Expr} {scope : Scope} {own : List (Str × Nat)} {pos : Pos} {wi : WI} {g : CTg} {wt : WT} {we : WE}
theorem wLc_mono {vs : List Nat} (hi : MonoI wi) (ht : MonoT wt) (he : MonoE we) : MonoA (wLc wi g wt we vs) := fun EP s M Q Q' k h =>
  hi _ _ _ _ _ (fun src M1 z => lcW_mono g.mono ht he k _ _ _ z) h
theorem el_lc (hc : X.calm = true) (hN : X.N.Nodup) (hi : EI X W tg iter wi) (ok : BlkOk X.N X.env.scope scope own)
    (hg : ∀ (s : Shared) (H : Hp) (C : Addr) (cl : List (Str × Addr)) (fp : List Addr), EC (X.blk s H scope (compEnvC scope cl C X.env) fp) tg g)
    (ht : ∀ (s : Shared) (H : Hp) (C : Addr) (cl : List (Str × Addr)) (fp : List Addr), ETs (X.blk s H scope (compEnvC scope cl C X.env) fp) ifs wt)
    (he : ∀ (s : Shared) (H : Hp) (C : Addr) (cl : List (Str × Addr)) (fp : List Addr), EE (X.blk s H scope (compEnvC scope cl C X.env) fp) W0 elt we)
    (hv : ∀ i ∈ g.ix, i ∈ own.map (·.2) := by decide) (hs : ∀ x, foldedSetIterable iter X.env x = pure x := by intro _; rfl) :
    EL X W (.ListComp elt [⟨tg, iter, ifs, 0⟩] scope pos) (wLc wi g wt we (own.map (·.2))) := by
  have ht0 := (ht X.s_0 X.H_0 0 [] []).mono
  have he0 := (he X.s_0 X.H_0 0 [] []).mono
  exact ⟨wLc_mono hi.mono ht0 he0, pe_weak (pe_lc hc hN hi.run ok (fun s H C cl fp => (hg s H C cl fp).run) (fun s H C cl fp => (ht s H C cl fp).run) (fun s H C cl fp => (he s H C cl fp).run) hs) (up_lc hi.mono ht0 he0 hv)⟩
theorem up_new {K : Fg} {l : WL} (hl : MonoA l) : ∀ σ H Q, up K W (wNew l) σ H Q → upL K W l σ H Q := by
  rintro σ H Q ⟨EP, s, M, c, q⟩
  refine c.useL hl q fun xs M1 D vs H1 h1 S1 c1 n w e r z => ?_
  have e1 : upd H1 D (.lst vs) = H1 := by
    funext b
    by_cases hb : b = D
    · subst hb; rw [upd_same, e]
    · rw [upd_ne hb]
  have hn : (∀ xs, H1 D ≠ some (.tup xs)) ∧ ∀ o xs, H1 D ≠ some (.frz o xs) := by
    rw [e]; exact ⟨fun _ z => (by cases z), fun _ _ z => (by cases z)⟩
  have rh : RepH K H1 (pupd M1 D (.lst xs)) := by
    have := c1.rh.upd_both (o := .lst vs) (p := .lst xs) hn ⟨vs, upd_same, by rw [e1]; exact r⟩
    rwa [e1] at this
  refine h1 D (c.rh.free n) w (.ref D) H1 ⟨S1.keep, fun b wb nb => ?_, S1.there⟩ rh (by rw [Rep])
  rcases wr_pupd wb with e2 | e2
  · rw [e2]; exact n
  · exact S1.fresh b e2 nb
/-- y = [..] -/
theorem es_setLc {i : Nat} {y : Str} {py spos : Pos} (hc : X.calm = true) (hN : X.N.Nodup) (hi : EI X W tg iter wi) (ok : BlkOk X.N X.env.scope scope own)
    (hg : ∀ (s : Shared) (H : Hp) (C : Addr) (cl : List (Str × Addr)) (fp : List Addr), EC (X.blk s H scope (compEnvC scope cl C X.env) fp) tg g)
    (ht : ∀ (s : Shared) (H : Hp) (C : Addr) (cl : List (Str × Addr)) (fp : List Addr), ETs (X.blk s H scope (compEnvC scope cl C X.env) fp) ifs wt)
    (he : ∀ (s : Shared) (H : Hp) (C : Addr) (cl : List (Str × Addr)) (fp : List Addr), EE (X.blk s H scope (compEnvC scope cl C X.env) fp) W0 elt we)
    (hsw : swapsWith (.ListComp elt [⟨tg, iter, ifs, 0⟩] scope pos) (some (.Name y py)) spos.line X.env = pure true) (hyl : X.env.scope.names.lookup y = some .local := by rfl)
    (hy : X.N[i]? = some y := by rfl) (hv : ∀ i ∈ g.ix, i ∈ own.map (·.2) := by decide) (hs : ∀ x, foldedSetIterable iter X.env x = pure x := by intro _; rfl) :
    ES X W (.Assign [.Name y py] (.ListComp elt [⟨tg, iter, ifs, 0⟩] scope pos) spos) (wSet i (wNew (wLc wi g wt we (own.map (·.2))))) := by
  have ht0 := (ht X.s_0 X.H_0 0 [] []).mono
  have he0 := (he X.s_0 X.H_0 0 [] []).mono
  have hm : MonoA (wLc wi g wt we (own.map (·.2))) := wLc_mono hi.mono ht0 he0
  have hm2 : MonoE (wNew (wLc wi g wt we (own.map (·.2)))) := fun EP s M Q Q' k q => hm _ _ _ _ _ (fun xs M1 z D w w1 => k _ _ (z D w w1)) q
  refine ⟨fun EP D D' s M k h => hm2 _ _ _ _ _ (fun _ _ z => k.nx _ _ z) h, ps_weak (ps_setLc (i := i) (g := g.t X.K) (tt := upT X.K W0 wt) (te := up X.K W0 we) hc hN hy hyl hsw hi.run ok (fun s H C cl fp => (hg s H C cl fp).run) (fun s H C cl fp => (ht s H C cl fp).run) (fun s H C cl fp => (he s H C cl fp).run) hs) ?_⟩
  rintro D σ H ⟨EP, s, M, c, h⟩
  refine up_lc (W := W) hi.mono ht0 he0 hv σ H _ (up_new hm σ H _ ?_)
  exact c.use hm2 h fun p M1 v H1 h1 S c1 r => h1 _ H1 S c1.rh (c1.rs.set r i)
end
/-! the rule one uses: each turn by itself, without a change -/
theorem lcW_pure {ok : PH → Prop} {g : WG} {t : WT} {e : WE} {sw : PSt} {Q : List PV → PH → Prop} {M : PH} (f : PV → Option PV) (ho : ok M) : ∀ (xs acc : List PV), (∀ x ∈ xs, ∀ R : Option PV → Prop, R (f x) → g x sw M fun s2 M2 => t (fun _ _ _ _ => False) s2 M2 fun b M3 => if b = true then e (fun _ _ _ _ => False) s2 M3 fun y M4 => M4 = M ∧ R (some y) else M3 = M ∧ R none) →
    MonoG g → MonoT t → MonoE e → acc.length + xs.length ≤ sizeLine → Q (acc ++ xs.filterMap f) M → lcW ok g t e sw Q xs acc M
  | [], acc, _, _, _, _, _, q => ⟨ho, by simpa using q⟩
  | x :: xs, acc, h, hg, ht, he, hz, q => by
    refine ⟨ho, ?_⟩
    rw [List.length_cons] at hz
    cases ef : f x with
    | none =>
      have h1 := h x List.mem_cons_self (fun o => o = none) ef
      refine hg.app h1 fun s2 M2 z => ht _ _ _ _ _ (fun b M3 z3 => ?_) z
      cases b with
      | true => exact he _ _ _ _ _ (fun y M4 z4 => by cases z4.2) z3
      | false =>
        have e3 : M3 = M := z3.1
        subst e3
        exact lcW_pure f ho xs acc (fun y hy => h y (List.mem_cons_of_mem _ hy)) hg ht he (by omega) (by rw [List.filterMap_cons_none ef] at q; exact q)
    | some y0 =>
      have h1 := h x List.mem_cons_self (fun o => o = some y0) ef
      refine hg.app h1 fun s2 M2 z => ht _ _ _ _ _ (fun b M3 z3 => ?_) z
      cases b with
      | false => cases z3.2
      | true =>
        refine he _ _ _ _ _ (fun y M4 z4 => ?_) z3
        obtain ⟨e4, e5⟩ := z4
        subst e4
        cases e5
        exact ⟨by omega, lcW_pure f ho xs _ (fun y hy => h y (List.mem_cons_of_mem _ hy)) hg ht he (by simp; omega) (by rw [List.filterMap_cons_some ef] at q; simpa using q)⟩
end PL
set_option autoImplicit false
namespace PL
open PySem PySem.Spec L2
open PyProof.Rows hiding St

/-! ## defs -/
abbrev PX1 := Value → List (Str × PV) → PH → Prop
abbrev PSp := List PV → PH → QE → PX1 → Prop
def MonoP (p : PSp) : Prop := ∀ ps M Q Q' E E', (∀ v M', Q v M' → Q' v M') → (∀ c f M', E c f M' → E' c f M') → p ps M Q E → p ps M Q' E'
def DnX (K : Fg) (M : PH) (H : Hp) (E : XK) : PX1 := fun C fs M' => ∀ od H', Step M H M' H' → RepH K H' M' → ExcAt K H' od fs → E C od H'
def spOf (K : Fg) (n : Nat) (p : PSp) : Sp := fun vs H Q E => ∃ ps M, ps.length = n ∧ Reps K H ps vs ∧ RepH K H M ∧ p ps M (Dn K M H Q) (DnX K M H E)
/-- a def keeps its promise, wherever nothing is being written as text -/
structure FnG (P : Program) (w : World) (K : Fg) (mg : Str → Option Value) (base : Heap) (k : Nat) (f : Addr) (fd : FuncData) (ps : List Str) (p : PSp) : Prop where
  mono : MonoP p
  run : ∀ (A : Around) (outer : List Env) (s : Shared) (H : Hp) (args : Args) (us : List Value) (vs : List V) (Q : VK) (E : XK), Room k A → A.guards = some [] → Env0 P w K mg base A outer s H → BindsTo s fd args (ps.zip us) → Vals vs us →
    spOf K ps.length p vs H Q E → codeAny (model P w) A (.call (.ref f) args) (CR (L2.CX P w) outer P w H s Q E) s
theorem FnG.up {P : Program} {w : World} {K : Fg} {mg : Str → Option Value} {base : Heap} {j k : Nat} {f : Addr} {fd : FuncData} {ps : List Str} {p : PSp} (F : FnG P w K mg base j f fd ps p) (h : j ≤ k) : FnG P w K mg base k f fd ps p :=
  ⟨F.mono, fun A outer s H args us vs Q E hr => F.run A outer s H args us vs Q E (hr.mono h)⟩
/-- the walk of a def: its text at f, its body's reading at the entry -/
def EDef (E : PX1) : PX := fun C fs _ M => E C fs M
def DDef (Q : QE) : PEnds where
  nx := fun _ M' => ∃ M'', PLe M'' M' ∧ Q .non M''
  rt := fun v M' => ∃ M'', PLe M'' M' ∧ Q v M''
def startP (n : Nat) (ps : List PV) : PSt := ps.map some ++ List.replicate (n - ps.length) none
theorem startP_rep {K : Fg} {H : Hp} {N : List Str} : ∀ {ps : List PV} {vs : List V}, Reps K H ps vs → RepS K H (startP N.length ps) (L2.start N vs) := fun {ps vs} r => by
  have hl := r.length
  refine ⟨by simp [startP, L2.start, hl], fun i p e => ?_⟩
  unfold startP at e
  unfold L2.start
  rw [List.getElem?_append] at e
  split at e
  · rename_i h
    rw [List.getElem?_map] at e
    obtain ⟨q, e1, e2⟩ := Option.map_eq_some_iff.mp e
    cases e2
    obtain ⟨v, a, b⟩ := r.get e1
    refine ⟨v, ?_, b⟩
    rw [List.getElem?_append_left (by simpa [hl] using h), List.getElem?_map, a]
    rfl
  · exfalso
    have := List.mem_of_getElem? e
    have h2 := List.eq_of_mem_replicate this
    cases h2
section
variable {P : Program} {w : World} {K : Fg} {mg : Str → Option Value} {base : Heap}
/-- the context of a def's body -/
abbrev XOf (P : Program) (w : World) (K : Fg) (mg : Str → Option Value) (base : Heap) (N : List Str) (qual : Str) (scope : Scope) (f : Addr) (cd : Value) (A : Around) (outer : List Env) (s : Shared) (H : Hp) (E : XK) : Cx := cxOf (L2.CX P w) P w K mg base N qual scope f cd A outer s H E
abbrev WOf (E : XK) : WX := fun cls d _ H => E cls d H
theorem fnG_of {k : Nat} {f : Addr} {name qual : Str} {params : Arguments} {body : List Stmt} {scope : Scope} {dV kV doc pm cdv ct oc : Value} {an od : Option Addr}
    {osl : Array (Option Value)} {N ps : List Str} {p : PSp} {wb : WS} (lk : K.lookup f = some ⟨oc, od, .func (PySem.W.fnOf name qual params body scope dV kV doc pm an cdv ct), osl⟩) (hcd : PySem.W.codeIn K cdv qual = true) (S : FnScope N ps scope) (hmp : MonoP p)
    (hbody : ∀ (A : Around) (outer : List Env) (s : Shared) (H : Hp) (E : XK), Room k (A.deeper (envOfC qual scope s.heap.objs.size f cdv)) → A.guards = some [] → EB (XOf P w K mg base N qual scope f cdv A outer s H E) (WOf E) body wb)
    (spec : ∀ (args : List PV) (M : PH) (Q : QE) (E : PX1), args.length = ps.length → p args M Q E → wb (EDef E) (DDef Q) (startP N.length args) M) :
    FnG P w K mg base (k + 1) f (PySem.W.fnOf name qual params body scope dV kV doc pm an cdv ct) ps p := by
  refine ⟨hmp, fun A outer s H args us vs Q E room hgd e0 hb r hsp => ?_⟩
  obtain ⟨pvs, M, hlen, rp, rh, hp⟩ := hsp
  have hlv : vs.length = ps.length := by rw [← rp.length]; exact hlen
  have inK : K.In s.heap := e0.mod.kin.keeps fun b o e => (e0.bs b o e).1
  have nolim : s.heap.NoLimit := e0.mod.nolimit.keeps fun b o e => (e0.bs b o e).1
  have kinds : ∀ y ∈ ps.zip us, scope.names.lookup y.1 = some .local ∨ (scope.names.lookup y.1 = some .cell ∧ ((cellsFrom (s.heap.objs.size + 1) scope.names []).lookup y.1).isSome = true) := by
    rintro ⟨n, v⟩ hy
    rcases S.par n (List.of_mem_zip hy).1 with q | q
    · left; exact q
    · right; exact ⟨q, PySem.W.cellsFrom_some _ _ _ (.inl q)⟩
  refine codeAny_call_function room.depth (inK _ _ lk) rfl S.co S.gen rfl (PySem.W.codeRec_of inK hcd) (hb _ _ _ _ ?_)
  refine wpAny_newFunctionEnv_cells S.kind kinds fun env he s1 x => ?_
  subst he
  refine ⟨nolim.keeps x.toInCall.keep, codeAny_func ?_⟩
  have I : Inv (XOf P w K mg base N qual scope f cdv A outer s H E) [] (L2.start N vs) H s1 := inv_start S room.hd e0 hlv r x
  have hB := hbody A outer s H E (room.deeper _) hgd
  have hq : upS K (WOf E) wb { nx := fun _ H' => Q .non H', rt := Q } (L2.start N vs) H := by
    refine ⟨EDef (DnX K M H E), startP N.length pvs, M, ⟨startP_rep rp, rh, fun C od fs ps' σ' M' H' S' _ r2 r3 q => q od H' S' r2 r3⟩, ?_⟩
    refine hB.mono.app (spec pvs M _ _ hlen hp) ⟨fun s' M' ⟨M'', hle, q⟩ σ' H' S' rh' rs' => q .non H' (S'.le hle) (rh'.le hle) (by rw [Rep]), fun v M' ⟨M'', hle, q⟩ u H' S' rh' ru => q u H' (S'.le hle) (rh'.le hle) ru, fun _ _ z => z.elim, fun _ _ z => z.elim⟩
  refine wpAny_mono (hB.run.run [] s1 (L2.start N vs) H _ I hq) (fun fl s' hs => ?_) fun e s' hs => hs
  cases fl with
  | ret u =>
    obtain ⟨v, σ', H', J, rv, q⟩ := hs
    exact ⟨v, H', J.os, J.bare, J.base, J.hok, rv, q⟩
  | next =>
    obtain ⟨σ', H', J, q⟩ := hs
    exact ⟨.non, H', J.os, J.bare, J.base, J.hok, rfl, q⟩
  | brk => exact hs.elim fun _ z => z.elim fun _ z => z.2.elim
  | cont => exact hs.elim fun _ z => z.elim fun _ z => z.2.elim
theorem fnG_ok {x qual : Str} {st : Stmt} {f : Addr} {fd : FuncData} {N ps : List Str} {k : Nat} {p : PSp} {wb : WS} (F : Fun K x qual st f fd) (S : FnScope N ps (defScope st)) (hmp : MonoP p)
    (hbody : ∀ (cdv : Value) (A : Around) (outer : List Env) (s : Shared) (H : Hp) (E : XK), Room k (A.deeper (envOfC qual (defScope st) s.heap.objs.size f cdv)) → A.guards = some [] → EB (XOf P w K mg base N qual (defScope st) f cdv A outer s H E) (WOf E) (defBody st) wb)
    (spec : ∀ (args : List PV) (M : PH) (Q : QE) (E : PX1), args.length = ps.length → p args M Q E → wb (EDef E) (DDef Q) (startP N.length args) M) : FnG P w K mg base (k + 1) f fd ps p := by
  obtain ⟨oc, od, kV, doc, pm, an, cdv, ct, osl, rfl, lk, hcd⟩ := F.ex
  exact fnG_of lk hcd S hmp (fun A outer s H E => hbody cdv A outer s H E) spec
end
/-! ## the call -/
def wCall (p : PSp) (a : WA) (dv : List PV) : WE := fun EP s M Q => a EP s M fun ps M1 => p (ps ++ dv) M1 Q fun C fs M' => EP C fs s M'
def wCallK (p : PSp) (n m : Nat) (a ka : WA) (g : List PV → List PV → List PV) : WE := fun EP s M Q => a EP s M fun ps M1 => ka EP s M1 fun ks M2 => ps.length = n ∧ ks.length = m ∧ p (g ps ks) M2 Q fun C fs M' => EP C fs s M'
section
variable {X : Cx} {W : WX} {k : Nat} {f : Addr} {fd : FuncData} {ps : List Str} {p : PSp}
theorem run_fnG {ds : List Value} {dvs : List V} {pins : List (Addr × Obj)} {σ : St} {H : Hp} {s : Shared} {Q : VK} {us : List Value} {vs : List V} (F : FnG X.prog X.w X.K X.mg X.base k f fd ps p) (hr : Room k X.A) (hgd : X.A.guards = some []) (tk : Takes X W) (hb : Binds X.K fd ps ds) (hd : Vals dvs ds)
    (I : Inv X pins σ H s) (r : Vals vs us) (h : spOf X.K ps.length p (vs ++ dvs) H Q fun c d H' => W c d σ H') : wpAny (model X.prog X.w) X.A (call (.ref f) us) (EP X pins σ Q) X.xe s := by
  have r2 : Vals (vs ++ dvs) (us ++ ds) := r.append hd
  have hl : (us ++ ds).length = ps.length := by
    obtain ⟨pv, M, e, rp, _⟩ := h
    rw [← r2.length, ← rp.length]; exact e
  refine wpAny_call (codeAny_mono (F.run X.A X.stack s H ⟨us, []⟩ (us ++ ds) (vs ++ dvs) Q _ hr hgd I.env0 (hb s us I.kIn hl) r2 h) fun res s' hq => ?_)
  match res, hq with
  | .error e, hq => exact tk _ _ (XE.of_call I (fun _ _ _ z => z) hq)
  | .ok (.ret u), hq => exact I.after hq
  | .ok .next, hq => exact hq.elim
  | .ok .brk, hq => exact hq.elim
  | .ok .cont, hq => exact hq.elim
theorem run_fnKG {n : Nat} {ks : List Str} {g : List Value → List Value → List Value} {gV : List V → List V → List V} {pins : List (Addr × Obj)} {σ : St} {H : Hp} {s : Shared} {Q : VK} {us ws : List Value} {vs zs : List V} (F : FnG X.prog X.w X.K X.mg X.base k f fd ps p) (hr : Room k X.A) (hgd : X.A.guards = some []) (tk : Takes X W) (hb : KBn X.K fd ps n ks g gV)
    (I : Inv X pins σ H s) (r : Vals vs us) (rz : Vals zs ws) (l1 : vs.length = n) (l2 : zs.length = ks.length) (h : spOf X.K ps.length p (gV vs zs) H Q fun c d H' => W c d σ H') : wpAny (model X.prog X.w) X.A (call (.ref f) us (ks.zip ws)) (EP X pins σ Q) X.xe s := by
  have r2 : Vals (gV vs zs) (g us ws) := hb.rel r rz
  refine wpAny_call (codeAny_mono (F.run X.A X.stack s H ⟨us, ks.zip ws⟩ (g us ws) (gV vs zs) Q _ hr hgd I.env0 (hb.to s us ws I.kIn (by rw [← r.length]; exact l1) (by rw [← rz.length]; exact l2)) r2 h) fun res s' hq => ?_)
  match res, hq with
  | .error e, hq => exact tk _ _ (XE.of_call I (fun _ _ _ z => z) hq)
  | .ok (.ret u), hq => exact I.after hq
  | .ok .next, hq => exact hq.elim
  | .ok .brk, hq => exact hq.elim
  | .ok .cont, hq => exact hq.elim
variable {x : Str} {pp pos : Pos} {e : Expr} {es : List Expr} {wa : WA}
/-- from plain arguments to the promise -/
theorem Cur.sp {K : Fg} {EP : PX} {s : PSt} {M0 M : PH} {σ : St} {H0 H : Hp} (c : Cur K W EP s M σ H) (S : Step M0 H0 M H) (hm : MonoP p) {args : List PV} {vs : List V} {n : Nat} (hn : args.length = n) (r : Reps K H args vs) {Q : VK}
    (h : p args M (Dn K M0 H0 Q) fun C fs M' => EP C fs s M') : spOf K n p vs H Q fun cl d H' => W cl d σ H' :=
  ⟨args, M, hn, r, c.rh, hm _ _ _ _ _ _ (fun v M' q => q.on S) (fun C fs M' q od H' S' rh' ex => c.tk C od fs s σ M' H' S' (c.rs.tk (S'.tk c.rh)) rh' ex q) h⟩
def LenP (p : PSp) (n : Nat) : Prop := ∀ ps M Q E, p ps M Q E → ps.length = n
theorem mono_call (hm : MonoP p) (ha : MonoA wa) {dv : List PV} : MonoE (wCall p wa dv) := fun EP s M Q Q' k h => ha _ _ _ _ _ (fun ps M1 z => hm _ _ _ _ _ _ (fun v M' q => k _ _ q) (fun _ _ _ q => q) z) h
theorem ee_call {dv : List PV} {dvs : List V} {ds : List Value} (F : FnG X.prog X.w X.K X.mg X.base k f fd ps p) (hlen : LenP p ps.length) (hr : Room k X.A) (hgd : X.A.guards = some []) (tk : Takes X W) (hm : X.mg x = some (.ref f)) (hk : PySem.W.keepIn X.K (.ref f) = true) (hb : Binds X.K fd ps ds) (hd : Vals dvs ds) (hdv : ∀ H, Reps X.K H dv dvs)
    (ha : EA X W (e :: es) wa) (hg : Gl X x := by rfl) (hdb : (x == ("__debug__" : Str)) = false := by decide) (he : starEach (e :: es) X.env = (false, eval e X.env) :: starEach es X.env := by rfl) (hpl : (backTo pos (starEach es X.env)).any (·.1) = false := by rfl) :
    EE X W (.Call (.Name x pp) (e :: es) [] pos) (wCall p wa dv) := by
  refine ⟨mono_call F.mono ha.mono, ⟨fun pins s σ H Q I h => ?_⟩⟩
  obtain ⟨EP, sp, M, c, h⟩ := h
  refine wpAny_Call_Name_kw (ld_glob I hg hm ?_ hdb)
  have hA : upA X.K W wa σ H fun vs H1 => spOf X.K ps.length p (vs ++ dvs) H1 Q fun cl d H' => W cl d σ H' := by
    refine c.useA ha.mono h fun qs M1 vs H1 h1 S1 c1 r1 => ?_
    exact c1.sp S1 F.mono (hlen _ _ _ _ h1) (r1.append (hdv H1)) h1
  exact PySem.W.callWith_K (h₀ := X.base) I.ok.mod.kin hk (thn (ha.run.run pos pins s σ H _ I hA) fun us s1 ⟨vs, H1, I1, r, q⟩ => ⟨I1.kIn, run_fnG F hr hgd tk hb hd I1 r q⟩) he hpl
theorem ee_call0 {dv : List PV} {dvs : List V} {ds : List Value} (F : FnG X.prog X.w X.K X.mg X.base k f fd ps p) (hlen : LenP p ps.length) (hr : Room k X.A) (hgd : X.A.guards = some []) (tk : Takes X W) (hm : X.mg x = some (.ref f)) (hk : PySem.W.keepIn X.K (.ref f) = true) (hb : Binds X.K fd ps ds) (hd : Vals dvs ds) (hdv : ∀ H, Reps X.K H dv dvs)
    (hg : Gl X x := by rfl) (hdb : (x == ("__debug__" : Str)) = false := by decide) : EE X W (.Call (.Name x pp) [] [] pos) (wCall p wNil dv) := by
  refine ⟨mono_call F.mono (ea_nil (X := X) (W := W)).mono, ⟨fun pins s σ H Q I h => ?_⟩⟩
  obtain ⟨EP, sp, M, c, h⟩ := h
  refine wpAny_Call_Name_kw (ld_glob I hg hm ?_ hdb)
  refine PySem.W.callWith_K0 I.kIn hk (run_fnG (us := []) (vs := []) F hr hgd tk hb hd I .nil ?_)
  exact c.sp (.refl _ _) F.mono (hlen _ _ _ _ h) (hdv H) h
/-- f(a, .., k = b, ..) -/
structure EK (X : Cx) (W : WX) (kws : List Keyword) (w : WA) : Prop where
  mono : MonoA w
  run : PK X kws (upA X.K W w)
theorem ek_nil : EK X W [] wNil := ⟨fun _ _ _ _ _ k h => k _ _ h, ⟨fun pos pins s σ H Q I h => by
  obtain ⟨EP, sp, M, c, q⟩ := h
  exact pk_nil.run pos pins s σ H Q I (q [] H (.refl _ _) c.rh .nil)⟩⟩
theorem ek_cons {nm : Option Str} {kpos : Pos} {kws : List Keyword} {we : WE} {wr : WA} (ha : EE X W e we) (hr : EK X W kws wr) : EK X W (⟨nm, e, kpos⟩ :: kws) (wCons we wr) := by
  refine ⟨fun EP s M Q Q' k h => ha.mono _ _ _ _ _ (fun p M1 h1 => hr.mono _ _ _ _ _ (fun ps M2 h2 => k _ _ h2) h1) h, ⟨fun pos pins s σ H Q I h => (pk_cons ha.run hr.run).run pos pins s σ H Q I ?_⟩⟩
  obtain ⟨EP, s, M, c, h⟩ := h
  refine c.use ha.mono h fun p M1 v H1 h1 S1 c1 r1 => ?_
  refine c1.useA hr.mono h1 fun ps M2 vs H2 h2 S2 c2 r2 => ?_
  exact h2 (v :: vs) H2 (S1.trans S2) c2.rh (.cons (r1.tk (S2.tk c1.rh)) r2)
theorem ee_callK {n m : Nat} {ks : List Str} {kws : List Keyword} {wk : WA} {g : List Value → List Value → List Value} {gV : List V → List V → List V} {gP : List PV → List PV → List PV} (F : FnG X.prog X.w X.K X.mg X.base k f fd ps p) (hlen : LenP p ps.length) (hr : Room k X.A) (hgd : X.A.guards = some []) (tk : Takes X W) (hm : X.mg x = some (.ref f)) (hk : PySem.W.keepIn X.K (.ref f) = true) (hb : KBn X.K fd ps n ks g gV)
    (hgP : ∀ {H : Hp} {qs rs : List PV} {vs zs : List V}, Reps X.K H qs vs → Reps X.K H rs zs → Reps X.K H (gP qs rs) (gV vs zs)) (ha : EA X W (e :: es) wa) (hkw : EK X W kws wk)
    (hg : Gl X x := by rfl) (hall : (backToKw pos (keywordEach kws X.env)).all (·.1.isSome) = true := by rfl) (hks : (backToKw pos (keywordEach kws X.env)).filterMap (·.1) = ks := by rfl) (hdb : (x == ("__debug__" : Str)) = false := by decide) (he : starEach (e :: es) X.env = (false, eval e X.env) :: starEach es X.env := by rfl)
    (hpl : ((backTo pos (starEach (e :: es) X.env)).any (·.1) || (backToKw pos (keywordEach kws X.env)).any (·.1.isNone)) = false := by rfl) (hml : ks.length = m := by rfl) : EE X W (.Call (.Name x pp) (e :: es) kws pos) (wCallK p n m wa wk gP) := by
  subst hml
  refine ⟨fun EP s M Q Q' k h => ha.mono _ _ _ _ _ (fun ps M1 z => hkw.mono _ _ _ _ _ (fun qs M2 z2 => ⟨z2.1, z2.2.1, F.mono _ _ _ _ _ _ (fun v M' q => k _ _ q) (fun _ _ _ q => q) z2.2.2⟩) z) h, ⟨fun pins s σ H Q I h => ?_⟩⟩
  obtain ⟨EP, sp, M, c, h⟩ := h
  refine wpAny_Call_Name_kw (ld_glob I hg hm ?_ hdb)
  have hA : upA X.K W wa σ H fun vs H1 => upA X.K W wk σ H1 fun zs H2 => vs.length = n ∧ zs.length = ks.length ∧ spOf X.K ps.length p (gV vs zs) H2 Q fun cl d H' => W cl d σ H' := by
    refine c.useA ha.mono h fun qs M1 vs H1 h1 S1 c1 r1 => ?_
    refine c1.useA hkw.mono h1 fun rs M2 zs H2 h2 S2 c2 r2 => ?_
    exact ⟨by rw [← r1.length]; exact h2.1, by rw [← r2.length]; exact h2.2.1, c2.sp (S1.trans S2) F.mono (hlen _ _ _ _ h2.2.2) (hgP (r1.tk (S2.tk c1.rh)) r2) h2.2.2⟩
  refine PySem.W.callWith_KW (h₀ := X.base) I.ok.mod.kin hk hall (thn (ha.run.run pos pins s σ H _ I hA) fun us s1 ⟨vs, H1, I1, r, q⟩ => ?_) hpl he
  refine thn (hkw.run.run pos pins s1 σ H1 _ I1 q) fun ws s2 ⟨zs, H2, I2, rz, q2⟩ => ⟨I2.kIn, ?_⟩
  rw [hks]
  exact run_fnKG F hr hgd tk hb I2 r rz q2.1 q2.2.1 q2.2.2
/-- f(k = b, ..) -/
theorem ee_callK0 {m : Nat} {ks : List Str} {kws : List Keyword} {wk : WA} {g : List Value → List Value → List Value} {gV : List V → List V → List V} {gP : List PV → List PV → List PV} (F : FnG X.prog X.w X.K X.mg X.base k f fd ps p) (hlen : LenP p ps.length) (hr : Room k X.A) (hgd : X.A.guards = some []) (tk : Takes X W) (hm : X.mg x = some (.ref f)) (hk : PySem.W.keepIn X.K (.ref f) = true) (hb : KBn X.K fd ps 0 ks g gV)
    (hgP : ∀ {H : Hp} {qs rs : List PV} {vs zs : List V}, Reps X.K H qs vs → Reps X.K H rs zs → Reps X.K H (gP qs rs) (gV vs zs)) (hkw : EK X W kws wk)
    (hg : Gl X x := by rfl) (hall : (backToKw pos (keywordEach kws X.env)).all (·.1.isSome) = true := by rfl) (hks : (backToKw pos (keywordEach kws X.env)).filterMap (·.1) = ks := by rfl) (hdb : (x == ("__debug__" : Str)) = false := by decide)
    (hpl : ((backTo pos (starEach [] X.env)).any (·.1) || (backToKw pos (keywordEach kws X.env)).any (·.1.isNone)) = false := by rfl) (hml : ks.length = m := by rfl) : EE X W (.Call (.Name x pp) [] kws pos) (wCallK p 0 m wNil wk gP) := by
  subst hml
  refine ⟨fun EP s M Q Q' k h => hkw.mono _ _ _ _ _ (fun qs M2 z2 => ⟨z2.1, z2.2.1, F.mono _ _ _ _ _ _ (fun v M' q => k _ _ q) (fun _ _ _ q => q) z2.2.2⟩) h, ⟨fun pins s σ H Q I h => ?_⟩⟩
  obtain ⟨EP, sp, M, c, h⟩ := h
  refine wpAny_Call_Name_kw (ld_glob I hg hm ?_ hdb)
  have hA : upA X.K W wk σ H fun zs H2 => zs.length = ks.length ∧ spOf X.K ps.length p (gV [] zs) H2 Q fun cl d H' => W cl d σ H' := by
    refine c.useA hkw.mono h fun rs M2 zs H2 h2 S2 c2 r2 => ?_
    exact ⟨by rw [← r2.length]; exact h2.2.1, c2.sp S2 F.mono (hlen _ _ _ _ h2.2.2) (hgP .nil r2) h2.2.2⟩
  refine PySem.W.callWith_KW0 (h₀ := X.base) I.ok.mod.kin hk hall (thn (hkw.run.run pos pins s σ H _ I hA) fun ws s2 ⟨zs, H2, I2, rz, q2⟩ => ⟨I2.kIn, ?_⟩) hpl
  rw [hks]
  exact run_fnKG (us := []) (vs := []) F hr hgd tk hb I2 .nil rz rfl q2.1 q2.2
end
/-! how keywords bind, where there are no defaults -/
theorem kbn_of {K : Fg} {x qual : Str} {st : Stmt} {f : Addr} {fd : FuncData} {ps ks : List Str} {n : Nat} (F : Fun K x qual st f fd) (g : {α : Type} → List α → List α → List α)
    (h : ∀ (kV doc pm : Value) (an : Option Addr) (cdv ct : Value) (us ws : List Value), us.length = n → ws.length = ks.length → bindArgs (PySem.W.fnOf x qual (defArgs st) (defBody st) (defScope st) .none kV doc pm an cdv ct) ⟨us, ks.zip ws⟩ = pure (ps.zip (g us ws)))
    (hr : ∀ {vs : List V} {us : List Value} {zs : List V} {ws : List Value}, Vals vs us → Vals zs ws → Vals (g vs zs) (g us ws)) : KBn K fd ps n ks (fun us ws => g us ws) (fun vs zs => g vs zs) := by
  obtain ⟨oc, od, kV, doc, pm, an, cdv, ct, osl, rfl, lk, hcd⟩ := F.ex
  exact ⟨fun s us ws _ h1 h2 => .of_eq (h kV doc pm an cdv ct us ws h1 h2), hr⟩
end PL
set_option autoImplicit false
namespace PL
open PySem PySem.Spec L2
open PyProof.Rows hiding St

/-! ## plain data -/
mutual
def dat : PV → PyData
  | .non => .none
  | .bl b => .bool b
  | .int i => .int i
  | .str x => .str x
  | .tup xs => .tuple (dats xs)
  | .ref _ => .none
  | .ty _ => .none
def dats : List PV → List PyData
  | [] => []
  | x :: xs => dat x :: dats xs
end
mutual
/-- no address within -/
def pur : PV → Bool
  | .ref _ => false
  | .ty _ => false
  | .tup xs => purs xs
  | _ => true
def purs : List PV → Bool
  | [] => true
  | x :: xs => pur x && purs xs
end
mutual
theorem dp_of {K : Fg} {H : Hp} : ∀ {p : PV} {v : V}, pur p = true → Rep K H p v → Dp K H v (dat p)
  | .non, _, _, h => by rw [Rep] at h; subst h; rw [dat]; exact .non
  | .bl b, _, _, h => by rw [Rep] at h; subst h; rw [dat]; exact .bl b
  | .int b, _, _, h => by rw [Rep] at h; subst h; rw [dat]; exact .int b
  | .str b, _, _, h => by rw [Rep] at h; subst h; rw [dat]; exact .str b
  | .ref _, _, z, _ => by rw [pur] at z; cases z
  | .ty _, _, z, _ => by rw [pur] at z; cases z
  | .tup xs, _, z, h => by
    rw [Rep] at h
    obtain ⟨a, vs, rfl, hs, r⟩ := h
    rw [pur] at z
    rw [dat]
    exact .tup hs (dps_of z r)
theorem dps_of {K : Fg} {H : Hp} : ∀ {ps : List PV} {vs : List V}, purs ps = true → Reps K H ps vs → DpAll K H vs (dats ps)
  | [], _, _, h => by rw [Reps] at h; subst h; rw [dats]; exact .nil
  | x :: xs, _, z, h => by
    rw [Reps] at h
    obtain ⟨v, r, rfl, h1, h2⟩ := h
    rw [purs, Bool.and_eq_true] at z
    rw [dats]
    exact .cons (dp_of z.1 h1) (dps_of z.2 h2)
end
/-- what data a value is: no address within, or a list of such -/
def datM (M : PH) (p : PV) : Option PyData := match p with
  | .ref a => match M a with
    | some (.lst xs) => if purs xs = true then some (.list (dats xs)) else none
    | _ => none
  | p => if pur p = true then some (dat p) else none
theorem datM_dp {K : Fg} {H : Hp} {M : PH} {p : PV} {v : V} {d : PyData} (rh : RepH K H M) (r : Rep K H p v) (h : datM M p = some d) : Dp K H v d := by
  cases p with
  | ref a =>
    rw [Rep] at r; subst r
    unfold datM at h
    dsimp only at h
    split at h
    · rename_i xs e
      split at h
      · rename_i hp
        cases h
        obtain ⟨vs, hv, rr⟩ := rh a _ e
        exact .lst (SqL.of hv) (dps_of hp rr)
      · cases h
    · cases h
  | ty n => simp [datM, pur] at h
  | non => simp [datM, pur] at h; subst h; exact dp_of rfl r
  | bl b => simp [datM, pur] at h; subst h; exact dp_of rfl r
  | int b => simp [datM, pur] at h; subst h; exact dp_of rfl r
  | str b => simp [datM, pur] at h; subst h; exact dp_of rfl r
  | tup xs =>
    unfold datM at h
    dsimp only at h
    split at h
    · rename_i hp; cases h; exact dp_of hp r
    · cases h
/-- small enough to be looked at -/
def shp (d : PyData) : Bool := SeqAt.shaped d

/-! ## two-place operators -/
theorem lift_or {K : Fg} {r : PR2} {r0 r1 : R2} (h : Lift2 K r r0) : Lift2 K r (fun x y H Q => r0 x y H Q ∨ r1 x y H Q) := fun rh rx ry q => .inl (h rh rx ry q)
def rAdd : PR2 := fun x y M Q => match x, y with
  | .int i, .int j => Q (.int (i + j)) M
  | .str i, .str j => i.length + j.length ≤ sizeLine ∧ Q (.str (i ++ j)) M
  | .tup xs, .tup ys => xs.length + ys.length ≤ sizeLine ∧ Q (.tup (xs ++ ys)) M
  | .ref a, .ref b => ∃ xs ys, M a = some (.lst xs) ∧ M b = some (.lst ys) ∧ xs.length + ys.length ≤ sizeLine ∧ ∀ D, ¬ Wr M D → Q (.ref D) (pupd M D (.lst (xs ++ ys)))
  | _, _ => False
def r0Add (K : Fg) : R2 := fun x y H Q => (((rI0 fun i j => .int (i + j)) x y H Q ∨ ∃ i j, x = .str i ∧ y = .str j ∧ i.length + j.length ≤ sizeLine ∧ Q (.str (i ++ j)) H) ∨ rCatA K x y H Q) ∨ rCat x y H Q
theorem op_add' {X : Cx} : OpR X (binaryOp .Add) (r0Add X.K) := OpR.or (OpR.or (OpR.or op_add op_add_str) op_catA) op_cat
theorem notup_none {H : Hp} {a : Addr} (h : H a = none) : (∀ xs, H a ≠ some (.tup xs)) ∧ ∀ o xs, H a ≠ some (.frz o xs) := by
  rw [h]; exact ⟨fun _ z => (by cases z), fun _ _ z => (by cases z)⟩
/-- a new list is laid -/
theorem dn_newlist {K : Fg} {M : PH} {H : Hp} {Q : VK} {xs : List PV} {vs : List V} (rh : RepH K H M) (r : Reps K H xs vs) (h : ∀ D, ¬ Wr M D → Dn K M H Q (.ref D) (pupd M D (.lst xs))) : ∀ p, H p = none → Q (.ref p) (upd H p (.lst vs)) := fun p hp =>
  h p (rh.free hp) (.ref p) _ (Step.new hp) (rh.upd_both (notup_none hp) ⟨vs, upd_same, r.tk (tk_new hp)⟩) (by rw [Rep])
theorem dn_newtup {K : Fg} {M : PH} {H : Hp} {Q : VK} {xs : List PV} {vs : List V} (rh : RepH K H M) (r : Reps K H xs vs) (h : Dn K M H Q (.tup xs) M) : ∀ p, H p = none → Q (.ref p) (upd H p (.tup vs)) := fun p hp =>
  h (.ref p) _ (Step.hidden hp) (rh.upd_free hp) (by rw [Rep]; exact ⟨p, vs, rfl, SqT.of upd_same, r.tk (tk_new hp)⟩)
theorem dn_here {K : Fg} {M : PH} {H : Hp} {Q : VK} {p : PV} {v : V} (rh : RepH K H M) (r : Rep K H p v) (h : Dn K M H Q p M) : Q v H := h v H (.refl _ _) rh r
theorem mono_add : Mono2 rAdd := by
  intro x y M Q Q' k h
  unfold rAdd at h ⊢
  split at h
  · exact k _ _ h
  · exact ⟨h.1, k _ _ h.2⟩
  · exact ⟨h.1, k _ _ h.2⟩
  · obtain ⟨xs, ys, a, b, c, d⟩ := h
    exact ⟨xs, ys, a, b, c, fun D n => k _ _ (d D n)⟩
  · exact h
theorem Reps.nil_iff {K : Fg} {H : Hp} {ps : List PV} {vs : List V} (r : Reps K H ps vs) : vs = [] ↔ ps = [] := by
  have := r.length
  cases ps <;> cases vs <;> simp_all
theorem lift_add {K : Fg} : Lift2 K rAdd (r0Add K) := by
  intro M H x y v u Q rh rx ry h
  unfold rAdd at h
  split at h
  · rw [Rep] at rx ry; exact .inl (.inl (.inl ⟨_, _, rx, ry, dn_here rh (by rw [Rep]) h⟩))
  · rw [Rep] at rx ry; exact .inl (.inl (.inr ⟨_, _, rx, ry, h.1, dn_here rh (by rw [Rep]) h.2⟩))
  · rename_i xs ys
    have rx0 := rx
    have ry0 := ry
    rw [Rep] at rx ry
    obtain ⟨a, vs, rfl, hs, r1⟩ := rx
    obtain ⟨b, us, rfl, ht, r2⟩ := ry
    refine .inl (.inr ⟨a, b, vs, us, rfl, rfl, hs, ht, by rw [← r1.length, ← r2.length]; exact h.1, fun e => ?_, fun _ e => ?_, fun _ _ => dn_newtup rh (r1.append r2) h.2⟩)
    · have e1 : xs = [] := r1.nil_iff.mp e
      subst e1
      exact h.2 _ H (.refl _ _) rh ry0
    · have e1 : ys = [] := r2.nil_iff.mp e
      subst e1
      exact h.2 _ H (.refl _ _) rh (by rw [List.append_nil]; exact rx0)
  · rw [Rep] at rx ry
    obtain ⟨xs, ys, e1, e2, hz, q⟩ := h
    obtain ⟨vs, hv, r1⟩ := rh _ _ e1
    obtain ⟨us, hu, r2⟩ := rh _ _ e2
    exact .inr ⟨_, _, vs, us, rx, ry, hv, hu, by rw [← r1.length, ← r2.length]; exact hz, dn_newlist rh (r1.append r2) q⟩
  · exact h.elim
/-- ints -/
def rInt (C : Int → Int → Prop) (g : Int → Int → PV) : PR2 := fun x y M Q => match x, y with
  | .int i, .int j => C i j ∧ Q (g i j) M
  | _, _ => False
theorem mono_int {C : Int → Int → Prop} {g : Int → Int → PV} : Mono2 (rInt C g) := by
  intro x y M Q Q' k h
  unfold rInt at h ⊢
  split at h
  · exact ⟨h.1, k _ _ h.2⟩
  · exact h
theorem lift_int {K : Fg} {C : Int → Int → Prop} {g : Int → Int → PV} {g0 : Int → Int → V} (e : ∀ H i j, Rep K H (g i j) (g0 i j)) : Lift2 K (rInt C g) (rI C g0) := by
  intro M H x y v u Q rh rx ry h
  unfold rInt at h
  split at h
  · rw [Rep] at rx ry; exact ⟨_, _, rx, ry, h.1, dn_here rh (e _ _ _) h.2⟩
  · exact h.elim
theorem lift_int0 {K : Fg} {g : Int → Int → PV} {g0 : Int → Int → V} (e : ∀ H i j, Rep K H (g i j) (g0 i j)) : Lift2 K (rInt (fun _ _ => True) g) (rI0 g0) := by
  intro M H x y v u Q rh rx ry h
  unfold rInt at h
  split at h
  · rw [Rep] at rx ry; exact ⟨_, _, rx, ry, dn_here rh (e _ _ _) h.2⟩
  · exact h.elim
def rSub : PR2 := rInt (fun _ _ => True) fun i j => .int (i - j)
theorem lift_sub {K : Fg} : Lift2 K rSub (rI0 fun i j => .int (i - j)) := lift_int0 fun _ _ _ => by rw [Rep]
def rMod : PR2 := rInt (fun _ j => j ≠ 0) fun i j => .int (i.fmod j)
theorem lift_mod {K : Fg} : Lift2 K rMod (rI (fun _ j => j ≠ 0) fun i j => .int (i.fmod j)) := lift_int fun _ _ _ => by rw [Rep]
def rFdiv : PR2 := rInt CDivN fun i j => .int (i.fdiv j)
theorem lift_fdiv {K : Fg} : Lift2 K rFdiv (rI CDivN fun i j => .int (i.fdiv j)) := lift_int fun _ _ _ => by rw [Rep]
def rPow : PR2 := rInt CPow fun i j => .int (i ^ j.toNat)
theorem lift_pow {K : Fg} : Lift2 K rPow (rI CPow fun i j => .int (i ^ j.toNat)) := lift_int fun _ _ _ => by rw [Rep]
/-! multiplication: ints, a tuple by an int -/
theorem tuple_mul1 (l : Addr) (items : Array Value) (n : Nat) (dd : Option Addr) (sl : Array (Option Value)) (u : Tok) (hi : items.isEmpty = false) :
    Meets (Builtin.«tuple.__mul__» ⟨[.ref l, .int 1 u], []⟩) (fun _ R s => s.heap.get? l = some { cls := .type "tuple", dict := dd, data := .seq items n, slots := sl } ∧ R (.ok (.ret (Value.ref l))) s) :=
  .of_wp fun prog w A R s h => by
    obtain ⟨hp, g, d, tk, os⟩ := s
    obtain ⟨hl, h⟩ := h
    have f1 := AutoSeq1.idx_int
    wp_walk using AutoSeq1.wpAny_loadPart' hl
    repeat (first
      | (refine wpAny_ite_true (decide_eq_true (by simp)) ?_; wp_walk using AutoSeq1.wpAny_loadPart' hl)
      | (refine wpAny_ite_false (decide_eq_false (by simp)) ?_; wp_walk using AutoSeq1.wpAny_loadPart' hl))
    exact ⟨_, rfl, h⟩
end PL
set_option autoImplicit false
namespace PL
open PySem PySem.Spec L2
open PyProof.Rows hiding St
section
variable {X : Cx}
/-- t * 1 -/
def r0Rep1 (K : Fg) : R2 := fun x y H Q => ∃ l xs, x = .ref l ∧ y = .int 1 ∧ SqT K H l xs ∧ xs ≠ [] ∧ Q (.ref l) H
theorem op_rep1 : OpR X (binaryOp .Mult) (r0Rep1 X.K) := by
  intro pins s σ H x y v u Q I rx ry h
  obtain ⟨l, xs, rfl, rfl, hT, hne, q⟩ := h
  cases rx
  obtain ⟨t, rfl⟩ := ry
  obtain ⟨its, r, ⟨⟨cls, dd, data, sl⟩, ho, hc, n, hd⟩, hs⟩ := I.tuple hT
  simp only at hc hd
  subst hc hd
  have hi : its.toArray.isEmpty = false := by
    cases its with
    | nil => exact absurd r.length (by cases xs <;> simp_all)
    | cons a b => rfl
  refine wpAny_binaryOp_repeat_ref (T := "tuple") (U := "int") (by decide) ⟨_, ho, rfl⟩ (fun s' => typeIs_int s' 1 t) noFill_tuple_mul F.fills_int_mul F.slot_int_rmul repeat_tuple F.slot_int_index.lookup
    (call_meets F.slot_int_rmul (typeIs_int s 1 t) F.entry_int_rmul (F.args_int_rmul_2 _ _) (int_rmul_tuple 1 t l its.toArray n dd sl)
      ⟨ho, rfl, ⟨_, ho, rfl⟩, call_meets F.slot_tuple_mul ⟨_, ho, rfl⟩ F.entry_tuple_mul (F.args_tuple_mul_2 _ _) (tuple_mul1 l its.toArray n dd sl t hi) ⟨ho, ?_⟩⟩)
  exact ⟨.ref l, H, I, rfl, q⟩
end
def rMul : PR2 := fun x y M Q => match x, y with
  | .int i, .int j => CMul i j ∧ Q (.int (i * j)) M
  | .tup xs, .int k => xs ≠ [] ∧ 1 ≤ k ∧ k ≤ 1000 ∧ xs.length ≤ 1000 ∧ Q (.tup (List.replicate k.toNat xs).flatten) M
  | _, _ => False
def r0Mul (K : Fg) : R2 := fun x y H Q => ((rI CMul fun i j => .int (i * j)) x y H Q ∨ rRepT K x y H Q) ∨ r0Rep1 K x y H Q
theorem op_mul' {X : Cx} : OpR X (binaryOp .Mult) (r0Mul X.K) := OpR.or (OpR.or op_mul op_repT) op_rep1
theorem mono_mul : Mono2 rMul := by
  intro x y M Q Q' k h
  unfold rMul at h ⊢
  split at h
  · exact ⟨h.1, k _ _ h.2⟩
  · exact ⟨h.1, h.2.1, h.2.2.1, h.2.2.2.1, k _ _ h.2.2.2.2⟩
  · exact h
theorem lift_mul {K : Fg} : Lift2 K rMul (r0Mul K) := by
  intro M H x y v u Q rh rx ry h
  unfold rMul at h
  split at h
  · rw [Rep] at rx ry; exact .inl (.inl ⟨_, _, rx, ry, h.1, dn_here rh (by rw [Rep]) h.2⟩)
  · rename_i xs k
    have rx0 := rx
    rw [Rep] at rx
    rw [Rep] at ry
    obtain ⟨a, vs, rfl, hs, r1⟩ := rx
    subst ry
    obtain ⟨h1, h2, h3, h4, q⟩ := h
    have hne : vs ≠ [] := fun e => h1 (r1.nil_iff.mp e)
    by_cases hk : k = 1
    · subst hk
      refine .inr ⟨a, vs, rfl, rfl, hs, hne, ?_⟩
      have e : (List.replicate (1 : Int).toNat xs).flatten = xs := by simp
      rw [e] at q
      exact dn_here rh rx0 q
    · exact .inl (.inr ⟨a, k, vs, rfl, rfl, hs, hne, by omega, h3, by rw [← r1.length]; exact h4, dn_newtup rh (r1.rep k.toNat) q⟩)
  · exact h.elim
/-! ## comparisons -/
def rLt : PR2 := fun x y M Q => match x, y with
  | .int i, .int j => Q (.bl (decide (i < j))) M
  | .str i, .str j => Q (.bl (decide (i.cps.toList < j.cps.toList))) M
  | _, _ => False
def r0Lt : R2 := fun x y H Q => (rI0 fun i j => .bl (decide (i < j))) x y H Q ∨ ∃ i j, x = .str i ∧ y = .str j ∧ Q (.bl (decide (i.cps.toList < j.cps.toList))) H
theorem op_lt' {X : Cx} : OpR X (compareOp .Lt) r0Lt := OpR.or op_lt op_lt_str
theorem mono_lt : Mono2 rLt := by
  intro x y M Q Q' k h
  unfold rLt at h ⊢
  split at h
  · exact k _ _ h
  · exact k _ _ h
  · exact h
theorem lift_lt {K : Fg} : Lift2 K rLt r0Lt := by
  intro M H x y v u Q rh rx ry h
  unfold rLt at h
  split at h
  · rw [Rep] at rx ry; exact .inl ⟨_, _, rx, ry, dn_here rh (by rw [Rep]) h⟩
  · rw [Rep] at rx ry; exact .inr ⟨_, _, rx, ry, dn_here rh (by rw [Rep]) h⟩
  · exact h.elim
def rLe : PR2 := rInt (fun _ _ => True) fun i j => .bl (decide (i ≤ j))
theorem lift_le {K : Fg} : Lift2 K rLe (rI0 fun i j => .bl (decide (i ≤ j))) := lift_int0 fun _ _ _ => by rw [Rep]
def rGt : PR2 := rInt (fun _ _ => True) fun i j => .bl (decide (j < i))
theorem lift_gt {K : Fg} : Lift2 K rGt (rI0 fun i j => .bl (decide (j < i))) := lift_int0 fun _ _ _ => by rw [Rep]
def rGe : PR2 := rInt (fun _ _ => True) fun i j => .bl (decide (j ≤ i))
theorem lift_ge {K : Fg} : Lift2 K rGe (rI0 fun i j => .bl (decide (j ≤ i))) := lift_int0 fun _ _ _ => by rw [Rep]
/-- == and != of data -/
def rEq : PR2 := fun x y M Q => match x, y with
  | .str i, .str j => Q (.bl (decide (i = j))) M
  | x, y => match datM M x, datM M y with
    | some d, some e => shp d = true ∧ shp e = true ∧ Q (.bl (PyData.eqv d e)) M
    | _, _ => False
def rNe : PR2 := fun x y M Q => match x, y with
  | .str i, .str j => Q (.bl (!decide (i = j))) M
  | x, y => match datM M x, datM M y with
    | some d, some e => shp d = true ∧ shp e = true ∧ Q (.bl (!PyData.eqv d e)) M
    | _, _ => False
theorem mono_eq : Mono2 rEq := by
  intro x y M Q Q' k h
  unfold rEq at h ⊢
  split at h
  · exact k _ _ h
  · split at h
    · exact ⟨h.1, h.2.1, k _ _ h.2.2⟩
    · exact h
theorem mono_ne : Mono2 rNe := by
  intro x y M Q Q' k h
  unfold rNe at h ⊢
  split at h
  · exact k _ _ h
  · split at h
    · exact ⟨h.1, h.2.1, k _ _ h.2.2⟩
    · exact h
def r0Eq (K : Fg) : R2 := fun x y H Q => rEqD K x y H Q ∨ L2.rEq x y H Q
def r0Ne (K : Fg) : R2 := fun x y H Q => rNeD K x y H Q ∨ L2.rNe x y H Q
theorem op_eq' {X : Cx} (hu : X.A.units + 64 < cLine) : OpR X (compareOp .Eq) (r0Eq X.K) := OpR.or (op_eqD hu) op_eq
theorem op_ne' {X : Cx} (hu : X.A.units + 64 < cLine) : OpR X (compareOp .NotEq) (r0Ne X.K) := OpR.or (op_neD hu) op_ne
theorem lift_eq {K : Fg} : Lift2 K rEq (r0Eq K) := by
  intro M H x y v u Q rh rx ry h
  unfold rEq at h
  split at h
  · rw [Rep] at rx
    rw [Rep] at ry
    subst rx ry
    refine .inr ⟨rfl, ?_⟩
    have e : ∀ i j : Str, decide (V.str i = V.str j) = decide (i = j) := fun i j => by simp
    rw [e]
    exact dn_here rh (by rw [Rep]) h
  · split at h
    · rename_i d e e1 e2
      exact .inl ⟨d, e, datM_dp rh rx e1, datM_dp rh ry e2, h.1, h.2.1, dn_here rh (by rw [Rep]) h.2.2⟩
    · exact h.elim
theorem lift_ne {K : Fg} : Lift2 K rNe (r0Ne K) := by
  intro M H x y v u Q rh rx ry h
  unfold rNe at h
  split at h
  · rw [Rep] at rx
    rw [Rep] at ry
    subst rx ry
    refine .inr ⟨rfl, ?_⟩
    have e : ∀ i j : Str, decide (V.str i = V.str j) = decide (i = j) := fun i j => by simp
    rw [e]
    exact dn_here rh (by rw [Rep]) h
  · split at h
    · rename_i d e e1 e2
      exact .inl ⟨d, e, datM_dp rh rx e1, datM_dp rh ry e2, h.1, h.2.1, dn_here rh (by rw [Rep]) h.2.2⟩
    · exact h.elim
/-- is None, is not None -/
def rIs : PR2 := fun x y M Q => match y with
  | .non => match x with
    | .non => Q (.bl true) M
    | _ => Q (.bl false) M
  | _ => False
def rIsN : PR2 := fun x y M Q => match y with
  | .non => match x with
    | .non => Q (.bl false) M
    | _ => Q (.bl true) M
  | _ => False
theorem mono_is : Mono2 rIs := by
  intro x y M Q Q' k h
  cases y <;> try exact h
  cases x <;> exact k _ _ h
theorem mono_isN : Mono2 rIsN := by
  intro x y M Q Q' k h
  cases y <;> try exact h
  cases x <;> exact k _ _ h
theorem rep_non {K : Fg} {H : Hp} {p : PV} {v : V} (r : Rep K H p v) : v = .non ↔ p = .non := by
  cases p with
  | tup xs => rw [Rep] at r; obtain ⟨a, vs, rfl, _⟩ := r; simp
  | _ => rw [Rep] at r; subst r; simp
theorem lift_is {K : Fg} : Lift2 K rIs (fun x y H Q => y = .non ∧ Q (.bl (decide (x = .non))) H) := by
  intro M H x y v u Q rh rx ry h
  cases y <;> try exact h.elim
  rw [Rep] at ry
  refine ⟨ry, ?_⟩
  have e := rep_non rx
  cases x <;> (simp at e; simp only [e, decide_true, decide_false]; exact dn_here rh (by rw [Rep]) h)
theorem lift_isN {K : Fg} : Lift2 K rIsN (fun x y H Q => y = .non ∧ Q (.bl (!decide (x = .non))) H) := by
  intro M H x y v u Q rh rx ry h
  cases y <;> try exact h.elim
  rw [Rep] at ry
  refine ⟨ry, ?_⟩
  have e := rep_non rx
  cases x <;> (simp at e; simp only [e, decide_true, decide_false, Bool.not_true, Bool.not_false]; exact dn_here rh (by rw [Rep]) h)
/-! in, not in -/
section
variable {X : Cx}
def r0InT (K : Fg) (neg : Bool) : R2 := fun x y H Q => ∃ d ds, Dp K H x d ∧ Dp K H y (.tuple ds) ∧ SeqAt.shaped d = true ∧ SeqAt.shaped (.tuple ds) = true ∧ Q (.bl (if neg then !ds.any (fun z => PyData.eqv z d) else ds.any fun z => PyData.eqv z d)) H
theorem op_inT (hu : X.A.units + 65 < cLine) : OpR X (compareOp .In) (r0InT X.K false) := by
  intro pins s σ H x y v u Q I rx ry h
  obtain ⟨d, ds, hd, he, sd, se, q⟩ := h
  obtain ⟨as, r1⟩ := Dp.reads I d x v hd rx
  obtain ⟨bs, r2⟩ := Dp.reads I (.tuple ds) y u he ry
  exact SeqAt.in_tuple_reads r2 r1 (SeqAt.canLay_of_shaped se) (SeqAt.canLay_of_shaped sd) (room_in_shaped sd hu) ⟨.bl _, H, I, rfl, q⟩
theorem op_notInT (hu : X.A.units + 65 < cLine) : OpR X (compareOp .NotIn) (r0InT X.K true) := by
  intro pins s σ H x y v u Q I rx ry h
  obtain ⟨d, ds, hd, he, sd, se, q⟩ := h
  obtain ⟨as, r1⟩ := Dp.reads I d x v hd rx
  obtain ⟨bs, r2⟩ := Dp.reads I (.tuple ds) y u he ry
  exact SeqAt.notIn_tuple_reads r2 r1 (SeqAt.canLay_of_shaped se) (SeqAt.canLay_of_shaped sd) (room_in_shaped sd hu) ⟨.bl _, H, I, rfl, q⟩
end
/-- whether one text stands within another -/
def inStr (i j : Str) : Bool := !(Builtin.Str.occurrences j i 0 j.length 1).isEmpty
def dKeyOf : PV → Option Key
  | .int i => some (.inl i)
  | .str x => some (.inr x)
  | _ => none
def hasK {α : Type} (kvs : List (Key × α)) (k : Key) : Bool := kvs.any fun kv => decide (kv.1 = k)
def rInG (neg : Bool) : PR2 := fun x y M Q => match y with
  | .str j => match x with
    | .str i => Q (.bl (if neg then !inStr i j else inStr i j)) M
    | _ => False
  | .ref a => match M a with
    | some (.dK kvs) => match dKeyOf x with
      | some k => Q (.bl (if neg then !hasK kvs k else hasK kvs k)) M
      | none => False
    | _ => match datM M x, datM M y with
      | some d, some (.list ds) => shp d = true ∧ shp (.list ds) = true ∧ Q (.bl (if neg then !ds.any (fun z => PyData.eqv z d) else ds.any fun z => PyData.eqv z d)) M
      | _, _ => False
  | y => match datM M x, datM M y with
    | some d, some (.tuple ds) => shp d = true ∧ shp (.tuple ds) = true ∧ Q (.bl (if neg then !ds.any (fun z => PyData.eqv z d) else ds.any fun z => PyData.eqv z d)) M
    | _, _ => False
theorem mono_in {neg : Bool} : Mono2 (rInG neg) := by
  intro x y M Q Q' k h
  unfold rInG at h ⊢
  split at h
  · split at h
    · exact k _ _ h
    · exact h
  · split at h
    · split at h
      · exact k _ _ h
      · exact h
    · split at h
      · exact ⟨h.1, h.2.1, k _ _ h.2.2⟩
      · exact h
  · split at h
    · exact ⟨h.1, h.2.1, k _ _ h.2.2⟩
    · exact h
end PL
set_option autoImplicit false
namespace PL
open PySem PySem.Spec L2
open PyProof.Rows hiding St

/-! ## in, not in -/
def r0In (K : Fg) (neg : Bool) : R2 := fun x y H Q =>
  (((∃ i j, x = .str i ∧ y = .str j ∧ Q (.bl (if neg then !inStr i j else inStr i j)) H) ∨ (∃ a ov, y = .ref a ∧ DGet H a x ov ∧ Q (.bl (if neg then !ov.isSome else ov.isSome)) H)) ∨
    (∃ d ds, Dp K H x d ∧ Dp K H y (.list ds) ∧ SeqAt.shaped d = true ∧ SeqAt.shaped (.list ds) = true ∧ Q (.bl (if neg then !ds.any (fun z => PyData.eqv z d) else ds.any fun z => PyData.eqv z d)) H)) ∨ r0InT K neg x y H Q
section
variable {X : Cx}
theorem op_in' (hu : X.A.units + 65 < cLine) : OpR X (compareOp .In) (r0In X.K false) := by
  refine OpR.or (OpR.or (OpR.or op_in_str ?_) (op_inD hu)) (op_inT hu)
  intro pins s σ H x y v u Q I rx ry h
  obtain ⟨a, ov, rfl, g, q⟩ := h
  cases ry
  exact d_in (by omega) I g rx fun s' I' => ⟨.bl _, H, I', rfl, q⟩
theorem op_notin' (hu : X.A.units + 65 < cLine) : OpR X (compareOp .NotIn) (r0In X.K true) := by
  refine OpR.or (OpR.or (OpR.or op_notin_str ?_) (op_notInD hu)) (op_notInT hu)
  intro pins s σ H x y v u Q I rx ry h
  obtain ⟨a, ov, rfl, g, q⟩ := h
  cases ry
  exact d_notIn (by omega) I g rx fun s' I' => ⟨.bl _, H, I', rfl, q⟩
end
theorem rep_key {K : Fg} {H : Hp} {p : PV} {v : V} {k : Key} (r : Rep K H p v) (h : dKeyOf p = some k) : v = kV k := by
  cases p <;> simp [dKeyOf] at h <;> subst h <;> rw [Rep] at r <;> subst r <;> rfl
theorem valV_rep {K : Fg} {H : Hp} {kvs : List (Key × PV)} {vs : List (Key × V)} (r : RepK K H kvs vs) (k : Key) : (valV vs k).isSome = hasK kvs k := by
  have e : kvs.map (·.1) = vs.map (·.1) := r.1
  have h1 : ∀ {α : Type} (l : List (Key × α)), (l.any fun kv => decide (kv.1 = k)) = (l.map (·.1)).any fun x => decide (x = k) := fun l => by rw [List.any_map]; rfl
  rw [← valV_any, hasK, h1, h1, e]
theorem lift_in {K : Fg} {neg : Bool} : Lift2 K (rInG neg) (r0In K neg) := by
  intro M H x y v u Q rh rx ry h
  unfold rInG at h
  split at h
  · split at h
    · rw [Rep] at rx
      rw [Rep] at ry
      exact .inl (.inl (.inl ⟨_, _, rx, ry, dn_here rh (by rw [Rep]) h⟩))
    · exact h.elim
  · split at h
    · rename_i e
      split at h
      · rename_i k ek
        obtain ⟨vs, hv, rr⟩ := rh _ _ e
        rw [Rep] at ry
        have ev := rep_key rx ek
        refine .inl (.inl (.inr ⟨_, valV vs k, ry, by rw [ev]; exact DGet.k hv, ?_⟩))
        rw [valV_rep rr]
        exact dn_here rh (by rw [Rep]) h
      · exact h.elim
    · split at h
      · rename_i d ds e1 e2
        exact .inl (.inr ⟨d, ds, datM_dp rh rx e1, datM_dp rh ry e2, h.1, h.2.1, dn_here rh (by rw [Rep]) h.2.2⟩)
      · exact h.elim
  · split at h
    · rename_i d ds e1 e2
      exact .inr ⟨d, ds, datM_dp rh rx e1, datM_dp rh ry e2, h.1, h.2.1, dn_here rh (by rw [Rep]) h.2.2⟩
    · exact h.elim
/-! ## subscripts, slices -/
def listAt (M : PH) (a : Addr) : Option (List PV) := match M a with
  | some (.lst xs) => some xs
  | some (.rol xs) => some xs
  | _ => none
def seqAt (M : PH) (p : PV) : Option (List PV) := match p with
  | .tup xs => some xs
  | .ref a => listAt M a
  | _ => none
theorem listAt_rd {K : Fg} {H : Hp} {M : PH} {a : Addr} {xs : List PV} (rh : RepH K H M) (h : listAt M a = some xs) : ∃ vs, Reps K H xs vs ∧ SqL K H a vs := by
  unfold listAt at h
  split at h
  · rename_i e
    cases h
    obtain ⟨vs, hv, rr⟩ := rh _ _ e
    exact ⟨vs, rr, SqL.of hv⟩
  · rename_i e
    cases h
    obtain ⟨vs, hv, rr⟩ := rh _ _ e
    refine ⟨vs, rr, ?_⟩
    rcases hv with ⟨o, hv⟩ | hv
    · exact .inl (.inr ⟨o, hv⟩)
    · exact .inr hv
  · cases h
def rIxP : PR2 := fun x y M Q => match y with
  | .int i => match x with
    | .str z => z.length ≤ sizeLine ∧ match atI z.cps.toList i with
      | some c => Q (.str ⟨#[c]⟩) M
      | none => False
    | x => match seqAt M x with
      | some xs => match atI xs i with
        | some p => Q p M
        | none => False
      | none => False
  | _ => False
theorem mono_ix : Mono2 rIxP := by
  intro x y M Q Q' k h
  unfold rIxP at h ⊢
  split at h
  · split at h
    · refine ⟨h.1, ?_⟩
      have h2 := h.2
      split at h2
      · exact k _ _ h2
      · exact h2
    · split at h
      · rename_i e
        split at h
        · rename_i e2; exact k _ _ h
        · exact h
      · exact h
  · exact h
theorem seqAt_rd {K : Fg} {H : Hp} {M : PH} {p : PV} {v : V} {xs : List PV} (rh : RepH K H M) (r : Rep K H p v) (h : seqAt M p = some xs) : ∃ a vs, v = .ref a ∧ Reps K H xs vs ∧ (SqL K H a vs ∨ SqT K H a vs) := by
  unfold seqAt at h
  split at h
  · cases h
    rw [Rep] at r
    obtain ⟨a, vs, e, hs, rr⟩ := r
    exact ⟨a, vs, e, rr, .inr hs⟩
  · rw [Rep] at r
    obtain ⟨vs, rr, hs⟩ := listAt_rd rh h
    exact ⟨_, vs, r, rr, .inl hs⟩
  · cases h
theorem atI_rep {K : Fg} {H : Hp} {xs : List PV} {vs : List V} (r : Reps K H xs vs) {i : Int} {p : PV} (h : atI xs i = some p) : ∃ v, atI vs i = some v ∧ Rep K H p v := by
  unfold atI at h ⊢
  rw [← r.length]
  cases e : ixN xs.length i with
  | none => rw [e] at h; cases h
  | some j =>
    rw [e] at h
    exact r.get h
theorem lift_ix {K : Fg} : Lift2 K rIxP (rIx K) := by
  intro M H x y v u Q rh rx ry h
  unfold rIxP at h
  split at h
  · rw [Rep] at ry
    split at h
    · rw [Rep] at rx
      have h2 := h.2
      split at h2
      · rename_i e
        exact .inr (.inr ⟨_, _, _, rx, ry, h.1, e, dn_here rh (by rw [Rep]) h2⟩)
      · exact h2.elim
    · split at h
      · rename_i xs e
        split at h
        · rename_i p e2
          obtain ⟨a, vs, e3, rr, hs⟩ := seqAt_rd rh rx e
          obtain ⟨w, e4, rw'⟩ := atI_rep rr e2
          rcases hs with hs | hs
          · exact .inl ⟨a, vs, _, w, e3, ry, hs, e4, dn_here rh rw' h⟩
          · exact .inr (.inl ⟨a, vs, _, w, e3, ry, hs, e4, dn_here rh rw' h⟩)
        · exact h.elim
      · exact h.elim
  · exact h.elim
theorem ee_ix {X : Cx} {W : WX} {a b : Expr} {wa wb : WE} {pos : Pos} (ha : EE X W a wa) (hb : EE X W b wb) (hs : PlainIx b := by exact fun _ _ => rfl) : EE X W (.Subscript a b pos) (wOp rIxP wa wb) :=
  ⟨mono_op mono_ix ha.mono hb.mono, pe_weak (pe_ix ix_seq ha.run hb.run hs) (up_op mono_ix lift_ix ha.mono hb.mono)⟩
/-- a[lo:hi] -/
abbrev WO := PX → PSt → PH → (Option Int → PH → Prop) → Prop
def MonoO (w : WO) : Prop := ∀ EP s M Q Q', (∀ p M', Q p M' → Q' p M') → w EP s M Q → w EP s M Q'
def upO (K : Fg) (W : WX) (w : WO) : TO := fun σ H Q => ∃ EP s M, Cur K W EP s M σ H ∧ w EP s M fun o M' => ∀ H', Step M H M' H' → RepH K H' M' → Q o H'
structure EO (X : Cx) (W : WX) (e : Option Expr) (w : WO) : Prop where
  mono : MonoO w
  run : L2.PO X e (upO X.K W w)
def wNoP : WO := fun _ _ M Q => Q none M
def wPt (e : WE) : WO := fun EP s M Q => e EP s M fun p M1 => match p with
  | .int i => Q (some i) M1
  | _ => False
theorem po_weak {X : Cx} {e : Option Expr} {t t' : TO} (h : L2.PO X e t) (k : ∀ σ H Q, t' σ H Q → t σ H Q) : L2.PO X e t' := ⟨fun pins s σ H Q I q => h.run pins s σ H Q I (k _ _ _ q)⟩
theorem eo_none {X : Cx} {W : WX} : EO X W none wNoP := ⟨fun _ _ _ _ _ k h => k _ _ h, po_weak po_none fun σ H Q h => by
  obtain ⟨EP, s, M, c, h⟩ := h
  exact h H (.refl _ _) c.rh⟩
theorem eo_some {X : Cx} {W : WX} {e : Expr} {w : WE} (h : EE X W e w) : EO X W (some e) (wPt w) := by
  refine ⟨fun EP s M Q Q' k q => h.mono _ _ _ _ _ (fun p M1 z => by
    cases p with
    | int i => exact k _ _ z
    | _ => exact z) q, po_weak (po_some h.run) ?_⟩
  rintro σ H Q ⟨EP, s, M, c, q⟩
  refine c.use h.mono q fun p M1 v H1 h1 S c1 r => ?_
  cases p with
  | int i => rw [Rep] at r; exact ⟨i, r, h1 H1 S c1.rh⟩
  | _ => exact h1.elim
def pcut {α : Type} (xs : List α) (lo hi : Option Int) : List α := (xs.drop (HT.sIx xs.length 0 lo)).take (HT.sIx xs.length xs.length hi - HT.sIx xs.length 0 lo)
theorem pcut_rep {K : Fg} {H : Hp} {xs : List PV} {vs : List V} (r : Reps K H xs vs) (lo hi : Option Int) : Reps K H (pcut xs lo hi) (cutV vs lo hi) := by
  unfold pcut cutV
  rw [← r.length]
  exact (r.drop _).take _
theorem pcut_whole {α : Type} {xs : List α} {lo hi : Option Int} (h : HT.sIx xs.length 0 lo = 0 ∧ HT.sIx xs.length xs.length hi = xs.length) : pcut xs lo hi = xs := by
  unfold pcut
  rw [h.1, h.2]
  simp
def rSlP (p : PV) (lo hi : Option Int) (M : PH) (Q : QE) : Prop := match p with
  | .tup xs => Q (.tup (pcut xs lo hi)) M
  | .str z => z.length ≤ sizeLine ∧ Q (.str (cutS z lo hi)) M
  | .ref a => match listAt M a with
    | some xs => ∀ D, ¬ Wr M D → Q (.ref D) (pupd M D (.lst (pcut xs lo hi)))
    | none => False
  | _ => False
def r0Sl (K : Fg) : V → Option Int → Option Int → Hp → VK → Prop := fun x lo hi H Q => (rSlA K x lo hi H Q ∨ rSlS x lo hi H Q) ∨ rSlL K x lo hi H Q
theorem sl_all {X : Cx} : SlR X (r0Sl X.K) := SlR.or (SlR.or sl_tupA sl_str) sl_list
theorem mono_sl {p : PV} {lo hi : Option Int} {M : PH} {Q Q' : QE} (k : ∀ p M', Q p M' → Q' p M') (h : rSlP p lo hi M Q) : rSlP p lo hi M Q' := by
  unfold rSlP at h ⊢
  split at h
  · exact k _ _ h
  · exact ⟨h.1, k _ _ h.2⟩
  · split at h
    · rename_i e; exact fun D n => k _ _ (h D n)
    · exact h
  · exact h
theorem lift_sl {K : Fg} {M : PH} {H : Hp} {p : PV} {v : V} {lo hi : Option Int} {Q : VK} (rh : RepH K H M) (r : Rep K H p v) (h : rSlP p lo hi M (Dn K M H Q)) : r0Sl K v lo hi H Q := by
  unfold rSlP at h
  split at h
  · have r0 := r
    rw [Rep] at r
    obtain ⟨a, vs, rfl, hs, rr⟩ := r
    refine .inl (.inl ⟨a, vs, rfl, hs, fun e => ?_, fun _ => dn_newtup rh (pcut_rep rr lo hi) h⟩)
    rw [← rr.length] at e
    rw [pcut_whole e] at h
    exact dn_here rh r0 h
  · rw [Rep] at r
    exact .inl (.inr ⟨_, r, h.1, dn_here rh (by rw [Rep]) h.2⟩)
  · split at h
    · rename_i xs e
      obtain ⟨vs, rr, hs⟩ := listAt_rd rh e
      rw [Rep] at r
      exact .inr ⟨_, vs, r, hs, dn_newlist rh (pcut_rep rr lo hi) h⟩
    · exact h.elim
  · exact h.elim
end PL
set_option autoImplicit false
namespace PL
open PySem PySem.Spec L2
open PyProof.Rows hiding St

def wSl (e : WE) (l h : WO) : WE := fun EP s M Q => e EP s M fun p M1 => l EP s M1 fun lo M2 => h EP s M2 fun hi M3 => rSlP p lo hi M3 Q
theorem ee_sl {X : Cx} {W : WX} {e : Expr} {lo hi : Option Expr} {we : WE} {wl wh : WO} {p2 pos : Pos} (he : EE X W e we) (hl : EO X W lo wl) (hh : EO X W hi wh) : EE X W (.Subscript e (.Slice lo hi none p2) pos) (wSl we wl wh) := by
  refine ⟨fun EP s M Q Q' k h => he.mono _ _ _ _ _ (fun p M1 h1 => hl.mono _ _ _ _ _ (fun o M2 h2 => hh.mono _ _ _ _ _ (fun o2 M3 h3 => mono_sl k h3) h2) h1) h, pe_weak (pe_slice sl_all he.run hl.run hh.run) ?_⟩
  rintro σ H Q ⟨EP, s, M, c, h⟩
  refine c.use he.mono h fun p M1 v H1 h1 S1 c1 r1 => ?_
  refine ⟨EP, s, M1, c1, hl.mono _ _ _ _ _ (fun o M2 h2 H2 S2 rh2 => ?_) h1⟩
  have c2 := c1.step S2 rh2
  refine ⟨EP, s, M2, c2, hh.mono _ _ _ _ _ (fun o2 M3 h3 H3 S3 rh3 => ?_) h2⟩
  exact lift_sl rh3 ((r1.tk (S2.tk c1.rh)).tk (S3.tk rh2)) (mono_sl (fun p M' q => q.on ((S1.trans S2).trans S3)) h3)

/-! ## calls of built-ins -/
abbrev PC := List PV → PH → QE → Prop
abbrev PCL := List PV → PH → (List PV → PH → Prop) → Prop
def MonoC (r : PC) : Prop := ∀ ps M Q Q', (∀ p M', Q p M' → Q' p M') → r ps M Q → r ps M Q'
def MonoCL (r : PCL) : Prop := ∀ ps M Q Q', (∀ p M', Q p M' → Q' p M') → r ps M Q → r ps M Q'
def wCB (r : PC) (a : WA) : WE := fun EP s M Q => a EP s M fun ps M1 => r ps M1 Q
def wCBL (r : PCL) (a : WA) : WL := fun EP s M Q => a EP s M fun ps M1 => r ps M1 Q
/-- values in, a value out; a new list out; a new list in -/
def LiftC (K : Fg) (r : PC) (r0 : List V → Hp → VK → Prop) : Prop := ∀ {M : PH} {H : Hp} {ps : List PV} {vs : List V} {Q : VK}, RepH K H M → Reps K H ps vs → r ps M (Dn K M H Q) → r0 vs H Q
def LiftCL (K : Fg) (r : PCL) (r0 : List V → Hp → VK → Prop) : Prop := ∀ {M : PH} {H : Hp} {ps : List PV} {vs : List V} {Q : VK}, RepH K H M → Reps K H ps vs → r ps M (DnL K M H Q) → r0 vs H Q
def LiftL (K : Fg) (r : PC) (r0 : List V → Hp → VK → Prop) : Prop := ∀ {M : PH} {H : Hp} {xs : List PV} {D : Addr} {vs : List V} {Q : VK}, RepH K H M → ¬ Wr M D → H D = some (.lst vs) → Reps K H xs vs → xs.length ≤ sizeLine → r xs M (Dn K M H Q) → r0 [.ref D] H Q
def LiftLL (K : Fg) (r : PCL) (r0 : List V → Hp → VK → Prop) : Prop := ∀ {M : PH} {H : Hp} {xs : List PV} {D : Addr} {vs : List V} {Q : VK}, RepH K H M → ¬ Wr M D → H D = some (.lst vs) → Reps K H xs vs → xs.length ≤ sizeLine → r xs M (DnL K M H Q) → r0 [.ref D] H Q
section
variable {X : Cx} {W : WX} {x : Str} {p pos : Pos} {e : Expr} {es : List Expr} {wa : WA} {id T : String} {r0 : List V → Hp → VK → Prop} {r : PC} {rl : PCL}
theorem up_cb (hl : LiftC X.K r r0) (hr : MonoC r) (ha : MonoA wa) : ∀ σ H Q, up X.K W (wCB r wa) σ H Q → tCB r0 (upA X.K W wa) σ H Q := by
  rintro σ H Q ⟨EP, s, M, c, h⟩
  exact c.useA ha h fun ps M1 vs H1 h1 S c1 r1 => hl c1.rh r1 (hr _ _ _ _ (fun p M' q => q.on S) h1)
theorem up_cbL (hl : LiftCL X.K rl r0) (hr : MonoCL rl) (ha : MonoA wa) : ∀ σ H Q, upL X.K W (wCBL rl wa) σ H Q → tCB r0 (upA X.K W wa) σ H Q := by
  rintro σ H Q ⟨EP, s, M, c, h⟩
  exact c.useA ha h fun ps M1 vs H1 h1 S c1 r1 => hl c1.rh r1 (hr _ _ _ _ (fun p M' q => q.on S) h1)
theorem up_cl (hl : LiftL X.K r r0) (hr : MonoC r) (ha : MonoA wa) : ∀ σ H Q, up X.K W (wCB r wa) σ H Q → tCB r0 (tCons (upL X.K W wa) tNil) σ H Q := by
  rintro σ H Q ⟨EP, s, M, c, h⟩
  exact c.useL ha h fun xs M1 D vs H1 h1 S c1 n w e1 r1 z => hl c1.rh w e1 r1 z (hr _ _ _ _ (fun p M' q => q.on S) h1)
theorem up_clL (hl : LiftLL X.K rl r0) (hr : MonoCL rl) (ha : MonoA wa) : ∀ σ H Q, upL X.K W (wCBL rl wa) σ H Q → tCB r0 (tCons (upL X.K W wa) tNil) σ H Q := by
  rintro σ H Q ⟨EP, s, M, c, h⟩
  exact c.useL ha h fun xs M1 D vs H1 h1 S c1 n w e1 r1 z => hl c1.rh w e1 r1 z (hr _ _ _ _ (fun p M' q => q.on S) h1)
theorem mono_cb (hr : MonoC r) (ha : MonoA wa) : MonoE (wCB r wa) := fun EP s M Q Q' k h => ha _ _ _ _ _ (fun ps M1 z => hr _ _ _ _ k z) h
theorem mono_cbL (hr : MonoCL rl) (ha : MonoA wa) : MonoA (wCBL rl wa) := fun EP s M Q Q' k h => ha _ _ _ _ _ (fun ps M1 z => hr _ _ _ _ k z) h
/-- f(a, ..) -/
theorem ee_cb (hc : CallR X (.builtin id) r0) (hl : LiftC X.K r r0) (hr : MonoC r) (hm : X.mg x = none) (hv : bootBuiltins x = some (.builtin id)) (ha : EA X W (e :: es) wa) (hg : Gl X x := by rfl) (hn : x ≠ "__name__" := by decide) (hdb : (x == ("__debug__" : Str)) = false := by decide)
    (he : starEach (e :: es) X.env = (false, eval e X.env) :: starEach es X.env := by rfl) (hpl : (backTo pos (starEach es X.env)).any (·.1) = false := by rfl) : EE X W (.Call (.Name x p) (e :: es) [] pos) (wCB r wa) :=
  ⟨mono_cb hr ha.mono, pe_weak (pe_callB hc hg hm hv ha.run hn hdb he hpl) (up_cb hl hr ha.mono)⟩
theorem ee_ct (hc : CallR X (.type T) r0) (hl : LiftC X.K r r0) (hr : MonoC r) (hm : X.mg x = none) (hv : bootBuiltins x = some (.type T)) (ha : EA X W (e :: es) wa) (hg : Gl X x := by rfl) (hn : x ≠ "__name__" := by decide) (hdb : (x == ("__debug__" : Str)) = false := by decide)
    (he : starEach (e :: es) X.env = (false, eval e X.env) :: starEach es X.env := by rfl) (hpl : (backTo pos (starEach es X.env)).any (·.1) = false := by rfl) : EE X W (.Call (.Name x p) (e :: es) [] pos) (wCB r wa) :=
  ⟨mono_cb hr ha.mono, pe_weak (pe_callTy hc hg hm hv ha.run hn hdb he hpl) (up_cb hl hr ha.mono)⟩
theorem el_cb (hc : CallR X (.builtin id) r0) (hl : LiftCL X.K rl r0) (hr : MonoCL rl) (hm : X.mg x = none) (hv : bootBuiltins x = some (.builtin id)) (ha : EA X W (e :: es) wa) (hg : Gl X x := by rfl) (hn : x ≠ "__name__" := by decide) (hdb : (x == ("__debug__" : Str)) = false := by decide)
    (he : starEach (e :: es) X.env = (false, eval e X.env) :: starEach es X.env := by rfl) (hpl : (backTo pos (starEach es X.env)).any (·.1) = false := by rfl) : EL X W (.Call (.Name x p) (e :: es) [] pos) (wCBL rl wa) :=
  ⟨mono_cbL hr ha.mono, pe_weak (pe_callB hc hg hm hv ha.run hn hdb he hpl) (up_cbL hl hr ha.mono)⟩
theorem el_ct (hc : CallR X (.type T) r0) (hl : LiftCL X.K rl r0) (hr : MonoCL rl) (hm : X.mg x = none) (hv : bootBuiltins x = some (.type T)) (ha : EA X W (e :: es) wa) (hg : Gl X x := by rfl) (hn : x ≠ "__name__" := by decide) (hdb : (x == ("__debug__" : Str)) = false := by decide)
    (he : starEach (e :: es) X.env = (false, eval e X.env) :: starEach es X.env := by rfl) (hpl : (backTo pos (starEach es X.env)).any (·.1) = false := by rfl) : EL X W (.Call (.Name x p) (e :: es) [] pos) (wCBL rl wa) :=
  ⟨mono_cbL hr ha.mono, pe_weak (pe_callTy hc hg hm hv ha.run hn hdb he hpl) (up_cbL hl hr ha.mono)⟩
/-- f(l), l a list just made -/
theorem pa_l {wl : WL} (h : EL X W e wl) (hs : starEach [e] X.env = (false, eval e X.env) :: starEach [] X.env := by rfl) : PA X [e] (tCons (upL X.K W wl) tNil) := pa_cons h.run pa_nil hs
theorem ee_cbl {wl : WL} (hc : CallR X (.builtin id) r0) (hl : LiftL X.K r r0) (hr : MonoC r) (hm : X.mg x = none) (hv : bootBuiltins x = some (.builtin id)) (ha : EL X W e wl) (hg : Gl X x := by rfl) (hn : x ≠ "__name__" := by decide) (hdb : (x == ("__debug__" : Str)) = false := by decide)
    (he : starEach [e] X.env = (false, eval e X.env) :: starEach [] X.env := by rfl) (hpl : (backTo pos (starEach [] X.env)).any (·.1) = false := by rfl) : EE X W (.Call (.Name x p) [e] [] pos) (wCB r wl) :=
  ⟨mono_cb hr ha.mono, pe_weak (pe_callB hc hg hm hv (pa_l ha he) hn hdb he hpl) (up_cl hl hr ha.mono)⟩
theorem ee_ctl {wl : WL} (hc : CallR X (.type T) r0) (hl : LiftL X.K r r0) (hr : MonoC r) (hm : X.mg x = none) (hv : bootBuiltins x = some (.type T)) (ha : EL X W e wl) (hg : Gl X x := by rfl) (hn : x ≠ "__name__" := by decide) (hdb : (x == ("__debug__" : Str)) = false := by decide)
    (he : starEach [e] X.env = (false, eval e X.env) :: starEach [] X.env := by rfl) (hpl : (backTo pos (starEach [] X.env)).any (·.1) = false := by rfl) : EE X W (.Call (.Name x p) [e] [] pos) (wCB r wl) :=
  ⟨mono_cb hr ha.mono, pe_weak (pe_callTy hc hg hm hv (pa_l ha he) hn hdb he hpl) (up_cl hl hr ha.mono)⟩
theorem el_cbl {wl : WL} (hc : CallR X (.builtin id) r0) (hl : LiftLL X.K rl r0) (hr : MonoCL rl) (hm : X.mg x = none) (hv : bootBuiltins x = some (.builtin id)) (ha : EL X W e wl) (hg : Gl X x := by rfl) (hn : x ≠ "__name__" := by decide) (hdb : (x == ("__debug__" : Str)) = false := by decide)
    (he : starEach [e] X.env = (false, eval e X.env) :: starEach [] X.env := by rfl) (hpl : (backTo pos (starEach [] X.env)).any (·.1) = false := by rfl) : EL X W (.Call (.Name x p) [e] [] pos) (wCBL rl wl) :=
  ⟨mono_cbL hr ha.mono, pe_weak (pe_callB hc hg hm hv (pa_l ha he) hn hdb he hpl) (up_clL hl hr ha.mono)⟩
end
/-! ### len -/
def cLen : PC := fun ps M Q => match ps with
  | [.str y] => y.length ≤ sizeLine ∧ Q (.int y.length) M
  | [.ref a] => match M a with
    | some (.dK kvs) => Q (.int kvs.length) M
    | _ => match listAt M a with
      | some xs => Q (.int xs.length) M
      | none => False
  | [.tup xs] => Q (.int xs.length) M
  | _ => False
def r0Len (K : Fg) : List V → Hp → VK → Prop := fun xs H Q => (∃ x n, xs = [x] ∧ LenV K x H n ∧ Q (.int n) H) ∨ ∃ d kvs, xs = [.ref d] ∧ H d = some (.dK kvs) ∧ Q (.int kvs.length) H
theorem mono_len : MonoC cLen := by
  intro ps M Q Q' k h
  unfold cLen at h ⊢
  split at h
  · exact ⟨h.1, k _ _ h.2⟩
  · split at h
    · exact k _ _ h
    · split at h
      · exact k _ _ h
      · exact h
  · exact k _ _ h
  · exact h
theorem reps1 {K : Fg} {H : Hp} {p : PV} {vs : List V} (h : Reps K H [p] vs) : ∃ v, vs = [v] ∧ Rep K H p v := by
  rw [Reps] at h
  obtain ⟨v, r, e, h1, h2⟩ := h
  rw [Reps] at h2
  subst h2
  exact ⟨v, e, h1⟩
theorem reps2 {K : Fg} {H : Hp} {p q : PV} {vs : List V} (h : Reps K H [p, q] vs) : ∃ v u, vs = [v, u] ∧ Rep K H p v ∧ Rep K H q u := by
  rw [Reps] at h
  obtain ⟨v, r, e, h1, h2⟩ := h
  obtain ⟨u, e2, h3⟩ := reps1 h2
  subst e2
  exact ⟨v, u, e, h1, h3⟩
theorem lift_len {K : Fg} : LiftC K cLen (r0Len K) := by
  intro M H ps vs Q rh r h
  unfold cLen at h
  split at h
  · obtain ⟨v, rfl, rv⟩ := reps1 r
    rw [Rep] at rv; subst rv
    exact .inl ⟨_, _, rfl, ⟨h.1, rfl⟩, dn_here rh (by rw [Rep]) h.2⟩
  · obtain ⟨v, rfl, rv⟩ := reps1 r
    rw [Rep] at rv; subst rv
    split at h
    · rename_i e
      obtain ⟨us, hu, rr⟩ := rh _ _ e
      have e1 := congrArg List.length rr.1
      simp only [List.length_map] at e1
      refine .inr ⟨_, us, rfl, hu, ?_⟩
      rw [← e1]
      exact dn_here rh (by rw [Rep]) h
    · split at h
      · rename_i e
        obtain ⟨us, rr, hs⟩ := listAt_rd rh e
        refine .inl ⟨_, _, rfl, .inl ⟨us, hs, rfl⟩, ?_⟩
        rw [← rr.length]
        exact dn_here rh (by rw [Rep]) h
      · exact h.elim
  · obtain ⟨v, rfl, rv⟩ := reps1 r
    rw [Rep] at rv
    obtain ⟨a, us, rfl, hs, rr⟩ := rv
    refine .inl ⟨_, _, rfl, .inr ⟨us, hs, rfl⟩, ?_⟩
    rw [← rr.length]
    exact dn_here rh (by rw [Rep]) h
  · exact h.elim
theorem call_len' {X : Cx} : CallR X (.builtin "len") (r0Len X.K) := by
  refine CallR.or call_len ?_
  intro pins s σ H xs us Q I r h
  obtain ⟨d, kvs, rfl, hd, q⟩ := h
  exact call_lenD pins s σ H _ us Q I r ⟨d, kvs, rfl, hd, q⟩
def cLenL : PC := fun xs M Q => Q (.int xs.length) M
theorem mono_lenL : MonoC cLenL := fun ps M Q Q' k h => k _ _ h
theorem lift_lenL {K : Fg} : LiftL K cLenL (r0Len K) := by
  intro M H xs D vs Q rh w e r z h
  refine .inl ⟨_, _, rfl, .inl ⟨vs, SqL.of e, rfl⟩, ?_⟩
  rw [← r.length]
  exact dn_here rh (by rw [Rep]) h
/-! ### tuple, list -/
def cTup : PC := fun ps M Q => match ps with
  | [p] => match seqAt M p with
    | some xs => Q (.tup xs) M
    | none => False
  | _ => False
def r0Tup (K : Fg) : List V → Hp → VK → Prop := fun xs H Q => ∃ p ys, xs = [.ref p] ∧ ((SqL K H p ys ∧ ∀ l, H l = none → Q (.ref l) (upd H l (.tup ys))) ∨ (SqT K H p ys ∧ Q (.ref p) H))
theorem mono_tup : MonoC cTup := by
  intro ps M Q Q' k h
  unfold cTup at h ⊢
  split at h
  · split at h
    · exact k _ _ h
    · exact h
  · exact h
theorem lift_tup {K : Fg} : LiftC K cTup (r0Tup K) := by
  intro M H ps vs Q rh r h
  unfold cTup at h
  split at h
  · obtain ⟨v, rfl, rv⟩ := reps1 r
    split at h
    · rename_i xs e
      obtain ⟨a, us, rfl, rr, hs⟩ := seqAt_rd rh rv e
      rcases hs with hs | hs
      · exact ⟨a, us, rfl, .inl ⟨hs, dn_newtup rh rr h⟩⟩
      · exact ⟨a, us, rfl, .inr ⟨hs, h (.ref a) H (.refl _ _) rh (by rw [Rep]; exact ⟨a, us, rfl, hs, rr⟩)⟩⟩
    · exact h.elim
  · exact h.elim
def cTupL : PC := fun xs M Q => Q (.tup xs) M
theorem mono_tupL : MonoC cTupL := fun ps M Q Q' k h => k _ _ h
theorem lift_tupL {K : Fg} : LiftL K cTupL (r0Tup K) := by
  intro M H xs D vs Q rh w e r z h
  exact ⟨D, vs, rfl, .inl ⟨SqL.of e, dn_newtup rh r h⟩⟩
def cList : PCL := fun ps M Q => match ps with
  | [p] => match seqAt M p with
    | some xs => xs.length ≤ sizeLine ∧ Q xs M
    | none => False
  | _ => False
theorem mono_list : MonoCL cList := by
  intro ps M Q Q' k h
  unfold cList at h ⊢
  split at h
  · split at h
    · exact ⟨h.1, k _ _ h.2⟩
    · exact h
  · exact h
/-- a new list of represented values -/
theorem dnL_new {K : Fg} {M : PH} {H : Hp} {Q : VK} {xs : List PV} {vs : List V} (rh : RepH K H M) (r : Reps K H xs vs) (hz : xs.length ≤ sizeLine) (h : DnL K M H Q xs M) : ∀ l, H l = none → Q (.ref l) (upd H l (.lst vs)) := fun l hl =>
  h l vs _ (Step.hidden hl) (rh.upd_free hl) hl (rh.free hl) upd_same (r.tk (tk_new hl)) hz
theorem lift_list {K : Fg} : LiftCL K cList (fun xs H Q => ∃ p ys, xs = [.ref p] ∧ (SqL K H p ys ∨ SqT K H p ys) ∧ ∀ l, H l = none → Q (.ref l) (upd H l (.lst ys))) := by
  intro M H ps vs Q rh r h
  unfold cList at h
  split at h
  · split at h
    · rename_i e
      obtain ⟨v, rfl, rv⟩ := reps1 r
      obtain ⟨a, us, rfl, rr, hs⟩ := seqAt_rd rh rv e
      exact ⟨a, us, rfl, hs, dnL_new rh rr h.1 h.2⟩
    · exact h.elim
  · exact h.elim
/-! ### all, any -/
def boolsOf : List PV → Option (List Bool)
  | [] => some []
  | .bl b :: r => (boolsOf r).map (b :: ·)
  | _ => none
theorem boolsOf_rep {K : Fg} {H : Hp} : ∀ {xs : List PV} {vs : List V} {bs : List Bool}, boolsOf xs = some bs → Reps K H xs vs → vs = bs.map V.bl
  | [], vs, bs, e, r => by
    rw [Reps] at r
    cases e
    exact r
  | .bl b :: t, vs, bs, e, r => by
    rw [Reps] at r
    obtain ⟨v, u, rfl, h1, h2⟩ := r
    rw [Rep] at h1; subst h1
    simp only [boolsOf, Option.map_eq_some_iff] at e
    obtain ⟨cs, e1, rfl⟩ := e
    rw [boolsOf_rep e1 h2]
    rfl
theorem boolsOf_map : ∀ bs : List Bool, boolsOf (bs.map PV.bl) = some bs
  | [] => rfl
  | b :: r => by simp [boolsOf, boolsOf_map r]
def cAllL : PC := fun xs M Q => match boolsOf xs with
  | some bs => Q (.bl (bs.all id)) M
  | none => False
def cAnyL : PC := fun xs M Q => match boolsOf xs with
  | some bs => Q (.bl (bs.any id)) M
  | none => False
theorem mono_allL : MonoC cAllL := by
  intro ps M Q Q' k h
  unfold cAllL at h ⊢
  split at h
  · exact k _ _ h
  · exact h
theorem mono_anyL : MonoC cAnyL := by
  intro ps M Q Q' k h
  unfold cAnyL at h ⊢
  split at h
  · exact k _ _ h
  · exact h
theorem lift_allL {K : Fg} : LiftL K cAllL (rAll K) := by
  intro M H xs D vs Q rh w e r z h
  unfold cAllL at h
  split at h
  · rename_i bs e1
    have e2 := boolsOf_rep e1 r
    subst e2
    exact ⟨D, bs, rfl, SqL.of e, dn_here rh (by rw [Rep]) h⟩
  · exact h.elim
theorem lift_anyL {K : Fg} : LiftL K cAnyL (rAny K) := by
  intro M H xs D vs Q rh w e r z h
  unfold cAnyL at h
  split at h
  · rename_i bs e1
    have e2 := boolsOf_rep e1 r
    subst e2
    exact ⟨D, bs, rfl, SqL.of e, dn_here rh (by rw [Rep]) h⟩
  · exact h.elim
end PL
set_option autoImplicit false
namespace PL
open PySem PySem.Spec L2
open PyProof.Rows hiding St

/-! ## sorted -/
/-- pairs of what stands here and what stands there -/
def pairsV : List PV → List V → List (PV × V)
  | p :: ps, v :: vs => (p, v) :: pairsV ps vs
  | _, _ => []
theorem pairs_fst {K : Fg} {H : Hp} : ∀ {ps : List PV} {vs : List V}, Reps K H ps vs → (pairsV ps vs).map (·.1) = ps ∧ (pairsV ps vs).map (·.2) = vs ∧ ∀ q ∈ pairsV ps vs, Rep K H q.1 q.2
  | [], vs, r => by rw [Reps] at r; subst r; exact ⟨rfl, rfl, fun q hq => by cases hq⟩
  | p :: ps, vs, r => by
    rw [Reps] at r
    obtain ⟨v, t, rfl, h1, h2⟩ := r
    obtain ⟨a, b, c⟩ := pairs_fst h2
    refine ⟨by simp [pairsV, a], by simp [pairsV, b], fun q hq => ?_⟩
    rcases List.mem_cons.mp hq with rfl | hq
    · exact h1
    · exact c q hq
theorem reps_pairs {K : Fg} {H : Hp} : ∀ (l : List (PV × V)), (∀ q ∈ l, Rep K H q.1 q.2) → Reps K H (l.map (·.1)) (l.map (·.2))
  | [], _ => .nil
  | q :: l, h => .cons (h q List.mem_cons_self) (reps_pairs l fun x hx => h x (List.mem_cons_of_mem _ hx))
theorem each_vals {us : List Value} : ∀ {l : List (PV × V)}, PySem.W.EachIs (fun u (q : PV × V) => RelV q.2 u) us l → Vals (l.map (·.2)) us := by
  intro l e
  induction e with
  | nil => exact .nil
  | cons h t ih => exact .cons h ih
theorem each_of {K : Fg} {H : Hp} : ∀ {ps : List PV} {vs : List V} {us : List Value}, Reps K H ps vs → Vals vs us → PySem.W.EachIs (fun u (q : PV × V) => RelV q.2 u) us (pairsV ps vs)
  | [], vs, us, r, h => by
    rw [Reps] at r; subst r
    cases h
    exact .nil
  | p :: ps, vs, us, r, h => by
    rw [Reps] at r
    obtain ⟨v, t, rfl, h1, h2⟩ := r
    cases h with
    | cons a b => exact .cons a (each_of h2 b)
/-- the order by which Python sorts data -/
def leP (x y : PV) : Bool := PySem.W.dataLe false dat x y
def sortP (xs : List PV) : List PV := xs.mergeSort leP
def Srtb (xs : List PV) : Prop := purs xs = true ∧ PySem.W.AllAlike (dats xs) ∧ PySem.W.Sortable (dats xs) ∧ ∀ x ∈ xs, (dat x).depth ≤ 60
theorem dats_map : ∀ xs : List PV, dats xs = xs.map dat
  | [] => by rw [dats]; rfl
  | x :: xs => by rw [dats, dats_map xs]; rfl
theorem purs_mem : ∀ {xs : List PV}, purs xs = true → ∀ x ∈ xs, pur x = true
  | [], _, x, hx => by cases hx
  | y :: ys, h, x, hx => by
    rw [purs, Bool.and_eq_true] at h
    rcases List.mem_cons.mp hx with rfl | hx
    · exact h.1
    · exact purs_mem h.2 x hx
def r0Sorted (K : Fg) : List V → Hp → VK → Prop := fun vs H Q => ∃ a xs us, vs = [V.ref a] ∧ SqL K H a us ∧ Reps K H xs us ∧ Srtb xs ∧ ∀ p ws, H p = none → Reps K H (sortP xs) ws → Q (.ref p) (upd H p (.lst ws))
theorem call_sorted' {X : Cx} (hu : X.A.units + 100 < cLine) : CallR X (.builtin "sorted") (r0Sorted X.K) := by
  intro pins s σ H vs us Q I r h
  obtain ⟨a, xs, ws, rfl, hs, rr, ⟨h1, h2, h3, h4⟩, q⟩ := h
  obtain ⟨its, rv, hl, hz⟩ := I.list hs
  obtain ⟨u, rfl, ru⟩ := vals1 r
  obtain rfl : u = Value.ref a := ru
  obtain ⟨p1, p2, p3⟩ := pairs_fst rr
  have e := each_of rr rv
  have hmap : (pairsV xs ws).map (fun q => dat q.1) = dats xs := by rw [dats_map, ← p1, List.map_map]; simp [p1]
  have hlen : (pairsV xs ws).length = xs.length := by rw [← p1, List.length_map, p1]
  have er : PySem.W.EachIs (fun u (q : PV × V) => ∃ as, Reads s.heap u (dat q.1) as) its (pairsV xs ws) := by
    have key : ∀ {ps : List PV} {vs : List V} {us : List Value}, purs ps = true → Reps X.K H ps vs → Vals vs us → PySem.W.EachIs (fun u (q : PV × V) => ∃ as, Reads s.heap u (dat q.1) as) us (pairsV ps vs) := by
      intro ps
      induction ps with
      | nil => intro vs us _ r h; rw [Reps] at r; subst r; cases h; exact .nil
      | cons p ps ih =>
        intro vs us hp r h
        rw [Reps] at r
        obtain ⟨v, t, rfl, g1, g2⟩ := r
        rw [purs, Bool.and_eq_true] at hp
        cases h with
        | cons a b => exact .cons (Dp.reads I _ _ _ (dp_of hp.1 g1) a) (ih hp.2 g2 b)
    exact key h1 rr rv
  refine PySem.W.sorted_data (enc := fun q : PV × V => dat q.1) hl.isList e er (by rw [hmap]; exact h2) (by rw [hmap]; exact h3) (by rw [hlen, rr.length]; exact hz) (fun b hb => ?_) fun out ho eo => ?_
  · have hm : b.1 ∈ xs := by rw [← p1]; exact List.mem_map_of_mem hb
    have := h4 _ hm
    omega
  · have hv := each_vals eo
    have hperm := List.mergeSort_perm (pairsV xs ws) (PySem.W.dataLe false fun q : PV × V => dat q.1)
    have hm1 : ((pairsV xs ws).mergeSort (PySem.W.dataLe false fun q : PV × V => dat q.1)).map (·.1) = sortP xs := by
      unfold sortP
      conv => rhs; rw [← p1]
      refine List.map_mergeSort ?_
      intro x _ y _
      rfl
    have hrep : Reps X.K H (sortP xs) (((pairsV xs ws).mergeSort (PySem.W.dataLe false fun q : PV × V => dat q.1)).map (·.2)) := by
      rw [← hm1]
      exact reps_pairs _ fun q hq => p3 q (hperm.mem_iff.mp hq)
    have keep : ∀ b o, s.heap.get? b = some o → (sortedAll s.heap its (List.toArray out)).get? b = some o := fun b o hb => sortedAll_old hb
    obtain ⟨c, hc⟩ := sortedAll_at s.heap its (List.toArray out)
    have hD : H (s.heap.objs.size + 1) = none := I.hok.fresh (by omega)
    refine ⟨.ref (s.heap.objs.size + 1), _, I.laid (t' := s.toks) (o := .lst _) keep (by omega) ⟨?_, out, c, hv, hc⟩, rfl, q _ _ hD hrep⟩
    rw [List.length_map, hperm.length_eq, hlen, rr.length]
    exact hz
theorem srtb_len {xs : List PV} : (sortP xs).length = xs.length := (List.mergeSort_perm xs leP).length_eq
def cSorted : PCL := fun ps M Q => match ps with
  | [.ref a] => match listAt M a with
    | some xs => Srtb xs ∧ xs.length ≤ sizeLine ∧ Q (sortP xs) M
    | none => False
  | _ => False
theorem mono_sorted : MonoCL cSorted := by
  intro ps M Q Q' k h
  unfold cSorted at h ⊢
  split at h
  · split at h
    · exact ⟨h.1, h.2.1, k _ _ h.2.2⟩
    · exact h
  · exact h
theorem lift_sorted {K : Fg} : LiftCL K cSorted (r0Sorted K) := by
  intro M H ps vs Q rh r h
  unfold cSorted at h
  split at h
  · obtain ⟨v, rfl, rv⟩ := reps1 r
    rw [Rep] at rv; subst rv
    split at h
    · rename_i xs e
      obtain ⟨us, rr, hs⟩ := listAt_rd rh e
      refine ⟨_, xs, us, rfl, hs, rr, h.1, fun p ws hp hw => ?_⟩
      exact dnL_new rh hw (by rw [srtb_len]; exact h.2.1) h.2.2 p hp
    · exact h.elim
  · exact h.elim
def cSortedL : PCL := fun xs M Q => Srtb xs ∧ Q (sortP xs) M
theorem mono_sortedL : MonoCL cSortedL := fun ps M Q Q' k h => ⟨h.1, k _ _ h.2⟩
theorem lift_sortedL {K : Fg} : LiftLL K cSortedL (r0Sorted K) := by
  intro M H xs D vs Q rh w e r z h
  exact ⟨D, xs, vs, rfl, SqL.of e, r, h.1, fun p ws hp hw => dnL_new rh hw (by rw [srtb_len]; exact z) h.2 p hp⟩
/-! ## repr -/
def r0Repr (K : Fg) : List V → Hp → VK → Prop := fun vs H Q => ∃ x d, vs = [x] ∧ Dp K H x d ∧ d.showable = true ∧ d.hasDict = false ∧ d.depth ≤ 60 ∧ d.shown.length ≤ sizeLine ∧ Q (.str d.shown) H
theorem call_repr' {X : Cx} (hu : X.A.units + 100 < cLine) (hg : X.A.guards = some []) : CallR X (.builtin "repr") (r0Repr X.K) := by
  intro pins s σ H vs us Q I r h
  obtain ⟨x, d, rfl, hd, h1, h2, h3, h4, q⟩ := h
  obtain ⟨u, rfl, ru⟩ := vals1 r
  obtain ⟨as, rd⟩ := Dp.reads I d x u hd ru
  cases hd with
  | non =>
    cases ru
    rw [PyData.shown] at q
    exact PySem.P.repr_of_none ⟨.str _, H, I.tok _, ⟨_, rfl⟩, q⟩
  | bl b =>
    cases ru
    rw [PyData.shown] at q
    exact PySem.P.repr_of_bool ⟨.str _, H, I.tok _, ⟨_, rfl⟩, q⟩
  | int i =>
    obtain ⟨t, rfl⟩ := ru
    rw [PyData.showable] at h1
    rw [PyData.shown] at q
    exact PySem.P.repr_of_int (of_decide_eq_true h1) ⟨.str _, H, I.tok _, ⟨_, rfl⟩, q⟩
  | str z =>
    obtain ⟨t, rfl⟩ := ru
    rw [PyData.shown] at q h4
    exact PySem.P.repr_of_str ⟨.str _, H, I.tok _, ⟨_, rfl⟩, q⟩ h4
  | lst hs ha =>
    cases ru
    exact repr_of_reads' (h₀ := s.heap) rd h1 (PyData.noDict_hsm h2) hg (by omega) (fun _ _ e => e) (fun h' u tk kp => ⟨.str _, H, I.kept kp, ⟨_, rfl⟩, q⟩) h4
  | tup hs ha =>
    cases ru
    exact repr_of_reads' (h₀ := s.heap) rd h1 (PyData.noDict_hsm h2) hg (by omega) (fun _ _ e => e) (fun h' u tk kp => ⟨.str _, H, I.kept kp, ⟨_, rfl⟩, q⟩) h4
/-- may be shown as a text -/
def Shw (d : PyData) : Prop := d.showable = true ∧ d.hasDict = false ∧ d.depth ≤ 60 ∧ d.shown.length ≤ sizeLine
def cRepr : PC := fun ps M Q => match ps with
  | [p] => match datM M p with
    | some d => Shw d ∧ Q (.str d.shown) M
    | none => False
  | _ => False
theorem mono_repr : MonoC cRepr := by
  intro ps M Q Q' k h
  unfold cRepr at h ⊢
  split at h
  · split at h
    · exact ⟨h.1, k _ _ h.2⟩
    · exact h
  · exact h
theorem lift_repr {K : Fg} : LiftC K cRepr (r0Repr K) := by
  intro M H ps vs Q rh r h
  unfold cRepr at h
  split at h
  · obtain ⟨v, rfl, rv⟩ := reps1 r
    split at h
    · rename_i d e
      exact ⟨v, d, rfl, datM_dp rh rv e, h.1.1, h.1.2.1, h.1.2.2.1, h.1.2.2.2, dn_here rh (by rw [Rep]) h.2⟩
    · exact h.elim
  · exact h.elim
/-! ## methods of built-in types -/
abbrev PM := PV → List PV → PH → QE → Prop
def MonoM (r : PM) : Prop := ∀ x ps M Q Q', (∀ p M', Q p M' → Q' p M') → r x ps M Q → r x ps M Q'
def wBM (r : PM) (o : WE) (a : WA) : WE := fun EP s M Q => o EP s M fun x M1 => a EP s M1 fun ps M2 => r x ps M2 Q
/-- of which built-in type -/
def tyP (M : PH) (T : String) (p : PV) : Prop := match p with
  | .str _ => T = "str"
  | .int _ => T = "int"
  | .ref a => match M a with
    | some (.lst _) => T = "list"
    | some (.dK _) => T = "dict"
    | _ => False
  | _ => False
def LiftM (K : Fg) (r : PM) (r0 : V → List V → Hp → VK → Prop) : Prop := ∀ {M : PH} {H : Hp} {x : PV} {ps : List PV} {v : V} {vs : List V} {Q : VK}, RepH K H M → Rep K H x v → Reps K H ps vs → r x ps M (Dn K M H Q) → r0 v vs H Q
theorem tyP_V {K : Fg} {M : PH} {H : Hp} {T : String} {p : PV} {v : V} (rh : RepH K H M) (r : Rep K H p v) (h : tyP M T p) : tyV K T v H := by
  unfold tyP at h
  split at h
  · rw [Rep] at r; subst r; exact h
  · rw [Rep] at r; subst r; exact h
  · rw [Rep] at r; subst r
    split at h
    · rename_i e
      obtain ⟨vs, hv, _⟩ := rh _ _ e
      exact .inl ⟨h, vs, SqL.of hv⟩
    · rename_i e
      obtain ⟨vs, hv, _⟩ := rh _ _ e
      exact .inr (.inr (.inl ⟨h, .inl ⟨vs, hv⟩⟩))
    · exact h.elim
  · exact h.elim
/-- o.m(e, ..): the receiver's type is looked at when it has come -/
def wBMt (T : String) (r : PM) (o : WE) (a : WA) : WE := fun EP s M Q => o EP s M fun x M1 => tyP M1 T x ∧ a EP s M1 fun ps M2 => r x ps M2 Q
section
variable {X : Cx} {W : WX} {o e : Expr} {es : List Expr} {wo : WE} {wa : WA} {name : Str} {apos cpos : Pos} {T id : String} {r : PM} {r0 : V → List V → Hp → VK → Prop}
theorem mono_bm (hr : MonoM r) (ho : MonoE wo) (ha : MonoA wa) : MonoE (wBMt T r wo wa) := fun EP s M Q Q' k h => ho _ _ _ _ _ (fun x M1 z => ⟨z.1, ha _ _ _ _ _ (fun ps M2 z2 => hr _ _ _ _ _ k z2) z.2⟩) h
theorem ee_bm (pa : PlainAttrs T) (slot : Slot T name id) (hty : typeOf (.builtin id) = pure (.type "method_descriptor")) (hm : MtR X id r0) (hl : LiftM X.K r r0) (hr : MonoM r) (ho : EE X W o wo) (ha : EA X W (e :: es) wa)
    (hbase : attributeBase o name X.env (eval o X.env) = eval o X.env := by rfl) (hfew : ((backTo cpos (starEach (e :: es) X.env)).all (fun x => !x.1) && (backToKw cpos (keywordEach [] X.env)).all (fun x => x.1.isSome)
      && decide ((e :: es).length + ([] : List Keyword).length + (if ([] : List Keyword).isEmpty then 0 else 1) < 30)) = true := by rfl)
    (hline : (apos.endLine == cpos.line) = true := by rfl) (hst : starEach (e :: es) X.env = (false, eval e X.env) :: starEach es X.env := by rfl) (hpl : (backTo cpos (starEach es X.env)).any (·.1) = false := by rfl) :
    EE X W (.Call (.Attribute o name apos) (e :: es) [] cpos) (wBMt T r wo wa) := by
  refine ⟨mono_bm hr ho.mono ha.mono, pe_weak (pe_bm pa slot hty hm ho.run ha.run hbase hfew hline hst hpl) ?_⟩
  rintro σ H Q ⟨EP, s, M, c, h⟩
  refine c.use ho.mono h fun x M1 v H1 h1 S1 c1 r1 => ⟨tyP_V c1.rh r1 h1.1, ?_⟩
  refine c1.useA ha.mono h1.2 fun ps M2 vs H2 h2 S2 c2 r2 => ?_
  exact hl c2.rh (r1.tk (S2.tk c1.rh)) r2 (hr _ _ _ _ _ (fun p M' q => q.on (S1.trans S2)) h2)
theorem ee_bm0 (pa : PlainAttrs T) (slot : Slot T name id) (hty : typeOf (.builtin id) = pure (.type "method_descriptor")) (hm : MtR X id r0) (hl : LiftM X.K r r0) (hr : MonoM r) (ho : EE X W o wo)
    (hbase : attributeBase o name X.env (eval o X.env) = eval o X.env := by rfl) (hline : (apos.endLine == cpos.line) = true := by rfl) : EE X W (.Call (.Attribute o name apos) [] [] cpos) (wBMt T r wo wNil) := by
  refine ⟨mono_bm hr ho.mono (fun _ _ _ _ _ k h => k _ _ h), pe_weak (pe_bm0 pa slot hty hm ho.run hbase hline) ?_⟩
  rintro σ H Q ⟨EP, s, M, c, h⟩
  refine c.use ho.mono h fun x M1 v H1 h1 S1 c1 r1 => ⟨tyP_V c1.rh r1 h1.1, ?_⟩
  exact hl c1.rh r1 .nil (hr _ _ _ _ _ (fun p M' q => q.on S1) h1.2)
end
end PL
set_option autoImplicit false
namespace PL
open PySem PySem.Spec L2
open PyProof.Rows hiding St

/-! ## methods of lists and texts -/
def mAppend : PM := fun x ps M Q => match x, ps with
  | .ref a, [p] => ∃ xs, M a = some (.lst xs) ∧ xs.length < sizeLine ∧ Q .non (pupd M a (.lst (xs ++ [p])))
  | _, _ => False
theorem mono_append : MonoM mAppend := by
  intro x ps M Q Q' k h
  unfold mAppend at h ⊢
  split at h
  · exact let ⟨xs, a, b, c⟩ := h; ⟨xs, a, b, k _ _ c⟩
  · exact h
/-- a list is written -/
theorem dn_wr {K : Fg} {M : PH} {H : Hp} {Q : VK} {a : Addr} {p : PV} {v : V} {xs ys : List PV} {us vs : List V} (rh : RepH K H M) (e : M a = some (.lst xs)) (ea : H a = some (.lst us)) (r : Reps K H ys vs) (rp : Rep K H p v) (h : Dn K M H Q p (pupd M a (.lst ys))) : Q v (upd H a (.lst vs)) := by
  have hw : Wr M a := ⟨_, e, rfl⟩
  have t : TKeep H (upd H a (.lst vs)) := tk_upd (rh.notup hw)
  exact h v _ (Step.write hw) (rh.upd_both (rh.notup hw) ⟨vs, upd_same, r.tk t⟩) (rp.tk t)
theorem lift_append {K : Fg} : LiftM K mAppend rAppend := by
  intro M H x ps v vs Q rh rx r h
  unfold mAppend at h
  split at h
  · obtain ⟨u, rfl, ru⟩ := reps1 r
    rw [Rep] at rx; subst rx
    obtain ⟨xs, e, hz, q⟩ := h
    obtain ⟨us, hu, rr⟩ := rh _ _ e
    exact ⟨_, us, u, rfl, rfl, hu, by rw [← rr.length]; exact hz, dn_wr rh e hu (rr.append (.cons ru .nil)) (by rw [Rep]) q⟩
  · exact h.elim
def mPopAt : PM := fun x ps M Q => match x, ps with
  | .ref a, [.int i] => ∃ xs k p, M a = some (.lst xs) ∧ -(2 ^ 63) ≤ i ∧ i < 2 ^ 63 ∧ seqIndex? i xs.length = some k ∧ xs[k]? = some p ∧ Q p (pupd M a (.lst (xs.eraseIdx k)))
  | _, _ => False
theorem mono_popAt : MonoM mPopAt := by
  intro x ps M Q Q' k h
  unfold mPopAt at h ⊢
  split at h
  · exact let ⟨xs, j, p, a, b, c, d, e, f⟩ := h; ⟨xs, j, p, a, b, c, d, e, k _ _ f⟩
  · exact h
theorem lift_popAt {K : Fg} : LiftM K mPopAt rPopAt := by
  intro M H x ps v vs Q rh rx r h
  unfold mPopAt at h
  split at h
  · obtain ⟨u, rfl, ru⟩ := reps1 r
    rw [Rep] at rx; subst rx
    rw [Rep] at ru; subst ru
    obtain ⟨xs, k, p, e, h1, h2, h3, h4, q⟩ := h
    obtain ⟨us, hu, rr⟩ := rh _ _ e
    obtain ⟨y, hy, ry⟩ := rr.get h4
    exact ⟨_, us, _, k, y, rfl, rfl, hu, h1, h2, by rw [← rr.length]; exact h3, hy, dn_wr rh e hu (rr.eraseIdx k) ry q⟩
  · exact h.elim
/-- extend by a list or a tuple -/
def r0ExtT (K : Fg) : V → List V → Hp → VK → Prop := fun x vs H Q => ∃ l b xs zs, x = .ref l ∧ vs = [.ref b] ∧ H l = some (.lst xs) ∧ SqT K H b zs ∧ xs.length + zs.length ≤ sizeLine ∧ Q .non (upd H l (.lst (xs ++ zs)))
theorem list_extend_tup (l : Addr) (items : Array Value) (n : Nat) (b : Addr) (items2 : Array Value) (n2 : Nat) (dd : Option Addr) (sl : Array (Option Value)) (hs0 : ¬(!items.isEmpty && Builtin.List.listTooLong (items.size + items2.size)) = true) (hs1 : items.size ≤ sizeLine) (hs2 : items.size + items2.size ≤ sizeLine + 1) :
    Meets (Builtin.«list.extend» ⟨[.ref l, .ref b], []⟩) (fun _ R s => s.heap.get? l = some { cls := .type "list", dict := none, data := .seq items n, slots := #[] } ∧ s.heap.get? b = some { cls := .type "tuple", dict := dd, data := .seq items2 n2, slots := sl } ∧ R (.ok (.ret Value.none)) { s with heap := s.heap.update l (Obj.mapSeq fun x => x ++ items2), toks := s.toks }) :=
  .of_wp fun prog w A R s h => by
    obtain ⟨hp, g, d, tk, os⟩ := s; obtain ⟨hl, hb, h⟩ := h; have f1 := AutoSeq1.idx_int; have f2 := AutoSeq1.sub_tuple_tuple; have f3 := AutoSeq1.sub_list_list; have f4 := AutoSeq1.sub_tuple_list; have f5 := AutoSeq1.sub_list_tuple
    have hz' : (items ++ items2).size ≤ sizeLine + 1 := by rw [Array.size_append]; exact hs2
    wp_walk using (wpAny_updateSeq hl rfl (hz := hs1) (_hz' := hz')), AutoSeq1.wpAny_loadPart' hl, AutoSeq1.wpAny_loadPart' hb; exact ⟨_, rfl, h⟩
theorem mt_extT {X : Cx} : MtM X "list.extend" (r0ExtT X.K) := by
  intro pins s σ H x vs v us Q I rx rv h
  obtain ⟨l, b, xs, zs, rfl, rfl, hH, hB, hz, q⟩ := h
  cases rx
  obtain ⟨u, rfl, ru⟩ := rv.one
  cases ru
  obtain ⟨z, its, n, r, hl, e⟩ := I.lstM hH
  obtain ⟨its2, r2, ⟨⟨cls, dd, data, sl⟩, e2, hc, n2, hd⟩, hs⟩ := I.tuple hB
  simp only at hc hd
  subst hc hd
  have hl2 := r2.length
  have hsz : its.toArray.size + its2.toArray.size ≤ sizeLine := by rw [List.size_toArray, List.size_toArray]; omega
  have hlong : ¬ (!its.toArray.isEmpty && Builtin.List.listTooLong (its.toArray.size + its2.toArray.size)) = true := by
    rw [notLongL hsz, Bool.and_false]
    exact Bool.false_ne_true
  refine call_meets F.slot_list_extend ⟨_, e, rfl⟩ F.entry_list_extend (F.args_list_extend_2 _ _)
    (list_extend_tup l its.toArray n b its2.toArray n2 dd sl hlong (by rw [List.size_toArray]; omega) (by omega)) ⟨e, e2, ?_⟩
  refine ⟨.non, _, I.lset (its' := its ++ its2) hH e (by simp) (r.append r2) ?_, rfl, q⟩
  rw [List.length_append]
  omega
theorem mtr_of {X : Cx} {id : String} {r : V → List V → Hp → VK → Prop} (h : MtM X id r) : MtR X id r := h
def mExtend : PM := fun x ps M Q => match x, ps with
  | .ref a, [.tup zs] => ∃ xs, M a = some (.lst xs) ∧ xs.length + zs.length ≤ sizeLine ∧ Q .non (pupd M a (.lst (xs ++ zs)))
  | .ref a, [.ref b] => ∃ xs zs, M a = some (.lst xs) ∧ M b = some (.lst zs) ∧ xs.length + zs.length ≤ sizeLine ∧ Q .non (pupd M a (.lst (xs ++ zs)))
  | _, _ => False
theorem mono_extend : MonoM mExtend := by
  intro x ps M Q Q' k h
  unfold mExtend at h ⊢
  split at h
  · exact let ⟨xs, a, b, c⟩ := h; ⟨xs, a, b, k _ _ c⟩
  · exact let ⟨xs, zs, a, b, c, d⟩ := h; ⟨xs, zs, a, b, c, k _ _ d⟩
  · exact h
theorem mt_ext {X : Cx} : MtR X "list.extend" (fun x vs H Q => rExtend x vs H Q ∨ r0ExtT X.K x vs H Q) := MtR.or (mtr_of mt_extend) (mtr_of mt_extT)
theorem lift_extend {K : Fg} : LiftM K mExtend (fun x vs H Q => rExtend x vs H Q ∨ r0ExtT K x vs H Q) := by
  intro M H x ps v vs Q rh rx r h
  unfold mExtend at h
  split at h
  · obtain ⟨u, rfl, ru⟩ := reps1 r
    rw [Rep] at rx; subst rx
    rw [Rep] at ru
    obtain ⟨b, ws, rfl, hs, r2⟩ := ru
    obtain ⟨xs, e, hz, q⟩ := h
    obtain ⟨us, hu, rr⟩ := rh _ _ e
    exact .inr ⟨_, b, us, ws, rfl, rfl, hu, hs, by rw [← rr.length, ← r2.length]; exact hz, dn_wr rh e hu (rr.append r2) (by rw [Rep]) q⟩
  · obtain ⟨u, rfl, ru⟩ := reps1 r
    rw [Rep] at rx; subst rx
    rw [Rep] at ru; subst ru
    obtain ⟨xs, zs, e, e2, hz, q⟩ := h
    obtain ⟨us, hu, rr⟩ := rh _ _ e
    obtain ⟨ws, hw, r2⟩ := rh _ _ e2
    exact .inl ⟨_, _, us, ws, rfl, rfl, hu, hw, by rw [← rr.length, ← r2.length]; exact hz, dn_wr rh e hu (rr.append r2) (by rw [Rep]) q⟩
  · exact h.elim
/-! sep.join of a list just made, of a list or tuple -/
def strsOf : List PV → Option (List Str)
  | [] => some []
  | .str b :: r => (strsOf r).map (b :: ·)
  | _ => none
theorem strsOf_rep {K : Fg} {H : Hp} : ∀ {xs : List PV} {vs : List V} {bs : List Str}, strsOf xs = some bs → Reps K H xs vs → vs = bs.map V.str
  | [], vs, bs, e, r => by
    rw [Reps] at r
    cases e
    exact r
  | .str b :: t, vs, bs, e, r => by
    rw [Reps] at r
    obtain ⟨v, u, rfl, h1, h2⟩ := r
    rw [Rep] at h1; subst h1
    simp only [strsOf, Option.map_eq_some_iff] at e
    obtain ⟨cs, e1, rfl⟩ := e
    rw [strsOf_rep e1 h2]
    rfl
theorem strsOf_map : ∀ bs : List Str, strsOf (bs.map PV.str) = some bs
  | [] => rfl
  | b :: r => by simp [strsOf, strsOf_map r]
/-- sep.join(l), l just made -/
def wJoinL (o : WE) (l : WL) : WE := fun EP s M Q => o EP s M fun x M1 => match x with
  | .str sep => l EP s M1 fun xs M2 => match strsOf xs with
    | some ys => (ys.map (·.length)).sum + ys.length * sep.length ≤ 16777216 ∧ Q (.str (Str.join sep ys)) M2
    | none => False
  | _ => False
theorem txt_join (a : Str) (ys : List Str) : Txt.join a ys = Str.join a ys := TL.join_eq a ys
theorem ee_joinL {X : Cx} {W : WX} {o e : Expr} {wo : WE} {wl : WL} {apos pos : Pos} (ho : EE X W o wo) (he : EL X W e wl) (hs : starEach [e] X.env = [(false, eval e X.env)] := by rfl) (hbase : attributeBase o "join" X.env (eval o X.env) = eval o X.env := by rfl) (hline : (apos.endLine == pos.line) = true := by rfl) :
    EE X W (.Call (.Attribute o "join" apos) [e] [] pos) (wJoinL wo wl) := by
  refine ⟨fun EP s M Q Q' k h => ho.mono _ _ _ _ _ (fun x M1 z => ?_) h, pe_weak (pe_join ho.run he.run hs hbase hline) ?_⟩
  · cases x with
    | str sep => exact he.mono _ _ _ _ _ (fun xs M2 z2 => by
        split at z2
        · exact ⟨z2.1, k _ _ z2.2⟩
        · exact z2) z
    | _ => exact z
  · rintro σ H Q ⟨EP, s, M, c, h⟩
    refine c.use ho.mono h fun x M1 v H1 h1 S1 c1 r1 => ?_
    cases x with
    | str sep =>
      rw [Rep] at r1; subst r1
      refine ⟨⟨_, rfl⟩, ?_⟩
      refine c1.useL he.mono h1 fun xs M2 D vs H2 h2 S2 c2 n w e1 rr z => ?_
      split at h2
      · rename_i ys e2
        have e3 := strsOf_rep e2 rr
        subst e3
        refine ⟨sep, D, ys, rfl, rfl, .inl (SqL.of e1), h2.1, ?_⟩
        rw [txt_join]
        exact h2.2 _ H2 (S1.trans S2) c2.rh (by rw [Rep])
      · exact h2.elim
    | _ => exact h1.elim
/-! ## stores -/
def rStL (o i v : PV) (M : PH) (Q : PH → Prop) : Prop := match o, i with
  | .ref a, .int k => ∃ xs j, M a = some (.lst xs) ∧ ixN xs.length k = some j ∧ Q (pupd M a (.lst (xs.set j v)))
  | _, _ => False
/-- o[i] = e: e first, then o, then i -/
def wStL (o i e : WE) : WS := fun EP D s M => e EP s M fun v M1 => o EP s M1 fun x M2 => i EP s M2 fun y M3 => rStL x y v M3 fun M4 => D.nx s M4
theorem es_stL {X : Cx} {W : WX} {o i e : Expr} {wo wi we : WE} {pos pos' : Pos} (ho : EE X W o wo) (hi : EE X W i wi) (he : EE X W e we)
    (ha : ∀ v, assign (.Subscript o i pos) X.env v = (do
      let ov ← holding [v] (eval o X.env)
      let iv ← holding [v, ov] (eval i X.env)
      standAt pos
      holding [v, ov, iv] (setItem ov iv v)
      release [v, ov, iv] []) := by intro _; rfl)
    (hs : swapsWithSole [.Subscript o i pos] e pos'.line X.env = pure false := by rfl) (hw : swappedStores [.Subscript o i pos] e X.env = pure none := by rfl)
    (h1 : (assignEach [.Subscript o i pos] X.env).map (·.2) = [assign (.Subscript o i pos) X.env] := by rfl) : ES X W (.Assign [.Subscript o i pos] e pos') (wStL wo wi we) := by
  refine ⟨fun EP D D' s M k h => he.mono _ _ _ _ _ (fun v M1 z1 => ho.mono _ _ _ _ _ (fun x M2 z2 => hi.mono _ _ _ _ _ (fun y M3 z3 => ?_) z2) z1) h, ps_weak (ps_asg he.run (pg_sub ho.run hi.run set_list ha) hs hw h1) ?_⟩
  · unfold rStL at z3 ⊢
    split at z3
    · exact let ⟨xs, j, a, b, c⟩ := z3; ⟨xs, j, a, b, k.nx _ _ c⟩
    · exact z3
  · rintro D σ H ⟨EP, s, M, c, h⟩
    refine c.use he.mono h fun v M1 vv H1 h1 S1 c1 r1 => ?_
    refine c1.use ho.mono h1 fun x M2 xv H2 h2 S2 c2 r2 => ?_
    refine c2.use hi.mono h2 fun y M3 yv H3 h3 S3 c3 r3 => ?_
    unfold rStL at h3
    split at h3
    · rename_i a k
      obtain ⟨xs, j, e1, e2, q⟩ := h3
      rw [Rep] at r2; subst r2
      rw [Rep] at r3; subst r3
      obtain ⟨us, hu, rr⟩ := c3.rh _ _ e1
      have hw : Wr M3 a := ⟨_, e1, rfl⟩
      have t : TKeep H3 (upd H3 a (.lst (us.set j vv))) := tk_upd (c3.rh.notup hw)
      have rv : Rep X.K H3 v vv := (r1.tk (S2.tk c1.rh)).tk (S3.tk c2.rh)
      refine ⟨a, us, _, j, rfl, rfl, hu, by rw [← rr.length]; exact e2, ?_⟩
      exact q σ _ (((S1.trans S2).trans S3).trans (Step.write hw)) (c3.rh.upd_both (c3.rh.notup hw) ⟨_, upd_same, (rr.set rv j).tk t⟩) (c3.rs.tk t)
    · exact h3.elim
/-! ## more that is walked -/
def iRg1 (a : WA) : WI := fun EP s M Q => a EP s M fun ps M1 => match ps with
  | [.int j] => -(2 ^ 62) ≤ j ∧ j < 2 ^ 62 ∧ Q ⟨(List.range j.toNat).map fun i => .int (i : Nat), fun _ => True⟩ M1
  | _ => False
def iRg2 (a : WA) : WI := fun EP s M Q => a EP s M fun ps M1 => match ps with
  | [.int i, .int j] => (-(2 ^ 62) ≤ i ∧ i < 2 ^ 62 ∧ -(2 ^ 62) ≤ j ∧ j < 2 ^ 62) ∧ Q ⟨(List.range (j - i).toNat).map fun k => .int (i + (k : Nat)), fun _ => True⟩ M1
  | _ => False
section
variable {X : Cx} {W : WX} {tg : Expr}
theorem itr_ok {K : Fg} {lo : Int} {n : Nat} {M : PH} {H : Hp} : ItOk K (Itr lo n) ⟨(List.range n).map fun k => .int (lo + (k : Nat)), fun _ => True⟩ M H := by
  intro i M2 H2 S2 rh2 _
  refine ⟨fun p hp => ?_, fun hi => ?_⟩
  · have hp' : ((List.range n).map fun k : Nat => PV.int (lo + (k : Nat)))[i]? = some p := hp
    rw [List.getElem?_map] at hp'
    obtain ⟨k, e1, e2⟩ := Option.map_eq_some_iff.mp hp'
    have hlt : i < n := by
      have := (List.getElem?_eq_some_iff.mp e1).1
      simpa using this
    rw [List.getElem?_range hlt] at e1
    cases e1
    refine ⟨hlt, fun x H' hy => ?_⟩
    obtain ⟨rfl, rfl⟩ := hy
    exact ⟨.refl _ _, rh2, by rw [← e2, Rep]⟩
  · have hi' : i = ((List.range n).map fun k : Nat => PV.int (lo + (k : Nat))).length := hi
    simp only [List.length_map, List.length_range] at hi'
    exact Nat.le_of_eq hi'.symm
theorem ei_range1 {a : Expr} {wa : WA} {p pos : Pos} (hm : X.mg "range" = none) (ha : EA X W [a] wa) (hg : Gl X "range" := by rfl) (hs : starEach [a] X.env = [(false, eval a X.env)] := by rfl) : EI X W tg (.Call (.Name "range" p) [a] [] pos) (iRg1 wa) := by
  refine ⟨fun EP s M Q Q' k h => ha.mono _ _ _ _ _ (fun ps M1 z => ?_) h, pi_weak (pi_range1 hg hm ha.run hs) ?_⟩
  · split at z
    · exact ⟨z.1, z.2.1, k _ _ z.2.2⟩
    · exact z
  · rintro σ H R ⟨EP, s, M, c, h⟩
    refine c.useA ha.mono h fun ps M1 vs H1 h1 S1 c1 r1 => ?_
    split at h1
    · obtain ⟨v, rfl, rv⟩ := reps1 r1
      rw [Rep] at rv; subst rv
      refine ⟨_, rfl, h1.1, h1.2.1, h1.2.2 _ H1 S1 c1.rh ?_⟩
      have := itr_ok (K := X.K) (lo := 0) (n := ‹Int›.toNat) (M := M1) (H := H1)
      simpa using this
    · exact h1.elim
theorem ei_range2 {a b : Expr} {wa : WA} {p pos : Pos} (hm : X.mg "range" = none) (ha : EA X W [a, b] wa) (hg : Gl X "range" := by rfl) (hs : starEach [a, b] X.env = [(false, eval a X.env), (false, eval b X.env)] := by rfl) (hs2 : starEach [b] X.env = [(false, eval b X.env)] := by rfl) : EI X W tg (.Call (.Name "range" p) [a, b] [] pos) (iRg2 wa) := by
  refine ⟨fun EP s M Q Q' k h => ha.mono _ _ _ _ _ (fun ps M1 z => ?_) h, pi_weak (pi_range2 hg hm ha.run hs hs2) ?_⟩
  · split at z
    · exact ⟨z.1, k _ _ z.2⟩
    · exact z
  · rintro σ H R ⟨EP, s, M, c, h⟩
    refine c.useA ha.mono h fun ps M1 vs H1 h1 S1 c1 r1 => ?_
    split at h1
    · obtain ⟨v, u, rfl, rv, ru⟩ := reps2 r1
      rw [Rep] at rv; subst rv
      rw [Rep] at ru; subst ru
      exact ⟨_, _, rfl, h1.1, h1.2 _ H1 S1 c1.rh itr_ok⟩
    · exact h1.elim
end
end PL
set_option autoImplicit false
namespace PL
open PySem PySem.Spec L2
open PyProof.Rows hiding St

/-! ## the end: from the law's promise to what the row asks -/
/-- what the law's def is asked: one argument, the script, read only -/
def LawP (B : Int → Prop) : PSp := fun ps M Q _ => ∃ (a : Addr) (ns : List Int), ps = [.ref a] ∧ M a = some (.rol (ns.map PV.int)) ∧ (∀ b, b ≠ a → M b = none) ∧ ns.length ≤ 63 ∧ (∀ z ∈ ns, B z) ∧ ∀ M', Q (.bl true) M'
theorem mono_law {B : Int → Prop} : MonoP (LawP B) := by
  intro ps M Q Q' E E' k _ h
  obtain ⟨a, ns, h1, h2, h3, h4, h5, h6⟩ := h
  exact ⟨a, ns, h1, h2, h3, h4, h5, fun M' => k _ _ (h6 M')⟩
theorem law_sp {K : Fg} {H : Hp} {a : Addr} {ns : List Int} {B : Int → Prop} {E : XK} (hl : ns.length ≤ 63) (hb : ∀ z ∈ ns, B z) (hO : Only H) (hS : SqL K H a (ns.map V.int)) : spOf K 1 (LawP B) [.ref a] H (fun v _ => v = .bl true) E := by
  refine ⟨[.ref a], fun b => if b = a then some (.rol (ns.map PV.int)) else none, rfl, .cons (by rw [Rep]) .nil, fun b o e => ?_, a, ns, rfl, if_pos rfl, fun b hb => if_neg hb, hl, hb, fun M' v H' _ _ r => by rw [Rep] at r; exact r⟩
  by_cases hb : b = a
  · subst hb
    have e2 : some (PO.rol (ns.map PV.int)) = some o := (if_pos rfl).symm.trans e
    cases e2
    refine ⟨ns.map V.int, ?_, Reps.ints⟩
    rcases hS with (h | ⟨ob, h⟩) | h
    · rcases hO b with z | ⟨_, _, z⟩
      · rw [h] at z; cases z
      · rw [h] at z; cases z
    · exact .inl ⟨ob, h⟩
    · exact .inr h
  · have e2 : none = some o := (if_neg hb).symm.trans e
    cases e2
theorem law_callG {P : Program} {w : World} {K : Fg} {mg mb : Str → Option Value} {k : Nat} {fa a : Addr} {fd : FuncData} {x : Str} {B : Int → Prop} {st : Shared} {vs : List Value} {ns : List Int}
    (KX : K.In st.heap) (hns : st.heap.Ns mainGlobals mg) (hbn : st.heap.Ns builtinsNs mb) (hbb : ∀ y : Str, y ≠ "__name__" → mb y = bootBuiltins y) (hlim : st.heap.NoLimit) (hg : st.gens = #[])
    (ha : st.heap.get? a = some { cls := .type "list", data := .seq vs.toArray }) (hi : IntsAre vs ns) (hl : ns.length ≤ 63) (hB : ∀ z ∈ ns, B z) (hr : Room k callerA)
    (F : ∀ base : Heap, K.In base → base.Ns mainGlobals mg → FnG P w K mg base k fa fd [x] (LawP B)) (hbind : ∀ (s : Shared) (u : Value), BindsTo s fd ⟨[u], []⟩ [(x, u)]) :
    codeAny (model P w) callerA (.call (.ref fa) ⟨[.ref a], []⟩) (fun r s' => r = .ok (.ret (.bool true)) ∧ OldK st.heap s'.heap ∧ s'.os = st.os ∧ AllBare s'.gens) st := by
  have rv := vals_ints hi
  have lv : vs.length = ns.length := hi.length
  have hline : ns.length ≤ sizeLine := by rw [sizeLine_eq]; omega
  suffices key : ∀ H : Hp, Only H → SqL K H a (ns.map V.int) → HOk P w H st.heap → (∀ b, H b ≠ none → b = a ∧ K.lookup a = none) →
      codeAny (model P w) callerA (.call (.ref fa) ⟨[.ref a], []⟩) (fun r s' => r = .ok (.ret (.bool true)) ∧ OldK st.heap s'.heap ∧ s'.os = st.os ∧ AllBare s'.gens) st by
    cases hk : K.lookup a with
    | some o =>
      have e := KX a o hk
      rw [ha] at e
      cases e
      refine key (fun _ => none) (fun _ => .inl rfl) (.inr ⟨_, vs.toArray, _, hk, rfl, rfl, rfl, by rw [List.size_toArray, lv]; exact hline, by simpa using rv⟩) (fun b u z => ?_) fun b z => absurd rfl z
      have z2 : (none : Option HO) = some u := z
      cases z2
    | none =>
      refine key (fun b => if b = a then some (.frz { cls := .type "list", data := .seq vs.toArray } (.lst (ns.map V.int))) else none) (fun b => ?_) (.inl (.inr ⟨_, if_pos rfl⟩)) (fun b u z => ?_) fun b z => ?_
      · by_cases hb : b = a
        · exact .inr ⟨_, _, if_pos hb⟩
        · exact .inl (if_neg hb)
      · by_cases hb : b = a
        · cases (if_pos hb).symm.trans z
          subst hb
          exact ⟨ha, by rw [List.length_map]; exact hline, vs, _, rv, ha⟩
        · cases (if_neg hb).symm.trans z
      · by_cases hb : b = a
        · exact ⟨hb, hk⟩
        · exact absurd (if_neg hb) z
  intro H hO hS hok hA
  have down : ∀ {b : Addr} {o : Obj}, st.heap.get? b = some o → H b = none → (hidT st.heap H).get? b = some o := fun e n => hidT_get e n
  have nd : ∀ {b : Addr} {o : Obj} {es : Array DictEntry} {ep : Nat}, st.heap.get? b = some o → o.data = .dict es ep → H b = none := by
    intro b o es ep e d
    by_cases q : H b = none
    · exact q
    · have e2 := (hA b q).1
      subst e2
      rw [ha] at e
      cases e
      cases d
  have nsK : ∀ {b : Addr} {m : Str → Option Value}, st.heap.Ns b m → (hidT st.heap H).Ns b m := by
    rintro b m ⟨o, es, ep, e, d, r⟩
    exact ⟨o, es, ep, down e (nd e d), d, r⟩
  have hKb : K.In (hidT st.heap H) := fun b o e => by
    refine down (KX b o e) ?_
    by_cases q : H b = none
    · exact q
    · obtain ⟨e2, e3⟩ := hA b q
      subst e2
      rw [e3] at e; cases e
  have hM : Mod K mg (hidT st.heap H) := ⟨hKb, nsK hns, ⟨mb, nsK hbn, hbb⟩, let ⟨mc, h1, h2⟩ := hlim; ⟨mc, nsK h1, h2⟩⟩
  have e0 : Env0 P w K mg (hidT st.heap H) callerA [] st H :=
    { frames := rfl, mod := hM, bs := fun b o e => of_hidT e, bsz := Nat.le_of_eq (hidT_size _ _), funs := trivial, frf := fun b hb => absurd (show b ∈ ([] : List Addr) from hb) (by simp), hok := hok, bare := .of_eq hg }
  refine codeAny_mono ((F _ hKb (nsK hns)).run callerA [] st H ⟨[.ref a], []⟩ [.ref a] [.ref a] _ (fun _ _ _ => False) hr rfl e0 (hbind st (.ref a)) (.cons rfl .nil) (law_sp hl hB hO hS)) fun r s' h => ?_
  match r, h with
  | .error e, h => exact (by obtain ⟨_, _, _, _, _, _, _, _, _, _, _, _, z⟩ := h; exact z.elim)
  | .ok .next, h => exact h.elim
  | .ok .brk, h => exact h.elim
  | .ok .cont, h => exact h.elim
  | .ok (.ret u), h =>
    obtain ⟨v, H', os, bare, un, hok', r', q⟩ := h
    have q2 : v = .bl true := q
    subst q2
    obtain rfl : u = Value.bool true := r'
    refine ⟨rfl, OldK.of_keep fun b o e => ?_, os, bare⟩
    rcases hO b with z | ⟨ob, xs, z⟩
    · exact un.keep b o e z (by intro y; exact absurd (show b ∈ ([] : List Addr) from y) (by simp)) (by simp)
    · obtain ⟨e1, _⟩ := hok b _ z
      obtain ⟨e2, _⟩ := hok' b _ (un.frzs b ob _ z)
      rw [e] at e1; cases e1
      exact e2
/-- the goal that the head leaves -/
theorem walk_G {l : PySem.W.OpenLaw} {k : Nat} {q : Program} {loose : List Str} {XP : (Str → Option Value) → Heap → Prop} {YP : World → Heap → Prop} {d : DefRec} {K : Params → PySem.W.Frag} {x : Str}
    (hn : l.most = some 63) (hdf : d.params.defaults = []) (hr : Room k callerA) (hY : ∀ (w : World) (h : Heap), YP w h → (K w.params).In h)
    (F : ∀ (w : World) (mg : Str → Option Value) (fa : Addr) (h : Heap), (K w.params).In h → h.Ns mainGlobals mg → mg d.name = some (.ref fa) →
      ∃ fd : FuncData, (∀ (s : Shared) (u : Value), BindsTo s fd ⟨[u], []⟩ [(x, u)]) ∧ ∀ base : Heap, (K w.params).In base → base.Ns mainGlobals mg → FnG l.prog w (K w.params) mg base k fa fd [x] (LawP fun z => Builtin.Int.intBits z ≤ 1048576)) :
    PySem.W.WalkO q loose XP YP l.row.toRowW d [] (fun f vs => PySem.call f vs) := by
  refine Att.attach_callB hn hdf fun w s₀ s₁ mg mb fa o pm cd doc a vs ns G Y ho hd hcd hmg hobj hints hlen hbits hg => ?_
  have KX := hY w _ Y
  obtain ⟨fd, hb, hF⟩ := F w mg fa _ KX G.T.g hmg
  exact law_callG KX G.T.g G.T.b G.T.builtins G.T.nolimit hg hobj hints hlen hbits hr hF hb
theorem hu100 {A : Around} {k : Nat} (hr : Room k A) : A.units + 100 < cLine := by have := hr.un; omega
theorem hu65 {A : Around} {k : Nat} (hr : Room k A) : A.units + 65 < cLine := by have := hr.un; omega
theorem hu64 {A : Around} {k : Nat} (hr : Room k A) : A.units + 64 < cLine := by have := hr.un; omega
end PL
set_option autoImplicit false
namespace PL
open PySem PySem.Spec L2
open PyProof.Rows hiding St

/-! ## lists just made, as operands -/
section
variable {X : Cx} {W : WX} {a b : Expr} {wa : WE} {wl wk : WL} {pos : Pos}
/-- xs + [..] -/
def wCatEL (e : WE) (l : WL) : WL := fun EP s M Q => e EP s M fun x M1 => l EP s M1 fun ys M2 => match x with
  | .ref a => ∃ xs, M2 a = some (.lst xs) ∧ xs.length + ys.length ≤ sizeLine ∧ Q (xs ++ ys) M2
  | _ => False
theorem el_catEL (ha : EE X W a wa) (hb : EL X W b wl) : EL X W (.BinOp a .Add b pos) (wCatEL wa wl) := by
  refine ⟨fun EP s M Q Q' k h => ha.mono _ _ _ _ _ (fun x M1 z => hb.mono _ _ _ _ _ (fun ys M2 z2 => ?_) z) h, pe_weak (pe_op op_cat ha.run hb.run) ?_⟩
  · cases x with
    | ref a => exact let ⟨xs, p, q, r⟩ := z2; ⟨xs, p, q, k _ _ r⟩
    | _ => exact z2
  · rintro σ H Q ⟨EP, s, M, c, h⟩
    refine c.use ha.mono h fun x M1 v H1 h1 S1 c1 r1 => ?_
    refine c1.useL hb.mono h1 fun ys M2 D vs H2 h2 S2 c2 n w e rr z => ?_
    cases x with
    | ref p =>
      obtain ⟨xs, e1, hz, q⟩ := h2
      rw [Rep] at r1; subst r1
      obtain ⟨us, hu, ru⟩ := c2.rh _ _ e1
      refine ⟨p, D, us, vs, rfl, rfl, hu, e, by rw [← ru.length, ← rr.length]; exact hz, ?_⟩
      exact dnL_new c2.rh (ru.append rr) (by rw [List.length_append]; exact hz) (q.on (S1.trans S2))
    | _ => exact h2.elim
/-- a comparison with a list just made -/
def wEqL (neg : Bool) (e : WE) (l : WL) : WE := fun EP s M Q => e EP s M fun x M1 => l EP s M1 fun ys M2 => match datM M2 x with
  | some d => purs ys = true ∧ shp d = true ∧ shp (.list (dats ys)) = true ∧ Q (.bl (if neg then !PyData.eqv d (.list (dats ys)) else PyData.eqv d (.list (dats ys)))) M2
  | none => False
theorem mono_eqL {neg : Bool} (ha : MonoE wa) (hb : MonoA wl) : MonoE (wEqL neg wa wl) := fun EP s M Q Q' k h => ha _ _ _ _ _ (fun x M1 z => hb _ _ _ _ _ (fun ys M2 z2 => by
  split at z2
  · exact ⟨z2.1, z2.2.1, z2.2.2.1, k _ _ z2.2.2.2⟩
  · exact z2) z) h
theorem up_eqL (ha : MonoE wa) (hb : MonoA wl) : ∀ σ H Q, up X.K W (wEqL false wa wl) σ H Q → tOp (rEqD X.K) (up X.K W wa) (upL X.K W wl) σ H Q := by
  rintro σ H Q ⟨EP, s, M, c, h⟩
  refine c.use ha h fun x M1 v H1 h1 S1 c1 r1 => ?_
  refine c1.useL hb h1 fun ys M2 D vs H2 h2 S2 c2 n w e rr z => ?_
  split at h2
  · rename_i d e1
    exact ⟨d, _, datM_dp c2.rh (r1.tk (S2.tk c1.rh)) e1, .lst (SqL.of e) (dps_of h2.1 rr), h2.2.1, h2.2.2.1, h2.2.2.2 _ H2 (S1.trans S2) c2.rh (by rw [Rep]; rfl)⟩
  · exact h2.elim
theorem up_neL (ha : MonoE wa) (hb : MonoA wl) : ∀ σ H Q, up X.K W (wEqL true wa wl) σ H Q → tOp (rNeD X.K) (up X.K W wa) (upL X.K W wl) σ H Q := by
  rintro σ H Q ⟨EP, s, M, c, h⟩
  refine c.use ha h fun x M1 v H1 h1 S1 c1 r1 => ?_
  refine c1.useL hb h1 fun ys M2 D vs H2 h2 S2 c2 n w e rr z => ?_
  split at h2
  · rename_i d e1
    exact ⟨d, _, datM_dp c2.rh (r1.tk (S2.tk c1.rh)) e1, .lst (SqL.of e) (dps_of h2.1 rr), h2.2.1, h2.2.2.1, h2.2.2.2 _ H2 (S1.trans S2) c2.rh (by rw [Rep]; rfl)⟩
  · exact h2.elim
theorem ee_eqL (hu : X.A.units + 64 < cLine) (ha : EE X W a wa) (hb : EL X W b wl) : EE X W (.Compare a [.Eq] [b] pos) (wEqL false wa wl) :=
  ⟨mono_eqL ha.mono hb.mono, pe_weak (pe_cmpR (op_eqD hu) ha.run hb.run (nomark _)) (up_eqL ha.mono hb.mono)⟩
theorem ee_neL (hu : X.A.units + 64 < cLine) (ha : EE X W a wa) (hb : EL X W b wl) : EE X W (.Compare a [.NotEq] [b] pos) (wEqL true wa wl) :=
  ⟨mono_eqL ha.mono hb.mono, pe_weak (pe_cmpR (op_neD hu) ha.run hb.run (nomark _)) (up_neL ha.mono hb.mono)⟩
theorem et_eqL (hu : X.A.units + 64 < cLine) (ha : EE X W a wa) (hb : EL X W b wl) : ET X W (.Compare a [.Eq] [b] pos) (wTest (wEqL false wa wl)) :=
  ⟨mono_test (mono_eqL ha.mono hb.mono), pt_weak (pt_cmpR (op_eqD hu) ha.run hb.run (nomark _)) fun σ H Q h => up_eqL (W := W) ha.mono hb.mono σ H _ (up_test (mono_eqL ha.mono hb.mono) σ H Q h)⟩
theorem et_neL (hu : X.A.units + 64 < cLine) (ha : EE X W a wa) (hb : EL X W b wl) : ET X W (.Compare a [.NotEq] [b] pos) (wTest (wEqL true wa wl)) :=
  ⟨mono_test (mono_eqL ha.mono hb.mono), pt_weak (pt_cmpR (op_neD hu) ha.run hb.run (nomark _)) fun σ H Q h => up_neL (W := W) ha.mono hb.mono σ H _ (up_test (mono_eqL ha.mono hb.mono) σ H Q h)⟩
/-- [..][i] -/
def wIxL (l : WL) (i : WE) : WE := fun EP s M Q => l EP s M fun xs M1 => i EP s M1 fun y M2 => match y with
  | .int k => match atI xs k with
    | some p => Q p M2
    | none => False
  | _ => False
theorem ee_ixL (hl : EL X W a wl) (hi : EE X W b wa) (hs : PlainIx b := by exact fun _ _ => rfl) : EE X W (.Subscript a b pos) (wIxL wl wa) := by
  refine ⟨fun EP s M Q Q' k h => hl.mono _ _ _ _ _ (fun xs M1 z => hi.mono _ _ _ _ _ (fun y M2 z2 => ?_) z) h, pe_weak (pe_ix ix_seq hl.run hi.run hs) ?_⟩
  · cases y with
    | int j =>
      dsimp only at z2 ⊢
      split at z2
      · exact k _ _ z2
      · exact z2
    | _ => exact z2
  · rintro σ H Q ⟨EP, s, M, c, h⟩
    refine c.useL hl.mono h fun xs M1 D vs H1 h1 S1 c1 n w e rr z => ?_
    refine c1.use hi.mono h1 fun y M2 v H2 h2 S2 c2 r2 => ?_
    cases y with
    | int j =>
      rw [Rep] at r2; subst r2
      dsimp only at h2
      split at h2
      · rename_i p e1
        have r3 := rr.tk (S2.tk c1.rh)
        obtain ⟨u, e2, ru⟩ := atI_rep r3 e1
        exact .inl ⟨D, vs, j, u, rfl, rfl, SqL.of (S2.keep D _ e w), e2, h2 u H2 (S1.trans S2) c2.rh ru⟩
      · exact h2.elim
    | _ => exact h2.elim
/-- -a -/
def wNeg (e : WE) : WE := fun EP s M Q => e EP s M fun x M1 => match x with
  | .int i => Q (.int (-i)) M1
  | _ => False
theorem ee_neg (ha : EE X W a wa) : EE X W (.UnaryOp .USub a pos) (wNeg wa) := by
  refine ⟨fun EP s M Q Q' k h => ha.mono _ _ _ _ _ (fun x M1 z => ?_) h, pe_weak (pe_un un_neg ha.run) ?_⟩
  · cases x with
    | int i => exact k _ _ z
    | _ => exact z
  · rintro σ H Q ⟨EP, s, M, c, h⟩
    refine c.use ha.mono h fun x M1 v H1 h1 S1 c1 r1 => ?_
    cases x with
    | int i => rw [Rep] at r1; exact ⟨i, r1, h1 _ H1 S1 c1.rh (by rw [Rep])⟩
    | _ => exact h1.elim
end
/-! ## promises -/
def pN (n : Nat) (p : PSp) : PSp := fun ps M Q E => ps.length = n ∧ p ps M Q E
theorem pN_len {n : Nat} {p : PSp} : LenP (pN n p) n := fun _ _ _ _ h => h.1
theorem pN_mono {n : Nat} {p : PSp} (h : MonoP p) : MonoP (pN n p) := fun ps M Q Q' E E' k k2 z => ⟨z.1, h _ _ _ _ _ _ k k2 z.2⟩
/-- a def that gives f of its arguments, where C holds of them, and leaves what stands as it is -/
def pF (C : List PV → PH → Prop) (f : List PV → PH → PV) : PSp := fun ps M Q _ => C ps M ∧ Q (f ps M) M
theorem pF_mono {C : List PV → PH → Prop} {f : List PV → PH → PV} : MonoP (pF C f) := fun ps M Q Q' E E' k _ z => ⟨z.1, k _ _ z.2⟩
theorem lenLaw {B : Int → Prop} : LenP (LawP B) 1 := fun ps M Q E h => by
  obtain ⟨a, ns, e, _⟩ := h
  rw [e]; rfl
/-- a tuple that the top has written -/
theorem rep_ktup {K : Fg} {H : Hp} {a : Addr} {xs : List PV} {vs : List V} {o : Obj} {its : Array Value} {n : Nat} (hk : K.lookup a = some o) (hc : o.cls = .type "tuple") (hd : o.data = .seq its n) (hz : its.size ≤ sizeLine) (hv : Vals vs its.toList) (r : Reps K H xs vs) : Rep K H (.tup xs) (.ref a) := by
  rw [Rep]
  exact ⟨a, vs, rfl, .inr ⟨o, its, n, hk, hc, hd, hz, hv⟩, r⟩
end PL
set_option autoImplicit false
namespace PL
open PySem PySem.Spec L2
open PyProof.Rows hiding St

/-- over a tuple, a list that stands, the signs of a text -/
def iAny (e : WE) : WI := fun EP s M Q => e EP s M fun p M1 => match p with
  | .tup xs => Q ⟨xs, fun _ => True⟩ M1
  | .ref a => match listAt M1 a with
    | some xs => Q ⟨xs, fun M => listAt M a = some xs⟩ M1
    | none => False
  | .str z => Q ⟨z.cps.toList.map fun c => .str ⟨#[c]⟩, fun _ => True⟩ M1
  | _ => False
section
variable {X : Cx} {W : WX} {tg e : Expr} {we : WE}
theorem it_tup {K : Fg} {a : Addr} {xs : List PV} {vs : List V} {M : PH} {H : Hp} (rh : RepH K H M) (hs : SqT K H a vs) (r : Reps K H xs vs) : ItOk K (Itt K a) ⟨xs, fun _ => True⟩ M H := by
  intro i M2 H2 S2 rh2 _
  have t := S2.tk rh
  refine ⟨fun p hp => ?_, fun hi => ⟨vs, sqt_keep t hs, by rw [← r.length, hi]; exact Nat.le_refl _⟩⟩
  obtain ⟨v, hv, rv⟩ := r.get hp
  refine ⟨⟨vs, v, sqt_keep t hs, hv⟩, fun x H' hy => ?_⟩
  obtain ⟨rfl, hy⟩ := hy
  have e1 := hy vs (sqt_keep t hs)
  rw [hv] at e1; cases e1
  exact ⟨.refl _ _, rh2, rv.tk t⟩
theorem it_list {K : Fg} {a : Addr} {xs : List PV} {M : PH} {H : Hp} : ItOk K (Itl K a) ⟨xs, fun M => listAt M a = some xs⟩ M H := by
  intro i M2 H2 S2 rh2 ok
  obtain ⟨vs, rr, hl⟩ := listAt_rd rh2 ok
  refine ⟨fun p hp => ?_, fun hi => ⟨vs, hl, by rw [← rr.length, hi]; exact Nat.le_refl _⟩⟩
  obtain ⟨v, hv, rv⟩ := rr.get hp
  refine ⟨⟨vs, v, hl, hv⟩, fun x H' hy => ?_⟩
  obtain ⟨rfl, hy⟩ := hy
  have e1 := hy vs hl
  rw [hv] at e1; cases e1
  exact ⟨.refl _ _, rh2, rv⟩
theorem it_str {K : Fg} {x : Str} {M : PH} {H : Hp} : ItOk K (Its x) ⟨x.cps.toList.map fun c => .str ⟨#[c]⟩, fun _ => True⟩ M H := by
  intro i M2 H2 S2 rh2 _
  refine ⟨fun p hp => ?_, fun hi => ?_⟩
  · have hp' : (x.cps.toList.map fun c => PV.str ⟨#[c]⟩)[i]? = some p := hp
    rw [List.getElem?_map] at hp'
    obtain ⟨cc, e1, e2⟩ := Option.map_eq_some_iff.mp hp'
    have e3 : x.cps[i]? = some cc := by simpa using e1
    refine ⟨(Array.getElem?_eq_some_iff.mp e3).1, fun y H' hy => ?_⟩
    obtain ⟨rfl, c', e4, rfl⟩ := hy
    rw [e3] at e4; cases e4
    exact ⟨.refl _ _, rh2, by rw [← e2, Rep]⟩
  · have hi' : i = (x.cps.toList.map fun c => PV.str ⟨#[c]⟩).length := hi
    simp only [List.length_map, Array.length_toList] at hi'
    exact Nat.le_of_eq hi'.symm
theorem ei_any (h : EE X W e we) : EI X W tg e (iAny we) := by
  refine ⟨fun EP s M Q Q' k q => h.mono _ _ _ _ _ (fun p M1 z => ?_) q, ⟨fun pins s σ H R I q => ?_⟩⟩
  · cases p with
    | tup xs => exact k _ _ z
    | str x => exact k _ _ z
    | ref a =>
      dsimp only at z ⊢
      split at z
      · exact k _ _ z
      · exact z
    | _ => exact z
  · obtain ⟨EP, sp, M, c, q⟩ := q
    have q2 : up X.K W we σ H fun v H1 => ∃ p M1, Step M H M1 H1 ∧ RepH X.K H1 M1 ∧ Rep X.K H1 p v ∧ (match p with
        | .tup xs => DnI X.K M H R ⟨xs, fun _ => True⟩ M1
        | .ref a => match listAt M1 a with
          | some xs => DnI X.K M H R ⟨xs, fun M => listAt M a = some xs⟩ M1
          | none => False
        | .str z => DnI X.K M H R ⟨z.cps.toList.map fun c => .str ⟨#[c]⟩, fun _ => True⟩ M1
        | _ => False) := c.use h.mono q fun p M1 v H1 h1 S c1 r => ⟨p, M1, S, c1.rh, r, h1⟩
    refine thn (h.run.run pins s σ H _ I q2) fun v s1 ⟨x, H1, I1, r1, p, M1, S, rh, rp, h1⟩ => ?_
    cases p with
    | tup xs =>
      rw [Rep] at rp
      obtain ⟨a, vs, rfl, hs, rr⟩ := rp
      cases r1
      obtain ⟨its, rv, pl, hz⟩ := I1.tuple hs
      exact wpAny_pyIter_tuple (show s1.heap.IsTuple a its.toArray from pl) (pi_one (tk := s1.toks) I1 _ (turn_tuple a _) ⟨_, Heap.get?_push_size _ rfl, rfl, rfl⟩ (h1 _ H1 S rh (it_tup rh hs rr)))
    | ref a =>
      rw [Rep] at rp
      subst rp
      cases r1
      dsimp only at h1
      split at h1
      · rename_i xs e1
        obtain ⟨vs, rr, hl⟩ := listAt_rd rh e1
        obtain ⟨its, rv, pl, hz⟩ := I1.list hl
        exact wpAny_pyIter_list pl.isList (pi_one (tk := s1.toks) I1 _ (turn_list a _) ⟨_, Heap.get?_push_size _ rfl, rfl, rfl⟩ (h1 _ H1 S rh it_list))
      · exact h1.elim
    | str z =>
      rw [Rep] at rp
      subst rp
      obtain ⟨t, rfl⟩ := r1
      cases ha : z.cps.all (· < 128)
      · exact wpAny_pyIter_wide ha (pi_one (tk := s1.toks) I1 _ (turn_str _ z t "str_iterator" (.inr rfl)) ⟨_, Heap.get?_push_size _ rfl, rfl, rfl⟩ (h1 _ H1 S rh it_str))
      · exact wpAny_pyIter_ascii ha (pi_one (tk := s1.toks) I1 _ (turn_str _ z t "str_ascii_iterator" (.inl rfl)) ⟨_, Heap.get?_push_size _ rfl, rfl, rfl⟩ (h1 _ H1 S rh it_str))
    | _ => exact h1.elim
end
end PL
set_option autoImplicit false
namespace PL
open PySem PySem.Spec L2
open PyProof.Rows hiding St

/-! ## one step at a time -/
section
variable {EP : PX} {D : PEnds} {s : PSt} {M : PH} {Q : QE} {QB : Bool → PH → Prop} {QA : List PV → PH → Prop}
theorem wSeq_i {t u : WS} (h : t EP { D with nx := u EP D } s M) : wSeq t u EP D s M := h
theorem wNext_i (h : D.nx s M) : wNext EP D s M := h
theorem wDrop_i {e : WE} (h : e EP s M fun _ M1 => D.nx s M1) : wDrop e EP D s M := h
theorem wRet_i {e : WE} (h : e EP s M D.rt) : wRet e EP D s M := h
theorem wSet_i {i : Nat} {e : WE} (h : e EP s M fun p M1 => D.nx (s.set i (some p)) M1) : wSet i e EP D s M := h
theorem wIf_i {c : WT} {t u : WS} (h : c EP s M fun b M1 => if b = true then t EP D s M1 else u EP D s M1) : wIf c t u EP D s M := h
theorem wVar_i {i : Nat} {p : PV} (e : s[i]? = some (some p)) (h : Q p M) : wVar i EP s M Q := by unfold wVar; rw [e]; exact h
theorem wC_i {p : PV} (h : Q p M) : wC p EP s M Q := h
theorem wNil_i (h : QA [] M) : wNil EP s M QA := h
theorem wCons_i {a : WE} {r : WA} (h : a EP s M fun x M1 => r EP s M1 fun xs M2 => QA (x :: xs) M2) : wCons a r EP s M QA := h
theorem wTup_i {a : WA} (h : a EP s M fun xs M1 => xs.length ≤ sizeLine ∧ Q (.tup xs) M1) : wTup a EP s M Q := h
theorem wNew_i {l : WL} (h : l EP s M fun xs M1 => ∀ D, ¬ Wr M D → ¬ Wr M1 D → Q (.ref D) (pupd M1 D (.lst xs))) : wNew l EP s M Q := h
theorem wDisp_i {a : WA} (h : a EP s M fun xs M1 => xs.length ≤ sizeLine ∧ QA xs M1) : wDisp a EP s M QA := h
theorem wOp_i {r : PR2} {a b : WE} (h : a EP s M fun x M1 => b EP s M1 fun y M2 => r x y M2 Q) : wOp r a b EP s M Q := h
def qBl (QB : Bool → PH → Prop) : QE := fun p M1 => match p with
  | .bl k => QB k M1
  | _ => False
theorem qBl_i {k : Bool} (h : QB k M) : qBl QB (.bl k) M := h
theorem wTest_i {w : WE} (h : w EP s M (qBl QB)) : wTest w EP s M QB := h
theorem wTru_i {w : WE} (h : w EP s M fun p M1 => truV p M1 QB) : wTru w EP s M QB := h
theorem truV_bl {b : Bool} (h : QB b M) : truV (.bl b) M QB := h
theorem wAndT_i {t u : WT} (h : t EP s M fun c M1 => if c = true then u EP s M1 QB else QB false M1) : wAndT t u EP s M QB := h
theorem wOrT_i {t u : WT} (h : t EP s M fun c M1 => if c = true then QB true M1 else u EP s M1 QB) : wOrT t u EP s M QB := h
theorem wNotT_i {t : WT} (h : t EP s M fun c M1 => QB (!c) M1) : wNotT t EP s M QB := h
def qAnd (u : WE) (EP : PX) (s : PSt) (Q : QE) : QE := fun x M1 => match x with
  | .bl c => if c = true then u EP s M1 Q else Q (.bl false) M1
  | _ => False
def qOr (u : WE) (EP : PX) (s : PSt) (Q : QE) : QE := fun x M1 => match x with
  | .bl c => if c = true then Q (.bl true) M1 else u EP s M1 Q
  | _ => False
theorem qAnd_i {u : WE} {c : Bool} (h : if c = true then u EP s M Q else Q (.bl false) M) : qAnd u EP s Q (.bl c) M := h
theorem qOr_i {u : WE} {c : Bool} (h : if c = true then Q (.bl true) M else u EP s M Q) : qOr u EP s Q (.bl c) M := h
theorem wAndV_i {t u : WE} (h : t EP s M (qAnd u EP s Q)) : wAndV t u EP s M Q := h
theorem wOrV_i {t u : WE} (h : t EP s M (qOr u EP s Q)) : wOrV t u EP s M Q := h
def qNot (Q : QE) : QE := fun x M1 => match x with
  | .bl c => Q (.bl (!c)) M1
  | _ => False
theorem qNot_i {c : Bool} (h : Q (.bl (!c)) M) : qNot Q (.bl c) M := h
theorem wNotV_i {t : WE} (h : t EP s M (qNot Q)) : wNotV t EP s M Q := h
theorem wIfE_i {t : WT} {a b : WE} (h : t EP s M fun c M1 => if c = true then a EP s M1 Q else b EP s M1 Q) : wIfE t a b EP s M Q := h
theorem ite_i {b : Bool} {A B : Prop} (h1 : b = true → A) (h2 : b = false → B) : if b = true then A else B := by cases b <;> simp_all
theorem ite_t {A B : Prop} (h : A) : if true = true then A else B := h
theorem ite_f {A B : Prop} (h : B) : if false = true then A else B := h
theorem wCall_i {p : PSp} {a : WA} {dv : List PV} (h : a EP s M fun ps M1 => p (ps ++ dv) M1 Q fun C fs M' => EP C fs s M') : wCall p a dv EP s M Q := h
theorem wCallK_i {p : PSp} {n m : Nat} {a ka : WA} {g : List PV → List PV → List PV} (h : a EP s M fun ps M1 => ka EP s M1 fun ks M2 => ps.length = n ∧ ks.length = m ∧ p (g ps ks) M2 Q fun C fs M' => EP C fs s M') : wCallK p n m a ka g EP s M Q := h
theorem wCB_i {r : PC} {a : WA} (h : a EP s M fun ps M1 => r ps M1 Q) : wCB r a EP s M Q := h
theorem wCBL_i {r : PCL} {a : WA} (h : a EP s M fun ps M1 => r ps M1 QA) : wCBL r a EP s M QA := h
theorem wBMt_i {T : String} {r : PM} {o : WE} {a : WA} (h : o EP s M fun x M1 => tyP M1 T x ∧ a EP s M1 fun ps M2 => r x ps M2 Q) : wBMt T r o a EP s M Q := h
theorem wStL_i {o i e : WE} (h : e EP s M fun v M1 => o EP s M1 fun x M2 => i EP s M2 fun y M3 => rStL x y v M3 fun M4 => D.nx s M4) : wStL o i e EP D s M := h
theorem wEqL_i {neg : Bool} {e : WE} {l : WL} (h : e EP s M fun x M1 => l EP s M1 fun ys M2 => match datM M2 x with
  | some d => purs ys = true ∧ shp d = true ∧ shp (.list (dats ys)) = true ∧ Q (.bl (if neg then !PyData.eqv d (.list (dats ys)) else PyData.eqv d (.list (dats ys)))) M2
  | none => False) : wEqL neg e l EP s M Q := h
/-! operators on known kinds -/
theorem rAdd_int {i j : Int} (h : Q (.int (i + j)) M) : rAdd (.int i) (.int j) M Q := h
theorem rAdd_str {i j : Str} (hz : i.length + j.length ≤ sizeLine) (h : Q (.str (i ++ j)) M) : rAdd (.str i) (.str j) M Q := ⟨hz, h⟩
theorem rAdd_tup {xs ys : List PV} (hz : xs.length + ys.length ≤ sizeLine) (h : Q (.tup (xs ++ ys)) M) : rAdd (.tup xs) (.tup ys) M Q := ⟨hz, h⟩
theorem rSub_int {i j : Int} (h : Q (.int (i - j)) M) : rSub (.int i) (.int j) M Q := ⟨trivial, h⟩
theorem rMul_int {i j : Int} (c : CMul i j) (h : Q (.int (i * j)) M) : rMul (.int i) (.int j) M Q := ⟨c, h⟩
theorem rMod_int {i j : Int} (c : j ≠ 0) (h : Q (.int (i.fmod j)) M) : rMod (.int i) (.int j) M Q := ⟨c, h⟩
theorem rFdiv_int {i j : Int} (c : CDivN i j) (h : Q (.int (i.fdiv j)) M) : rFdiv (.int i) (.int j) M Q := ⟨c, h⟩
theorem rPow_int {i j : Int} (c : CPow i j) (h : Q (.int (i ^ j.toNat)) M) : rPow (.int i) (.int j) M Q := ⟨c, h⟩
theorem rLt_int {i j : Int} (h : Q (.bl (decide (i < j))) M) : rLt (.int i) (.int j) M Q := h
theorem rLt_str {i j : Str} (h : Q (.bl (decide (i.cps.toList < j.cps.toList))) M) : rLt (.str i) (.str j) M Q := h
theorem rLe_int {i j : Int} (h : Q (.bl (decide (i ≤ j))) M) : rLe (.int i) (.int j) M Q := ⟨trivial, h⟩
theorem rGt_int {i j : Int} (h : Q (.bl (decide (j < i))) M) : rGt (.int i) (.int j) M Q := ⟨trivial, h⟩
theorem rGe_int {i j : Int} (h : Q (.bl (decide (j ≤ i))) M) : rGe (.int i) (.int j) M Q := ⟨trivial, h⟩
theorem rIx_tup {xs : List PV} {i : Int} {p : PV} (e : atI xs i = some p) (h : Q p M) : rIxP (.tup xs) (.int i) M Q := by
  unfold rIxP; dsimp only [seqAt]; rw [e]; exact h
theorem rIx_lst {a : Addr} {xs : List PV} {i : Int} {p : PV} (ea : M a = some (.lst xs)) (e : atI xs i = some p) (h : Q p M) : rIxP (.ref a) (.int i) M Q := by
  unfold rIxP; dsimp only [seqAt, listAt]; rw [ea]; dsimp only; rw [e]; exact h
theorem rIx_str {z : Str} {i : Int} {c : Nat} (hz : z.length ≤ sizeLine) (e : atI z.cps.toList i = some c) (h : Q (.str ⟨#[c]⟩) M) : rIxP (.str z) (.int i) M Q := by
  unfold rIxP; dsimp only; exact ⟨hz, by rw [e]; exact h⟩
theorem rStL_i {a : Addr} {xs : List PV} {k : Int} {j : Nat} {v : PV} {QH : PH → Prop} (ea : M a = some (.lst xs)) (e : ixN xs.length k = some j) (h : QH (pupd M a (.lst (xs.set j v)))) : rStL (.ref a) (.int k) v M QH := ⟨xs, j, ea, e, h⟩
theorem cLen_lst {a : Addr} {xs : List PV} (ea : M a = some (.lst xs)) (h : Q (.int xs.length) M) : cLen [.ref a] M Q := by
  unfold cLen; dsimp only; rw [ea]; unfold listAt; rw [ea]; exact h
theorem cLen_tup {xs : List PV} (h : Q (.int xs.length) M) : cLen [.tup xs] M Q := h
theorem cTup_lst {a : Addr} {xs : List PV} (ea : M a = some (.lst xs)) (h : Q (.tup xs) M) : cTup [.ref a] M Q := by
  unfold cTup seqAt; dsimp only; unfold listAt; rw [ea]; exact h
theorem cTup_tup {xs : List PV} (h : Q (.tup xs) M) : cTup [.tup xs] M Q := h
theorem cSorted_lst {a : Addr} {xs : List PV} (ea : M a = some (.lst xs)) (hs : Srtb xs) (hz : xs.length ≤ sizeLine) (h : QA (sortP xs) M) : cSorted [.ref a] M QA := by
  unfold cSorted; dsimp only; unfold listAt; rw [ea]; exact ⟨hs, hz, h⟩
theorem mAppend_i {a : Addr} {xs : List PV} {p : PV} (ea : M a = some (.lst xs)) (hz : xs.length < sizeLine) (h : Q .non (pupd M a (.lst (xs ++ [p])))) : mAppend (.ref a) [p] M Q := ⟨xs, ea, hz, h⟩
theorem mExtend_tup {a : Addr} {xs zs : List PV} (ea : M a = some (.lst xs)) (hz : xs.length + zs.length ≤ sizeLine) (h : Q .non (pupd M a (.lst (xs ++ zs)))) : mExtend (.ref a) [.tup zs] M Q := ⟨xs, ea, hz, h⟩
theorem tyP_lst {a : Addr} {xs : List PV} (ea : M a = some (.lst xs)) : tyP M "list" (.ref a) := by unfold tyP; dsimp only; rw [ea]
theorem wSl_i {e : WE} {l h : WO} (z : e EP s M fun p M1 => l EP s M1 fun lo M2 => h EP s M2 fun hi M3 => rSlP p lo hi M3 Q) : wSl e l h EP s M Q := z
theorem wNoP_i {QO : Option Int → PH → Prop} (h : QO none M) : wNoP EP s M QO := h
def qPt (QO : Option Int → PH → Prop) : QE := fun p M1 => match p with
  | .int i => QO (some i) M1
  | _ => False
theorem qPt_i {QO : Option Int → PH → Prop} {i : Int} (h : QO (some i) M) : qPt QO (.int i) M := h
theorem wPt_i {QO : Option Int → PH → Prop} {e : WE} (h : e EP s M (qPt QO)) : wPt e EP s M QO := h
theorem rSl_tup {xs : List PV} {lo hi : Option Int} (h : Q (.tup (pcut xs lo hi)) M) : rSlP (.tup xs) lo hi M Q := h
theorem rSl_lst {a : Addr} {xs : List PV} {lo hi : Option Int} (ea : listAt M a = some xs) (h : ∀ D, ¬ Wr M D → Q (.ref D) (pupd M D (.lst (pcut xs lo hi)))) : rSlP (.ref a) lo hi M Q := by
  unfold rSlP; dsimp only; rw [ea]; exact h
end
end PL
set_option autoImplicit false
namespace PL
open PySem PySem.Spec L2
open PyProof.Rows hiding St

/-! ## plain data: what is looked at, compared, shown -/
mutual
/-- no address, no truth, texts of signs that there are -/
def pl : PV → Bool
  | .non => true
  | .int _ => true
  | .str x => PyData.strOk x
  | .tup xs => pls xs
  | _ => false
def pls : List PV → Bool
  | [] => true
  | x :: xs => pl x && pls xs
end
mutual
/-- how deep -/
def dpt : PV → Nat
  | .tup xs => dpts xs + 1
  | _ => 0
def dpts : List PV → Nat
  | [] => 0
  | x :: xs => max (dpt x) (dpts xs)
end
mutual
theorem dpt_eq : ∀ p : PV, (dat p).depth = dpt p
  | .non => by rw [dat, dpt, PyData.depth]; all_goals (intros; contradiction)
  | .bl _ => by rw [dat, dpt, PyData.depth]; all_goals (intros; contradiction)
  | .int _ => by rw [dat, dpt, PyData.depth]; all_goals (intros; contradiction)
  | .str _ => by rw [dat, dpt, PyData.depth]; all_goals (intros; contradiction)
  | .ref _ => by rw [dat, dpt, PyData.depth]; all_goals (intros; contradiction)
  | .ty _ => by rw [dat, dpt, PyData.depth]; all_goals (intros; contradiction)
  | .tup xs => by rw [dat, dpt, PyData.depth, dpts_eq xs]
theorem dpts_eq : ∀ ps : List PV, PyData.depthAll (dats ps) = dpts ps
  | [] => by rw [dats, dpts, PyData.depthAll]
  | x :: xs => by rw [dats, dpts, PyData.depthAll, dpt_eq x, dpts_eq xs]
end
mutual
theorem pl_pur : ∀ p : PV, pl p = true → pur p = true
  | .non, _ => by rw [pur]; all_goals (intros; contradiction)
  | .int _, _ => by rw [pur]; all_goals (intros; contradiction)
  | .str _, _ => by rw [pur]; all_goals (intros; contradiction)
  | .bl _, h => by rw [pl] at h; cases h; all_goals (intros; contradiction)
  | .ref _, h => by rw [pl] at h; cases h; all_goals (intros; contradiction)
  | .ty _, h => by rw [pl] at h; cases h; all_goals (intros; contradiction)
  | .tup xs, h => by rw [pl] at h; rw [pur]; exact pls_purs xs h
theorem pls_purs : ∀ ps : List PV, pls ps = true → purs ps = true
  | [], _ => by rw [purs]
  | x :: xs, h => by
    rw [pls, Bool.and_eq_true] at h
    rw [purs, Bool.and_eq_true]
    exact ⟨pl_pur x h.1, pls_purs xs h.2⟩
end
mutual
theorem pl_lay : ∀ p : PV, pl p = true → (dat p).canLay0 = true
  | .non, _ => by rw [dat, PyData.canLay0]
  | .int _, _ => by rw [dat, PyData.canLay0]
  | .str _, h => by rw [pl] at h; rw [dat, PyData.canLay0]; exact h
  | .bl _, h => by rw [pl] at h; cases h; all_goals (intros; contradiction)
  | .ref _, h => by rw [pl] at h; cases h; all_goals (intros; contradiction)
  | .ty _, h => by rw [pl] at h; cases h; all_goals (intros; contradiction)
  | .tup xs, h => by rw [pl] at h; rw [dat, PyData.canLay0]; exact pls_lay xs h
theorem pls_lay : ∀ ps : List PV, pls ps = true → PyData.canLayAll0 (dats ps) = true
  | [], _ => by rw [dats, PyData.canLayAll0]
  | x :: xs, h => by
    rw [pls, Bool.and_eq_true] at h
    rw [dats, PyData.canLayAll0, Bool.and_eq_true]
    exact ⟨pl_lay x h.1, pls_lay xs h.2⟩
end
theorem shp_pl {p : PV} (h : pl p = true) (d : dpt p ≤ 64) : shp (dat p) = true := by
  unfold shp SeqAt.shaped
  rw [Bool.and_eq_true]
  exact ⟨pl_lay p h, decide_eq_true (by rw [dpt_eq]; exact d)⟩
theorem shp_list {xs : List PV} (h : pls xs = true) (d : dpts xs ≤ 63) : shp (.list (dats xs)) = true := by
  unfold shp SeqAt.shaped
  rw [Bool.and_eq_true, PyData.canLay0]
  exact ⟨pls_lay xs h, decide_eq_true (by rw [PyData.depth, dpts_eq]; omega)⟩
theorem shp_tuple {xs : List PV} (h : pls xs = true) (d : dpts xs ≤ 63) : shp (.tuple (dats xs)) = true := by
  unfold shp SeqAt.shaped
  rw [Bool.and_eq_true, PyData.canLay0]
  exact ⟨pls_lay xs h, decide_eq_true (by rw [PyData.depth, dpts_eq]; omega)⟩
mutual
theorem eqv_iff : ∀ p q : PV, pl p = true → pl q = true → (PyData.eqv (dat p) (dat q) = true ↔ p = q)
  | .bl _, _, h, _ => by rw [pl] at h; cases h; all_goals (intros; contradiction)
  | .ref _, _, h, _ => by rw [pl] at h; cases h; all_goals (intros; contradiction)
  | .ty _, _, h, _ => by rw [pl] at h; cases h; all_goals (intros; contradiction)
  | _, .bl _, _, h => by rw [pl] at h; cases h; all_goals (intros; contradiction)
  | _, .ref _, _, h => by rw [pl] at h; cases h; all_goals (intros; contradiction)
  | _, .ty _, _, h => by rw [pl] at h; cases h; all_goals (intros; contradiction)
  | .non, .non, _, _ => by simp [dat, PyData.eqv]
  | .non, .int _, _, _ => by simp [dat, PyData.eqv]
  | .non, .str _, _, _ => by simp [dat, PyData.eqv]
  | .non, .tup _, _, _ => by simp [dat, PyData.eqv]
  | .int _, .non, _, _ => by simp [dat, PyData.eqv]
  | .int _, .int _, _, _ => by simp [dat, PyData.eqv]
  | .int _, .str _, _, _ => by simp [dat, PyData.eqv]
  | .int _, .tup _, _, _ => by simp [dat, PyData.eqv]
  | .str _, .non, _, _ => by simp [dat, PyData.eqv]
  | .str _, .int _, _, _ => by simp [dat, PyData.eqv]
  | .str x, .str y, _, _ => by simp [dat, PyData.eqv]
  | .str _, .tup _, _, _ => by simp [dat, PyData.eqv]
  | .tup _, .non, _, _ => by simp [dat, PyData.eqv]
  | .tup _, .int _, _, _ => by simp [dat, PyData.eqv]
  | .tup _, .str _, _, _ => by simp [dat, PyData.eqv]
  | .tup xs, .tup ys, h, g => by
    rw [pl] at h
    rw [pl] at g
    rw [dat, dat, PyData.eqv, eqvs_iff xs ys h g]
    simp
theorem eqvs_iff : ∀ ps qs : List PV, pls ps = true → pls qs = true → (PyData.eqvAll (dats ps) (dats qs) = true ↔ ps = qs)
  | [], [], _, _ => by simp [dats, PyData.eqvAll]
  | [], _ :: _, _, _ => by simp [dats, PyData.eqvAll]
  | _ :: _, [], _, _ => by simp [dats, PyData.eqvAll]
  | x :: xs, y :: ys, h, g => by
    rw [pls, Bool.and_eq_true] at h
    rw [pls, Bool.and_eq_true] at g
    rw [dats, dats, PyData.eqvAll, Bool.and_eq_true, eqv_iff x y h.1 g.1, eqvs_iff xs ys h.2 g.2]
    simp
end
/-- == of plain values -/
noncomputable def eqP (p q : PV) : Bool := @decide (p = q) (Classical.propDecidable _)
theorem eqP_iff {p q : PV} : eqP p q = true ↔ p = q := by
  unfold eqP
  exact @decide_eq_true_iff (p = q) (Classical.propDecidable _)
theorem eqv_eqP {p q : PV} (h : pl p = true) (g : pl q = true) : PyData.eqv (dat p) (dat q) = eqP p q := by
  have := (eqv_iff p q h g).trans eqP_iff.symm
  cases a : PyData.eqv (dat p) (dat q) <;> cases b : eqP p q <;> simp_all
theorem datM_pl {M : PH} {p : PV} (h : pl p = true) : datM M p = some (dat p) := by
  have hp := pl_pur p h
  cases p with
  | ref a => rw [pl] at h; cases h; all_goals (intros; contradiction)
  | _ => unfold datM; dsimp only; rw [if_pos hp]
theorem datM_lst {M : PH} {a : Addr} {xs : List PV} (e : M a = some (.lst xs)) (h : purs xs = true) : datM M (.ref a) = some (.list (dats xs)) := by
  unfold datM; dsimp only; rw [e]; dsimp only; rw [if_pos h]
section
variable {M : PH} {Q : QE}
theorem eqP_str {i j : Str} : eqP (.str i) (.str j) = decide (i = j) := by
  by_cases e : i = j
  · rw [decide_eq_true e, eqP_iff, e]
  · rw [decide_eq_false e]
    cases h : eqP (.str i) (.str j) with
    | false => rfl
    | true => exact (e (PV.str.inj (eqP_iff.mp h))).elim
theorem rEq_pl {p q : PV} (h : pl p = true) (g : pl q = true) (d1 : dpt p ≤ 64) (d2 : dpt q ≤ 64) (k : Q (.bl (eqP p q)) M) : rEq p q M Q := by
  unfold rEq
  split
  · rw [← eqP_str]; exact k
  · rw [datM_pl h, datM_pl g]
    exact ⟨shp_pl h d1, shp_pl g d2, by rw [eqv_eqP h g]; exact k⟩
theorem rNe_pl {p q : PV} (h : pl p = true) (g : pl q = true) (d1 : dpt p ≤ 64) (d2 : dpt q ≤ 64) (k : Q (.bl (!eqP p q)) M) : rNe p q M Q := by
  unfold rNe
  split
  · rw [← eqP_str]; exact k
  · rw [datM_pl h, datM_pl g]
    exact ⟨shp_pl h d1, shp_pl g d2, by rw [eqv_eqP h g]; exact k⟩
theorem rEq_str {i j : Str} (k : Q (.bl (decide (i = j))) M) : rEq (.str i) (.str j) M Q := k
theorem rNe_str {i j : Str} (k : Q (.bl (!decide (i = j))) M) : rNe (.str i) (.str j) M Q := k
theorem rNe_same {x : Str} (k : Q (.bl false) M) : rNe (.str x) (.str x) M Q := by
  have e : (!decide (x = x)) = false := by simp
  show Q (.bl (!decide (x = x))) M
  rw [e]; exact k
theorem rEq_int {i j : Int} (k : Q (.bl (decide (i = j))) M) : rEq (.int i) (.int j) M Q := by
  have e : eqP (.int i) (.int j) = decide (i = j) := by
    by_cases e : i = j
    · rw [decide_eq_true e, eqP_iff, e]
    · rw [decide_eq_false e]
      cases h : eqP (.int i) (.int j) with
      | false => rfl
      | true => exact (e (PV.int.inj (eqP_iff.mp h))).elim
  refine rEq_pl (by rw [pl]) (by rw [pl]) ?_ ?_ (by rw [e]; exact k)
  · rw [dpt]; omega; all_goals (intros; contradiction)
  · rw [dpt]; omega; all_goals (intros; contradiction)
theorem any_eqv {p : PV} (h : pl p = true) : ∀ xs : List PV, pls xs = true → (dats xs).any (fun z => PyData.eqv z (dat p)) = xs.any fun z => eqP z p
  | [], _ => by rw [dats]; rfl
  | x :: xs, g => by
    rw [pls, Bool.and_eq_true] at g
    rw [dats, List.any_cons, List.any_cons, any_eqv h xs g.2, eqv_eqP g.1 h]
theorem rIn_tup {neg : Bool} {p : PV} {xs : List PV} (h : pl p = true) (g : pls xs = true) (d1 : dpt p ≤ 64) (d2 : dpts xs ≤ 63) (k : Q (.bl (if neg then !xs.any (fun z => eqP z p) else xs.any fun z => eqP z p)) M) : rInG neg p (.tup xs) M Q := by
  have e2 : datM M (.tup xs) = some (.tuple (dats xs)) := by
    have := datM_pl (M := M) (p := .tup xs) (by rw [pl]; exact g)
    rw [this, dat]
  unfold rInG
  dsimp only
  rw [datM_pl h, e2]
  exact ⟨shp_pl h d1, shp_tuple g d2, by rw [any_eqv h xs g]; exact k⟩
end
/-! ### how long the text of it is -/
mutual
def shn : PV → Nat
  | .str x => 10 * x.length + 2
  | .tup xs => shns xs + 3
  | .int _ => 1921
  | _ => 5
def shns : List PV → Nat
  | [] => 0
  | x :: xs => shn x + 2 + shns xs
end
mutual
/-- its text can be told -/
def tl : PV → Bool
  | .int i => decide (i.natAbs.log2 < 1920)
  | .tup xs => tls xs
  | .str x => PyData.strOk x
  | .non => true
  | .bl _ => true
  | _ => false
def tls : List PV → Bool
  | [] => true
  | x :: xs => tl x && tls xs
end
theorem len_app (x y : Str) : (x ++ y).length = x.length + y.length := by
  show (x.cps ++ y.cps).size = x.cps.size + y.cps.size
  simp
theorem join_len : ∀ ts : List Str, (Str.join ", " ts).length ≤ (ts.map (·.length)).sum + 2 * ts.length
  | [] => by simp [Str.join]; rfl
  | [x] => by simp [Str.join]
  | x :: y :: r => by
    have ih := join_len (y :: r)
    rw [Str.join, len_app, len_app]
    · have e : ((", " : String) : Str).length = 2 := rfl
      simp only [List.map_cons, List.sum_cons, List.length_cons] at ih ⊢
      omega
    · intro h; cases h
theorem tuple_len (ts : List Str) : (tupleText ts).length ≤ (ts.map (·.length)).sum + 2 * ts.length + 3 := by
  unfold tupleText
  rw [len_app, len_app]
  have h := join_len ts
  have e : (("(" : String) : Str).length = 1 := rfl
  have e2 : (if (ts.length == 1) = true then ((",)" : String) : Str) else ((")" : String) : Str)).length ≤ 2 := by
    split
    · exact Nat.le_of_eq rfl
    · exact Nat.le_of_lt (Nat.lt_of_lt_of_eq (Nat.lt_succ_self 1) rfl)
  have e3 : (Str.ofString (if (ts.length == 1) = true then ",)" else ")")).length ≤ 2 := by
    split
    · exact Nat.le_of_eq rfl
    · exact Nat.le_of_lt (Nat.lt_of_lt_of_eq (Nat.lt_succ_self 1) rfl)
  have e4 : (Str.ofString "(").length = 1 := rfl
  omega
theorem listText_len (ts : List Str) : (listText ts).length ≤ (ts.map (·.length)).sum + 2 * ts.length + 3 := by
  have key : ∀ (ts : List Str) (k : Nat) (acc : Str), (textFrom k acc ts).length ≤ acc.length + (ts.map (·.length)).sum + 2 * ts.length := by
    intro ts
    induction ts with
    | nil => intro k acc; simp [textFrom]
    | cons t r ih =>
      intro k acc
      rw [textFrom]
      refine Nat.le_trans (ih _ _) ?_
      rw [len_app, len_app]
      have e : (Str.ofString (if k > 0 then ", " else "")).length ≤ 2 := by
        split
        · exact Nat.le_of_eq rfl
        · exact Nat.zero_le _
      simp only [List.map_cons, List.sum_cons, List.length_cons]
      omega
  unfold listText
  rw [len_app]
  have h := key ts 0 "["
  have e4 : (Str.ofString "[").length = 1 := rfl
  have e5 : (Str.ofString "]").length = 1 := rfl
  omega
mutual
theorem shown_le : ∀ p : PV, tl p = true → (dat p).shown.length ≤ shn p
  | .non, _ => by rw [dat, PyData.shown, shn]; exact Nat.le_of_lt (Nat.lt_of_lt_of_eq (Nat.lt_succ_self 4) rfl); all_goals (intros; contradiction)
  | .bl b, _ => by
    rw [dat, PyData.shown, shn]
    · cases b
      · exact Nat.le_of_eq rfl
      · exact Nat.le_of_lt (Nat.lt_of_lt_of_eq (Nat.lt_succ_self 4) rfl)
    all_goals (intros; contradiction)
  | .int i, h => by
    rw [tl] at h
    rw [dat, PyData.shown, shn]
    exact int_text_len_1921 (of_decide_eq_true h)
  | .str x, h => by
    rw [tl] at h
    rw [dat, PyData.shown, shn]
    refine StrLaws.reprText_len x fun c hc => ?_
    unfold PyData.strOk at h
    rw [Array.all_eq_true'] at h
    have := of_decide_eq_true (h c (Array.mem_def.mpr hc))
    have e : (16 : Nat) ^ 8 = 4294967296 := by decide
    omega
  | .tup xs, h => by
    rw [tl] at h
    rw [dat, PyData.shown, shn]
    have h1 := tuple_len (PyData.shownAll (dats xs))
    have h2 := showns_le xs h
    omega
  | .ref _, h => by rw [tl] at h; cases h; all_goals (intros; contradiction)
  | .ty _, h => by rw [tl] at h; cases h; all_goals (intros; contradiction)
theorem showns_le : ∀ ps : List PV, tls ps = true → ((PyData.shownAll (dats ps)).map (·.length)).sum + 2 * (PyData.shownAll (dats ps)).length ≤ shns ps
  | [], _ => by rw [dats, PyData.shownAll, shns]; exact Nat.le_refl _
  | x :: xs, h => by
    rw [tls, Bool.and_eq_true] at h
    rw [dats, PyData.shownAll, shns]
    have h1 := shown_le x h.1
    have h2 := showns_le xs h.2
    simp only [List.map_cons, List.sum_cons, List.length_cons]
    omega
end
mutual
theorem tl_show : ∀ p : PV, tl p = true → (dat p).showable = true ∧ (dat p).hasDict = false
  | .non, _ => by rw [dat, PyData.showable, PyData.hasDict]; exact ⟨rfl, rfl⟩
  | .bl b, _ => by rw [dat, PyData.showable, PyData.hasDict]; exact ⟨rfl, rfl⟩
  | .int i, h => by rw [tl] at h; rw [dat, PyData.showable, PyData.hasDict]; exact ⟨h, rfl⟩
  | .str x, h => by rw [dat, PyData.showable, PyData.hasDict]; exact ⟨rfl, rfl⟩
  | .tup xs, h => by rw [tl] at h; rw [dat, PyData.showable, PyData.hasDict]; exact tls_show xs h
  | .ref _, h => by rw [tl] at h; cases h; all_goals (intros; contradiction)
  | .ty _, h => by rw [tl] at h; cases h; all_goals (intros; contradiction)
theorem tls_show : ∀ ps : List PV, tls ps = true → PyData.showableAll (dats ps) = true ∧ PyData.hasDictAll (dats ps) = false
  | [], _ => by rw [dats, PyData.showableAll, PyData.hasDictAll]; exact ⟨rfl, rfl⟩
  | x :: xs, h => by
    rw [tls, Bool.and_eq_true] at h
    rw [dats, PyData.showableAll, PyData.hasDictAll, (tl_show x h.1).1, (tl_show x h.1).2, (tls_show xs h.2).1, (tls_show xs h.2).2]
    exact ⟨rfl, rfl⟩
end
mutual
theorem tl_pur : ∀ p : PV, tl p = true → pur p = true
  | .non, _ => by rw [pur]; all_goals (intros; contradiction)
  | .int _, _ => by rw [pur]; all_goals (intros; contradiction)
  | .str _, _ => by rw [pur]; all_goals (intros; contradiction)
  | .bl _, _ => by rw [pur]; all_goals (intros; contradiction)
  | .ref _, h => by rw [tl] at h; cases h; all_goals (intros; contradiction)
  | .ty _, h => by rw [tl] at h; cases h; all_goals (intros; contradiction)
  | .tup xs, h => by rw [tl] at h; rw [pur]; exact tls_purs xs h
theorem tls_purs : ∀ ps : List PV, tls ps = true → purs ps = true
  | [], _ => by rw [purs]
  | x :: xs, h => by
    rw [tls, Bool.and_eq_true] at h
    rw [purs, Bool.and_eq_true]
    exact ⟨tl_pur x h.1, tls_purs xs h.2⟩
end
theorem shw_tl {p : PV} (h : tl p = true) (d : dpt p ≤ 60) (z : shn p ≤ sizeLine) : Shw (dat p) :=
  ⟨(tl_show p h).1, (tl_show p h).2, by rw [dpt_eq]; exact d, Nat.le_trans (shown_le p h) z⟩
theorem shw_list {xs : List PV} (h : tls xs = true) (d : dpts xs ≤ 59) (z : shns xs + 3 ≤ sizeLine) : Shw (.list (dats xs)) := by
  refine ⟨by rw [PyData.showable]; exact (tls_show xs h).1, by rw [PyData.hasDict]; exact (tls_show xs h).2, by rw [PyData.depth, dpts_eq]; omega, ?_⟩
  rw [PyData.shown]
  have h1 := listText_len (PyData.shownAll (dats xs))
  have h2 := showns_le xs h
  omega
section
variable {M : PH} {Q : QE}
theorem datM_tl {p : PV} (h : tl p = true) : datM M p = some (dat p) := by
  have hp := tl_pur p h
  cases p with
  | ref a => rw [tl] at h; cases h; all_goals (intros; contradiction)
  | _ => unfold datM; dsimp only; rw [if_pos hp]
/-- the text of a value -/
def txt (p : PV) : Str := (dat p).shown
theorem cRepr_tl {p : PV} (h : tl p = true) (d : dpt p ≤ 60) (z : shn p ≤ sizeLine) (k : Q (.str (txt p)) M) : cRepr [p] M Q := by
  unfold cRepr
  dsimp only
  rw [datM_tl h]
  exact ⟨shw_tl h d z, k⟩
theorem cRepr_lst {a : Addr} {xs : List PV} (e : M a = some (.lst xs)) (h : tls xs = true) (d : dpts xs ≤ 59) (z : shns xs + 3 ≤ sizeLine) (k : Q (.str (PyData.list (dats xs)).shown) M) : cRepr [.ref a] M Q := by
  unfold cRepr
  dsimp only
  rw [datM_lst e (tls_purs xs h)]
  exact ⟨shw_list h d z, k⟩
end
end PL
set_option autoImplicit false
namespace PL
open PySem PySem.Spec L2
open PyProof.Rows hiding St

/-! ## loops with a promise for what follows -/
theorem forW_k {ok : PH → Prop} {g : WG} {b : WS} {EP : PX} {D : PEnds} {xs : List PV} (P : Nat → PSt → PH → Prop) {s : PSt} {M : PH} (h0 : P 0 s M) (hok : ∀ i s M, i ≤ xs.length → P i s M → ok M)
    (hs : ∀ (i : Nat) (x : PV) (s : PSt) (M : PH) (N : PSt → PH → Prop), xs[i]? = some x → P i s M → (∀ s' M', P (i + 1) s' M' → N s' M') → g x s M fun s2 M2 => b EP { D with nx := N, ct := N, bk := D.nx } s2 M2) (hd : ∀ s M, P xs.length s M → D.nx s M) : forW ok g b EP D xs s M := by
  have go : ∀ (m i : Nat) (s : PSt) (M : PH), i + m = xs.length → P i s M → forW ok g b EP D (xs.drop i) s M := by
    intro m
    induction m with
    | zero =>
      intro i s M e h
      rw [List.drop_eq_nil_of_le (by omega)]
      have ei : i = xs.length := by omega
      exact ⟨hok i s M (by omega) h, hd s M (ei ▸ h)⟩
    | succ m ih =>
      intro i s M e h
      have hlt : i < xs.length := by omega
      rw [List.drop_eq_getElem_cons hlt, forW]
      exact ⟨hok i s M (by omega) h, hs i _ s M _ (List.getElem?_eq_getElem hlt) h fun s' M' z => ih (i + 1) s' M' (by omega) z⟩
  exact go xs.length 0 s M (by omega) h0
theorem lcW_k {ok : PH → Prop} {g : WG} {t : WT} {e : WE} {sw : PSt} {Q : List PV → PH → Prop} {xs : List PV} {M : PH} (P : Nat → List PV → PH → Prop) (hz : xs.length ≤ sizeLine) (h0 : P 0 [] M) (hok : ∀ i acc M, i ≤ xs.length → P i acc M → ok M)
    (hs : ∀ (i : Nat) (x : PV) (acc : List PV) (M : PH) (T : QE) (F : PH → Prop), xs[i]? = some x → P i acc M → (∀ y M', P (i + 1) (acc ++ [y]) M' → T y M') → (∀ M', P (i + 1) acc M' → F M') → g x sw M fun s2 M2 => t (fun _ _ _ _ => False) s2 M2 fun b M3 => if b = true then e (fun _ _ _ _ => False) s2 M3 T else F M3)
    (hd : ∀ acc M, P xs.length acc M → Q acc M) : lcW ok g t e sw Q xs [] M := by
  have go : ∀ (m i : Nat) (acc : List PV) (M : PH), i + m = xs.length → acc.length ≤ i → P i acc M → lcW ok g t e sw Q (xs.drop i) acc M := by
    intro m
    induction m with
    | zero =>
      intro i acc M e h0 h
      rw [List.drop_eq_nil_of_le (by omega)]
      have ei : i = xs.length := by omega
      exact ⟨hok i acc M (by omega) h, hd acc M (ei ▸ h)⟩
    | succ m ih =>
      intro i acc M e' h0 h
      have hlt : i < xs.length := by omega
      rw [List.drop_eq_getElem_cons hlt, lcW]
      exact ⟨hok i acc M (by omega) h, hs i _ acc M _ _ (List.getElem?_eq_getElem hlt) h (fun y M' z => ⟨by omega, ih (i + 1) _ M' (by omega) (by simp; omega) z⟩) fun M' z => ih (i + 1) acc M' (by omega) (by omega) z⟩
  exact go xs.length 0 [] M (by omega) (by simp) h0
theorem lcW_p {ok : PH → Prop} {g : WG} {t : WT} {e : WE} {sw : PSt} {Q : List PV → PH → Prop} {xs : List PV} {M : PH} (f : PV → Option PV) (hz : xs.length ≤ sizeLine) (hok : ok M)
    (hs : ∀ (x : PV) (T : QE) (F : PH → Prop), x ∈ xs → (∀ y, f x = some y → T y M) → (f x = none → F M) → g x sw M fun s2 M2 => t (fun _ _ _ _ => False) s2 M2 fun b M3 => if b = true then e (fun _ _ _ _ => False) s2 M3 T else F M3)
    (hd : Q (xs.filterMap f) M) : lcW ok g t e sw Q xs [] M := by
  refine lcW_k (fun i acc M' => M' = M ∧ acc = (xs.take i).filterMap f) hz ⟨rfl, by simp⟩ (fun i acc M' _ h => h.1 ▸ hok) (fun i x acc M' T F hx h hT hF => ?_) fun acc M' h => by
    rw [h.1, h.2, List.take_length]; exact hd
  obtain ⟨rfl, ea⟩ := h
  have et : xs.take (i + 1) = xs.take i ++ [x] := by rw [List.take_add_one, hx]; rfl
  refine hs x T F (List.mem_of_getElem? hx) (fun y ey => hT y _ ⟨rfl, ?_⟩) fun ey => hF _ ⟨rfl, ?_⟩
  · rw [et, List.filterMap_append, ea]; simp [ey]
  · rw [et, List.filterMap_append, ea]; simp [ey]

/-! ## steps, more of them -/
section
variable {EP : PX} {D : PEnds} {s : PSt} {M : PH} {Q : QE} {QB : Bool → PH → Prop} {QA : List PV → PH → Prop} {QI : PSrc → PH → Prop}
theorem wFor_i {i : WI} {g : WG} {b : WS} (h : i EP s M fun src M1 => forW src.ok g b EP D src.items s M1) : wFor i g b EP D s M := h
theorem wLc_i {i : WI} {g : CTg} {t : WT} {e : WE} {vs : List Nat} (h : i EP s M fun src M1 => lcW src.ok g.g t e (pwipe s vs) QA src.items [] M1) : wLc i g t e vs EP s M QA := h
def qIt (QI : PSrc → PH → Prop) : QE := fun p M1 => match p with
  | .tup xs => QI ⟨xs, fun _ => True⟩ M1
  | .ref a => match listAt M1 a with
    | some xs => QI ⟨xs, fun M => listAt M a = some xs⟩ M1
    | none => False
  | .str z => QI ⟨z.cps.toList.map fun c => .str ⟨#[c]⟩, fun _ => True⟩ M1
  | _ => False
theorem iAny_i {e : WE} (h : e EP s M (qIt QI)) : iAny e EP s M QI := h
theorem qIt_tup {xs : List PV} (h : QI ⟨xs, fun _ => True⟩ M) : qIt QI (.tup xs) M := h
theorem listAt_lst {a : Addr} {xs : List PV} (e : M a = some (.lst xs)) : listAt M a = some xs := by unfold listAt; rw [e]
theorem qIt_lst {a : Addr} {xs : List PV} (e : M a = some (.lst xs)) (h : QI ⟨xs, fun M => listAt M a = some xs⟩ M) : qIt QI (.ref a) M := by
  unfold qIt; dsimp only; rw [listAt_lst e]; exact h
theorem qIt_str {z : Str} (h : QI ⟨z.cps.toList.map fun c => .str ⟨#[c]⟩, fun _ => True⟩ M) : qIt QI (.str z) M := h
def qRg (QI : PSrc → PH → Prop) : List PV → PH → Prop := fun ps M1 => match ps with
  | [.int j] => -(2 ^ 62) ≤ j ∧ j < 2 ^ 62 ∧ QI ⟨(List.range j.toNat).map fun i => .int (i : Nat), fun _ => True⟩ M1
  | _ => False
theorem iRg1_i {a : WA} (h : a EP s M (qRg QI)) : iRg1 a EP s M QI := h
theorem qRg_i {j : Int} (h0 : 0 ≤ j) (h1 : j < 4611686018427387904) (h : QI ⟨(List.range j.toNat).map fun i => .int (i : Nat), fun _ => True⟩ M) : qRg QI [.int j] M := ⟨by omega, by omega, h⟩
theorem gNm_i {i : Nat} {p : PV} {QG : PSt → PH → Prop} (h : QG (s.set i (some p)) M) : gNm i p s M QG := h
theorem gTp_i {gs : List WG} {xs : List PV} {QG : PSt → PH → Prop} (h : gAll gs xs s M QG) : gTp gs (.tup xs) s M QG := h
theorem gAll_c {g : WG} {gs : List WG} {x : PV} {xs : List PV} {QG : PSt → PH → Prop} (h : g x s M fun s' M' => gAll gs xs s' M' QG) : gAll (g :: gs) (x :: xs) s M QG := h
theorem gAll_n {QG : PSt → PH → Prop} (h : QG s M) : gAll [] [] s M QG := h
theorem cOne_i {i : Nat} {p : PV} {QG : PSt → PH → Prop} (h : QG (s.set i (some p)) M) : (CTg.one i).g p s M QG := h
theorem cMany_i {is : List Nat} {xs : List PV} {QG : PSt → PH → Prop} (h : gAll (is.map gNm) xs s M QG) : (CTg.many is).g (.tup xs) s M QG := h
theorem cMany2_i {i j : Nat} {x y : PV} {QG : PSt → PH → Prop} (h : QG ((s.set i (some x)).set j (some y)) M) : (CTg.many [i, j]).g (.tup [x, y]) s M QG := h
theorem cMany3_i {i j k : Nat} {x y z : PV} {QG : PSt → PH → Prop} (h : QG (((s.set i (some x)).set j (some y)).set k (some z)) M) : (CTg.many [i, j, k]).g (.tup [x, y, z]) s M QG := h
theorem wYes_i (h : QB true M) : wYes EP s M QB := h
theorem mPopAt_i {a : Addr} {xs : List PV} {k : Nat} {p : PV} (ea : M a = some (.lst xs)) (hk : xs[k]? = some p) (hz : xs.length < 1000000) (h : Q p (pupd M a (.lst (xs.eraseIdx k)))) : mPopAt (.ref a) [.int (k : Nat)] M Q := by
  have hl : k < xs.length := (List.getElem?_eq_some_iff.mp hk).1
  refine ⟨xs, k, p, ea, by omega, by omega, ?_, hk, h⟩
  unfold PySem.seqIndex?
  simp only
  split <;> (try split) <;> simp_all <;> omega
def qJn (l : WL) (EP : PX) (s : PSt) (Q : QE) : QE := fun x M1 => match x with
  | .str sep => l EP s M1 fun xs M2 => match strsOf xs with
    | some ys => (ys.map (·.length)).sum + ys.length * sep.length ≤ 16777216 ∧ Q (.str (Str.join sep ys)) M2
    | none => False
  | _ => False
theorem wJoinL_i {o : WE} {l : WL} (h : o EP s M (qJn l EP s Q)) : wJoinL o l EP s M Q := h
theorem qJn_i {l : WL} {sep : Str} (h : l EP s M fun xs M2 => match strsOf xs with
    | some ys => (ys.map (·.length)).sum + ys.length * sep.length ≤ 16777216 ∧ Q (.str (Str.join sep ys)) M2
    | none => False) : qJn l EP s Q (.str sep) M := h
def qCat (ys : List PV) (QA : List PV → PH → Prop) (M2 : PH) (x : PV) : Prop := match x with
  | .ref a => ∃ xs, M2 a = some (.lst xs) ∧ xs.length + ys.length ≤ sizeLine ∧ QA (xs ++ ys) M2
  | _ => False
theorem wCatEL_i {e : WE} {l : WL} (h : e EP s M fun x M1 => l EP s M1 fun ys M2 => qCat ys QA M2 x) : wCatEL e l EP s M QA := h
theorem qCat_i {a : Addr} {xs ys : List PV} (ea : M a = some (.lst xs)) (hz : xs.length + ys.length ≤ sizeLine) (h : QA (xs ++ ys) M) : qCat ys QA M (.ref a) := ⟨xs, ea, hz, h⟩
def qIxL (xs : List PV) (Q : QE) : QE := fun y M2 => match y with
  | .int k => match atI xs k with
    | some p => Q p M2
    | none => False
  | _ => False
theorem wIxL_i {l : WL} {i : WE} (h : l EP s M fun xs M1 => i EP s M1 (qIxL xs Q)) : wIxL l i EP s M Q := h
theorem qIxL_i {xs : List PV} {k : Int} {p : PV} (e : atI xs k = some p) (h : Q p M) : qIxL xs Q (.int k) M := by
  unfold qIxL; dsimp only; rw [e]; exact h
theorem cTupL_i {xs : List PV} (h : Q (.tup xs) M) : cTupL xs M Q := h
theorem cLenL_i {xs : List PV} (h : Q (.int xs.length) M) : cLenL xs M Q := h
theorem cSortedL_i {xs : List PV} (hs : Srtb xs) (h : QA (sortP xs) M) : cSortedL xs M QA := ⟨hs, h⟩
end
/-! ## the heap of a law: its feed at a, which holds the numbers at C -/
/-- nothing that is only read -/
def NR (M : PH) : Prop := ∀ a o, M a = some o → o.wr = true
theorem NR.none {M : PH} (h : NR M) {D : Addr} (n : ¬ Wr M D) : M D = none := by
  cases e : M D with
  | none => rfl
  | some o => exact absurd ⟨o, e, h D o e⟩ n
theorem NR.upd {M : PH} (h : NR M) {a : Addr} {xs : List PV} : NR (pupd M a (.lst xs)) := by
  intro b o e
  by_cases hb : b = a
  · subst hb; rw [pupd_same] at e; cases e; rfl
  · rw [pupd_ne hb] at e; exact h b o e
/-- M' is M with the feed drawn on and more lists -/
structure Fm (M M' : PH) (a C : Addr) (c : Nat) : Prop where
  nr : NR M'
  ca : C ≠ a
  cm : M C ≠ none
  fd : ∃ (ns : List Int) (x y z : Int), M' a = some (.lst [.ref C, .int x, .int y, .int z]) ∧ M' C = some (.lst (ns.map PV.int)) ∧ 0 ≤ z ∧ z ≤ c ∧ ns.length ≤ 63
  keep : ∀ b o, b ≠ a → M b = some o → M' b = some o
theorem pupd_pupd {M : PH} {a : Addr} {o p : PO} : pupd (pupd M a o) a p = pupd M a p := by
  funext b; unfold pupd; split <;> rfl
section
variable {M M' M2 : PH} {a C D : Addr} {c d : Nat} {xs : List PV}
theorem Fm.up (h : Fm M M' a C c) (e : c ≤ d) : Fm M M' a C d :=
  ⟨h.nr, h.ca, h.cm, by obtain ⟨ns, x, y, z, h1, h2, h3, h4, h5⟩ := h.fd; exact ⟨ns, x, y, z, h1, h2, h3, by omega, h5⟩, h.keep⟩
theorem Fm.self (h : Fm M M' a C c) : Fm M' M' a C c := ⟨h.nr, h.ca, by obtain ⟨ns, x, y, z, h1, h2, _⟩ := h.fd; rw [h2]; simp, h.fd, fun _ _ _ e => e⟩
theorem Fm.trans (h : Fm M M' a C c) (g : Fm M' M2 a C d) : Fm M M2 a C d := ⟨g.nr, g.ca, h.cm, g.fd, fun b o n e => g.keep b o n (h.keep b o n e)⟩
/-- a list at a new place -/
theorem Fm.new (h : Fm M M' a C c) (n : ¬ Wr M' D) : Fm M (pupd M' D (.lst xs)) a C c := by
  have e := h.nr.none n
  obtain ⟨ns, x, y, z, h1, h2, h3⟩ := h.fd
  have ha : a ≠ D := fun q => by subst q; rw [h1] at e; cases e
  have hC : C ≠ D := fun q => by subst q; rw [h2] at e; cases e
  refine ⟨h.nr.upd, h.ca, h.cm, ⟨ns, x, y, z, by rw [pupd_ne ha]; exact h1, by rw [pupd_ne hC]; exact h2, h3⟩, fun b o nb eb => ?_⟩
  have hb := h.keep b o nb eb
  have : b ≠ D := fun q => by subst q; rw [hb] at e; cases e
  rw [pupd_ne this]; exact hb
/-- a list of one's own is written -/
theorem Fm.set (h : Fm M M' a C c) (n : M D = none) (ne : D ≠ a) : Fm M (pupd M' D (.lst xs)) a C c := by
  obtain ⟨ns, x, y, z, h1, h2, h3⟩ := h.fd
  have hC : C ≠ D := fun q => h.cm (q ▸ n)
  refine ⟨h.nr.upd, h.ca, h.cm, ⟨ns, x, y, z, by rw [pupd_ne ne.symm]; exact h1, by rw [pupd_ne hC]; exact h2, h3⟩, fun b o nb eb => ?_⟩
  have : b ≠ D := fun q => by subst q; rw [n] at eb; cases eb
  rw [pupd_ne this]; exact h.keep b o nb eb
theorem Fm.fresh (h : Fm M M' a C c) (n : ¬ Wr M' D) : M' D = none ∧ D ≠ a ∧ D ≠ C := by
  have e := h.nr.none n
  obtain ⟨ns, x, y, z, h1, h2, h3⟩ := h.fd
  exact ⟨e, (fun q => by subst q; rw [h1] at e; cases e), (fun q => by subst q; rw [h2] at e; cases e)⟩
theorem Fm.fresh0 (h : Fm M M' a C c) (n : ¬ Wr M' D) : M D = none := by
  cases e : M D with
  | none => rfl
  | some o =>
    have h2 := (h.fresh n)
    have := h.keep D o h2.2.1 e
    rw [h2.1] at this; cases this
end
/-- what a helper gives that draws k times or fewer -/
def pFd (n k : Nat) (Pre : List PV → PH → Prop) (R : List PV → PH → PV → Prop) : PSp := fun ps M Q _ => ps.length = n ∧ ∃ (a C : Addr) (c : Nat) (rest : List PV), ps = .ref a :: rest ∧ Fm M M a C c ∧ c + k ≤ 1000000000000 ∧ Pre rest M ∧
  ∀ (r : PV) (L : List PV), R rest M r → Fm M (pupd M a (.lst L)) a C (c + k) → Q r (pupd M a (.lst L))
theorem pFd_mono {n k : Nat} {Pre R} : MonoP (pFd n k Pre R) := fun ps M Q Q' E E' h _ ⟨l, a, C, c, rest, h1, h2, h3, h4, h5⟩ => ⟨l, a, C, c, rest, h1, h2, h3, h4, fun r L a1 a2 => h _ _ (h5 r L a1 a2)⟩
theorem pFd_len {n k : Nat} {Pre R} : LenP (pFd n k Pre R) n := fun _ _ _ _ h => h.1
theorem pFd_use {n k : Nat} {Pre R} {M0 M : PH} {a C : Addr} {c : Nat} {rest : List PV} {Q : QE} {E} (F : Fm M0 M a C c) (hl : (PV.ref a :: rest).length = n) (hc : c + k ≤ 1000000000000) (hp : Pre rest M) (h : ∀ (r : PV) (M' : PH), R rest M r → Fm M0 M' a C (c + k) → Fm M M' a C (c + k) → Q r M') : pFd n k Pre R (.ref a :: rest) M Q E :=
  ⟨hl, a, C, c, rest, rfl, F.self, hc, hp, fun r L hr G => h r _ hr (F.trans G) G⟩
/-- the end of a helper -/
theorem Fm.fin {M M' : PH} {a C : Addr} {c d : Nat} {Q : QE} {r : PV} (h : Fm M M' a C d) (e : d ≤ c) (q : ∀ (L : List PV), Fm M (pupd M a (.lst L)) a C c → Q r (pupd M a (.lst L))) (nr : NR M) : (DDef Q).rt r M' := by
  obtain ⟨ns, x, y, z, h1, h2, h3, h4, h5⟩ := h.fd
  refine ⟨pupd M a (.lst [.ref C, .int x, .int y, .int z]), ?_, q _ ⟨nr.upd, h.ca, h.cm, ⟨ns, x, y, z, pupd_same, ?_, h3, by omega, h5⟩, fun b o n eb => by rw [pupd_ne n]; exact eb⟩⟩
  · intro b o eb
    by_cases hb : b = a
    · subst hb; rw [pupd_same] at eb; cases eb; exact h1
    · rw [pupd_ne hb] at eb; exact h.keep b o hb eb
  · rw [pupd_ne h.ca]
    cases eC : M C with
    | none => exact absurd eC h.cm
    | some o =>
      have := h.keep C o h.ca eC
      rw [h2] at this; exact this ▸ rfl
/-- the same with what the arguments are known by -/
def pFi {ι : Type} (n k : Nat) (Pre : ι → List PV → PH → Prop) (R : ι → PH → PV → Prop) : PSp := fun ps M Q _ => ps.length = n ∧ ∃ (a C : Addr) (c : Nat) (rest : List PV) (i : ι), ps = .ref a :: rest ∧ Fm M M a C c ∧ c + k ≤ 1000000000000 ∧ Pre i rest M ∧
  ∀ (r : PV) (L : List PV), R i M r → Fm M (pupd M a (.lst L)) a C (c + k) → Q r (pupd M a (.lst L))
theorem pFi_mono {ι : Type} {n k : Nat} {Pre R} : MonoP (pFi (ι := ι) n k Pre R) := fun ps M Q Q' E E' h _ ⟨l, a, C, c, rest, i, h1, h2, h3, h4, h5⟩ => ⟨l, a, C, c, rest, i, h1, h2, h3, h4, fun r L a1 a2 => h _ _ (h5 r L a1 a2)⟩
theorem pFi_len {ι : Type} {n k : Nat} {Pre R} : LenP (pFi (ι := ι) n k Pre R) n := fun _ _ _ _ h => h.1
theorem pFi_use {ι : Type} {n k : Nat} {Pre R} {M0 M : PH} {a C : Addr} {c : Nat} {rest : List PV} {Q : QE} {E} (i : ι) (F : Fm M0 M a C c) (hl : (PV.ref a :: rest).length = n) (hc : c + k ≤ 1000000000000) (hp : Pre i rest M) (h : ∀ (r : PV) (M' : PH), R i M r → Fm M0 M' a C (c + k) → Fm M M' a C (c + k) → Q r M') : pFi n k Pre R (.ref a :: rest) M Q E :=
  ⟨hl, a, C, c, rest, i, rfl, F.self, hc, hp, fun r L hr G => h r _ hr (F.trans G) G⟩
end PL
set_option autoImplicit false
namespace PL
open PySem PySem.Spec L2
open PyProof.Rows hiding St
theorem pcut_to {α : Type} (xs : List α) (k : Nat) : pcut xs none (some (k : Int)) = xs.take k := by
  unfold pcut
  rw [HT.sIx_none, HT.sIx_nat]
  simp only [List.drop_zero, Nat.sub_zero]
  rw [Nat.min_def]; split
  · rfl
  · rw [List.take_of_length_le (Nat.le_refl _), List.take_of_length_le (by omega)]
theorem pcut_from {α : Type} (xs : List α) (k : Nat) : pcut xs (some (k : Int)) none = xs.drop k := by
  unfold pcut
  rw [HT.sIx_none, HT.sIx_nat]
  rw [Nat.min_def]; split
  · rw [List.take_of_length_le (by simp)]
  · rw [List.drop_eq_nil_of_le (Nat.le_refl _), List.drop_eq_nil_of_le (by omega)]; simp
theorem rSl_to {Q : QE} {M : PH} {xs : List PV} {k : Nat} (h : Q (.tup (xs.take k)) M) : rSlP (.tup xs) none (some (k : Int)) M Q := by
  refine rSl_tup ?_; rw [pcut_to]; exact h
theorem rSl_from {Q : QE} {M : PH} {xs : List PV} {k : Nat} (h : Q (.tup (xs.drop k)) M) : rSlP (.tup xs) (some (k : Int)) none M Q := by
  refine rSl_tup ?_; rw [pcut_from]; exact h
theorem lSl_to {Q : QE} {M : PH} {a : Addr} {xs : List PV} {k : Nat} (e : M a = some (.lst xs)) (h : ∀ D, ¬ Wr M D → Q (.ref D) (pupd M D (.lst (xs.take k)))) : rSlP (.ref a) none (some (k : Int)) M Q := by
  refine rSl_lst (listAt_lst e) fun D n => ?_; rw [pcut_to]; exact h D n
/-! ## words -/
def abc : Str := "abcdefghijklmnopqrstuvwxyz"
def chr1 (n : Nat) : Str := ⟨#[97 + n]⟩
theorem abc_at : ∀ n : Nat, n < 26 → abc.cps.toList[n]? = some (97 + n) := by decide
theorem abc_ix {i : Int} (h0 : 0 ≤ i) (h1 : i < 26) : atI abc.cps.toList i = some (97 + i.toNat) := by
  obtain ⟨n, rfl⟩ := Int.eq_ofNat_of_zero_le h0
  exact atI_nat (abc_at n (by omega))
theorem rIx_abc {Q : QE} {M : PH} {i : Int} (h0 : 0 ≤ i) (h1 : i < 26) (h : Q (.str (chr1 i.toNat)) M) : rIxP (.str abc) (.int i) M Q :=
  rIx_str (by rw [sizeLine_eq]; decide) (abc_ix h0 h1) h
theorem app_cps (x y : Str) : (x ++ y).cps.toList = x.cps.toList ++ y.cps.toList := by
  show (x.cps ++ y.cps).toList = _
  simp
theorem len_cps (x : Str) : x.length = x.cps.toList.length := rfl
theorem str_ext {x y : Str} (h : x.cps.toList = y.cps.toList) : x = y := by
  cases x; cases y; simp at h; simp [h]
theorem join0_cps : ∀ ys : List Str, (Str.join "" ys).cps.toList = (ys.map fun y => y.cps.toList).flatten
  | [] => rfl
  | [x] => by simp [Str.join]
  | x :: y :: r => by
    rw [Str.join]
    · rw [app_cps, app_cps, join0_cps (y :: r)]
      simp
      rfl
    · simp
/-- a word of at most n small letters -/
def Wd (n : Nat) (z : Str) : Prop := 1 ≤ z.length ∧ z.length ≤ n ∧ ∀ c ∈ z.cps.toList, 97 ≤ c ∧ c ≤ 122
theorem Wd.ok {n : Nat} {z : Str} (h : Wd n z) : PyData.strOk z = true := by
  unfold PyData.strOk
  rw [Array.all_eq_true']
  intro c hc
  have := h.2.2 c (Array.mem_def.mp hc)
  simp; omega
theorem Wd.ne {n : Nat} {z : Str} (h : Wd n z) : z ≠ "" := fun e => by
  have := h.1
  rw [e] at this
  exact absurd this (by decide)
theorem dats_strs (ws : List Str) : dats (ws.map PV.str) = ws.map PyData.str := by
  rw [dats_map, List.map_map]; exact List.map_congr_left fun w _ => by rw [Function.comp, dat]
theorem pls_all : ∀ {xs : List PV}, (∀ x ∈ xs, pl x = true) → pls xs = true
  | [], _ => by rw [pls]
  | x :: r, h => by rw [pls, h x List.mem_cons_self, pls_all fun y hy => h y (List.mem_cons_of_mem _ hy)]; rfl
theorem tls_all : ∀ {xs : List PV}, (∀ x ∈ xs, tl x = true) → tls xs = true
  | [], _ => by rw [tls]
  | x :: r, h => by rw [tls, h x List.mem_cons_self, tls_all fun y hy => h y (List.mem_cons_of_mem _ hy)]; rfl
theorem purs_all : ∀ {xs : List PV}, (∀ x ∈ xs, pur x = true) → purs xs = true
  | [], _ => by rw [purs]
  | x :: r, h => by rw [purs, h x List.mem_cons_self, purs_all fun y hy => h y (List.mem_cons_of_mem _ hy)]; rfl
theorem dpts_all {n : Nat} : ∀ {xs : List PV}, (∀ x ∈ xs, dpt x ≤ n) → dpts xs ≤ n
  | [], _ => by rw [dpts]; omega
  | x :: r, h => by
    rw [dpts]
    have := h x List.mem_cons_self
    have := dpts_all (xs := r) fun y hy => h y (List.mem_cons_of_mem _ hy)
    omega
theorem shns_all {n : Nat} : ∀ {xs : List PV}, (∀ x ∈ xs, shn x ≤ n) → shns xs ≤ (n + 2) * xs.length
  | [], _ => by rw [shns]; omega
  | x :: r, h => by
    rw [shns, List.length_cons, Nat.mul_succ]
    have := h x List.mem_cons_self
    have := shns_all (xs := r) fun y hy => h y (List.mem_cons_of_mem _ hy)
    omega
theorem srtb_strs (ws : List Str) : Srtb (ws.map PV.str) := by
  refine ⟨purs_all fun x hx => ?_, ?_, ?_, fun x hx => ?_⟩
  · obtain ⟨w, _, rfl⟩ := List.mem_map.mp hx; rw [pur]; all_goals (intros; contradiction)
  · rw [dats_strs]
    intro d hd d' hd'
    obtain ⟨w, _, rfl⟩ := List.mem_map.mp hd
    obtain ⟨w', _, rfl⟩ := List.mem_map.mp hd'
    rfl
  · refine .inr fun d hd => ?_
    rw [dats_strs] at hd
    obtain ⟨w, _, rfl⟩ := List.mem_map.mp hd
    exact ⟨nofun, nofun⟩
  · obtain ⟨w, _, rfl⟩ := List.mem_map.mp hx
    rw [dpt_eq, dpt]; omega; all_goals (intros; contradiction)
/-- what is sorted is the same things -/
theorem sortP_perm (xs : List PV) : (sortP xs).Perm xs := List.mergeSort_perm xs leP
theorem sortP_strs (ws : List Str) : ∃ us : List Str, sortP (ws.map PV.str) = us.map PV.str ∧ us.Perm ws := by
  have key : ∀ (xs : List PV), (∀ x ∈ xs, ∃ w, x = PV.str w) → ∃ us : List Str, xs = us.map PV.str := by
    intro xs
    induction xs with
    | nil => intro _; exact ⟨[], rfl⟩
    | cons x r ih =>
      intro h
      obtain ⟨w, rfl⟩ := h x List.mem_cons_self
      obtain ⟨us, rfl⟩ := ih fun y hy => h y (List.mem_cons_of_mem _ hy)
      exact ⟨w :: us, rfl⟩
  obtain ⟨us, e⟩ := key (sortP (ws.map PV.str)) fun x hx => by
    obtain ⟨w, _, rfl⟩ := List.mem_map.mp ((sortP_perm _).mem_iff.mp hx)
    exact ⟨w, rfl⟩
  refine ⟨us, e, ?_⟩
  have := sortP_perm (ws.map PV.str)
  rw [e] at this
  have inj : Function.Injective PV.str := fun a b h => by cases h; rfl
  have hm := this.map (fun p => match p with | .str w => w | _ => "")
  rwa [List.map_map, List.map_map, show ((fun p => match p with | .str w => w | _ => "") ∘ PV.str) = (id : Str → Str) from rfl, List.map_id, List.map_id] at hm
end PL
set_option autoImplicit false
namespace PL
open PySem PySem.Spec L2
open PyProof.Rows hiding St

/-! ## which of two tuples stands ahead, whatever stands behind the first that differs -/
section
open Ob PySem.SeqAt PySem.MeetsSeq PySem.MeetsSeq2 PySem.MeetsSeq3
theorem lt_walk (p q : Addr) (xs ys : Array Value) (n m : Nat) (d1 d2 : Option Addr) (z1 z2 : Array (Option Value)) (e r : Nat → Bool) :
    Meets (Builtin.«tuple.__lt__» ⟨[.ref p, .ref q], []⟩)
      (fun A R s => s.heap.get? p = some { cls := .type "tuple", dict := d1, data := .seq xs n, slots := z1 } ∧ s.heap.get? q = some { cls := .type "tuple", dict := d2, data := .seq ys m, slots := z2 } ∧
        (∀ j (h1 : j < xs.size) (h2 : j < ys.size), EqAt A.in1 s xs[j] ys[j] (e j)) ∧
        (∀ j (h1 : j < xs.size) (h2 : j < ys.size), (∀ k, k < j → e k = true) → e j = false → RcOp .Lt A.in1 s xs[j] ys[j] (r j)) ∧
        R (.ok (.ret (.bool (lexAt e r (decide (xs.size < ys.size)) 0 (min xs.size ys.size))))) s) :=
  .of_wp fun prog w A R s h => by
    obtain ⟨hp, g, d, tk, os⟩ := s
    obtain ⟨gp, gq, heq, hlt, fin⟩ := h
    have sub := AutoSeq1.sub_tuple_tuple
    have len : (xs.toList.zip ys.toList).length = min xs.size ys.size := by simp
    wp_walk using PySem.AutoSeq1.wpAny_loadPart' gp, PySem.AutoSeq1.wpAny_loadPart' gq, wpAny_forIn_list _ (fun rest b s' => b.1 = none ∧ s' = ⟨hp, g, d, tk, os⟩ ∧ ∃ i, rest = (xs.toList.zip ys.toList).drop i ∧ (∀ k, k < i → e k = true) ∧
      R (.ok (.ret (.bool (lexAt e r (decide (xs.size < ys.size)) i (min xs.size ys.size - i))))) ⟨hp, g, d, tk, os⟩) _
    case turn =>
      rintro ⟨u, v⟩ rest b s' ⟨eb, rfl, i, ez, hall, hR⟩
      have il : i < (xs.toList.zip ys.toList).length := by
        apply Nat.lt_of_not_le
        intro h'
        rw [List.drop_of_length_le h'] at ez; cases ez
      have i1 : i < xs.size := by omega
      have i2 : i < ys.size := by omega
      rw [List.drop_eq_getElem_cons il] at ez
      obtain ⟨euv, er⟩ := List.cons.inj ez
      have eu : u = xs[i] := by have := congrArg Prod.fst euv; simpa using this
      have ev : v = ys[i] := by have := congrArg Prod.snd euv; simpa using this
      subst eu; subst ev
      have es : min xs.size ys.size - i = (min xs.size ys.size - (i + 1)) + 1 := by omega
      rw [es, lexAt_succ] at hR
      refine wpAny_bind (heq i i1 i2 prog w _ _ ?_)
      cases ei : e i with
      | true =>
        rw [ei, if_pos rfl] at hR
        wp_walk
        refine ⟨rfl, rfl, i + 1, er, fun k hk => ?_, hR⟩
        rcases Nat.lt_succ_iff_lt_or_eq.mp hk with h | h
        · exact hall k h
        · rw [h]; exact ei
      | false =>
        rw [ei, if_neg Bool.false_ne_true] at hR
        have hri := hlt i i1 i2 hall ei prog w
        wp_walk using hri
        exact ⟨_, rfl, by simpa using hR⟩
    case fin =>
      rintro ⟨b1, b2⟩ s' ⟨eb, rfl, i, ez, hall, hR⟩
      simp only at eb
      subst eb
      have ge : min xs.size ys.size ≤ i := by
        apply Nat.le_of_not_lt
        intro h'
        rw [List.drop_eq_getElem_cons (by omega)] at ez; cases ez
      rw [Nat.sub_eq_zero_of_le ge, lexAt_zero] at hR
      wp_walk
      exact ⟨_, rfl, by simpa [Builtin.Tuple.tupleCompareSizes] using hR⟩
    case h =>
      exact ⟨rfl, rfl, 0, rfl, fun k hk => absurd hk (Nat.not_lt_zero k), by simpa using fin⟩
theorem lt_tuples {A : Around} {s : Shared} {p q : Addr} {xs ys : Array Value} {e r : Nat → Bool} (hp : s.heap.IsTuple p xs) (hq : s.heap.IsTuple q ys) (hu : A.units < cLine)
    (he : ∀ j (h1 : j < xs.size) (h2 : j < ys.size), EqAt A.in1 s xs[j] ys[j] (e j))
    (hr : ∀ j (h1 : j < xs.size) (h2 : j < ys.size), (∀ k, k < j → e k = true) → e j = false → RcOp .Lt A.in1 s xs[j] ys[j] (r j)) :
    RcOp .Lt A s (.ref p) (.ref q) (lexAt e r (decide (xs.size < ys.size)) 0 (min xs.size ys.size)) := fun prog w E Q h => by
  obtain ⟨⟨c1, d1, t1, z1⟩, g1, hc1, n1, ht1⟩ := id hp
  obtain ⟨⟨c2, d2, t2, z2⟩, g2, hc2, n2, ht2⟩ := id hq
  simp only at hc1 ht1 hc2 ht2
  subst hc1 ht1 hc2 ht2
  exact richCompare_meets_room (op := .Lt) ⟨_, g1, rfl⟩ ⟨_, g2, rfl⟩ PySem.F.slot_tuple_lt PySem.F.entry_tuple_lt (PySem.F.args_tuple_lt_2 _ _) (lt_walk p q xs ys n1 n2 d1 d2 z1 z2 e r)
    ⟨g1, g2, he, hr, ⟨(fun x => nomatch x), h⟩⟩ hu
end
/-! ### of data -/
mutual
/-- Python can tell which of the two is less -/
def cmpD : PyData → PyData → Bool
  | .int _, .int _ => true
  | .str _, .str _ => true
  | .tuple xs, .tuple ys => cmpDs xs ys
  | _, _ => false
def cmpDs : List PyData → List PyData → Bool
  | x :: xs, y :: ys => if PyData.eqv x y = true then cmpDs xs ys else cmpD x y
  | _, _ => true
end
mutual
def ltD : PyData → PyData → Bool
  | .int i, .int j => decide (i < j)
  | .str x, .str y => decide (x.cps.toList < y.cps.toList)
  | .tuple xs, .tuple ys => ltDs xs ys
  | _, _ => false
def ltDs : List PyData → List PyData → Bool
  | x :: xs, y :: ys => if PyData.eqv x y = true then ltDs xs ys else ltD x y
  | xs, ys => decide (xs.length < ys.length)
end
theorem ltDs_lex (e r : Nat → Bool) : ∀ (xs ys : List PyData) (i : Nat), (∀ j x y, xs[j]? = some x → ys[j]? = some y → e (i + j) = PyData.eqv x y ∧ r (i + j) = ltD x y) → Ob.lexAt e r (decide (xs.length < ys.length)) i (min xs.length ys.length) = ltDs xs ys
  | [], ys, i, _ => by rw [List.length_nil, Nat.zero_min, Ob.lexAt_zero]; cases ys <;> rw [ltDs] <;> (first | rfl | (intros; contradiction))
  | x :: xs, [], i, _ => by rw [List.length_nil, Nat.min_zero, Ob.lexAt_zero, ltDs]; rfl; intros; contradiction
  | x :: xs, y :: ys, i, h => by
    have h0 := h 0 x y rfl rfl
    have ih := ltDs_lex e r xs ys (i + 1) fun j a b ha hb => by
      have := h (j + 1) a b (by simpa using ha) (by simpa using hb)
      rwa [Nat.add_assoc, Nat.add_comm 1 j]
    rw [List.length_cons, List.length_cons, Nat.succ_min_succ, Ob.lexAt_succ, ltDs]
    rw [Nat.add_zero] at h0
    rw [h0.1, h0.2]
    have e2 : decide (xs.length + 1 < ys.length + 1) = decide (xs.length < ys.length) := by simp
    rw [e2, ih]
theorem cmpDs_at : ∀ (xs ys : List PyData) (j : Nat) (x y : PyData), cmpDs xs ys = true → xs[j]? = some x → ys[j]? = some y → (∀ k a b, k < j → xs[k]? = some a → ys[k]? = some b → PyData.eqv a b = true) → PyData.eqv x y = false → cmpD x y = true
  | [], _, _, _, _, _, h, _, _, _ => by simp at h
  | _ :: _, [], _, _, _, _, _, h, _, _ => by simp at h
  | a :: xs, b :: ys, 0, x, y, c, h1, h2, _, n => by
    simp at h1 h2; subst h1; subst h2
    rw [cmpDs, n, if_neg Bool.false_ne_true] at c
    exact c
  | a :: xs, b :: ys, j + 1, x, y, c, h1, h2, h, n => by
    rw [cmpDs, h 0 a b (by omega) rfl rfl, if_pos rfl] at c
    exact cmpDs_at xs ys j x y c (by simpa using h1) (by simpa using h2) (fun k u v hk hu hv => h (k + 1) u v (by omega) (by simpa using hu) (by simpa using hv)) n
theorem reads_at {h : Heap} : ∀ {vs : List Value} {xs : List PyData} {as : List Addr}, ReadsAll h vs xs as → ∀ (j : Nat) (v : Value), vs[j]? = some v → ∃ x bs, xs[j]? = some x ∧ Reads h v x bs := by
  intro vs xs as r
  induction xs generalizing vs as with
  | nil => cases r; intro j v hv; simp at hv
  | cons x xs ih =>
    cases r with
    | cons a b =>
      intro j v hv
      cases j with
      | zero => simp at hv; subst hv; exact ⟨x, _, rfl, a⟩
      | succ j => simpa using ih b j v (by simpa using hv)
theorem depth_at : ∀ {xs : List PyData} {j : Nat} {x : PyData}, xs[j]? = some x → x.depth ≤ PyData.depthAll xs
  | [], _, _, h => by simp at h
  | a :: xs, 0, x, h => by simp at h; subst h; rw [PyData.depthAll]; omega
  | a :: xs, j + 1, x, h => by
    have := depth_at (xs := xs) (j := j) (by simpa using h)
    rw [PyData.depthAll]; omega
theorem lt_rc : ∀ (n : Nat) (d e : PyData) (A : Around) (s : Shared) (a b : Value) (as bs : List Addr), d.depth ≤ n → Reads s.heap a d as → Reads s.heap b e bs → d.canLay0 = true → e.canLay0 = true → cmpD d e = true →
    A.units + min d.depth e.depth < cLine → Ob.RcOp .Lt A s a b (ltD d e) := by
  intro n
  induction n with
  | zero =>
    intro d e A s a b as bs hn ra rb ca cb hc hu
    cases d <;> cases e <;> (try (rw [cmpD] at hc; cases hc)) <;> (try (intros; contradiction))
    · cases ra; cases rb; rw [ltD]; exact Ob.RcOp.lt_int _ _ _ _
    · cases ra; cases rb; rw [ltD]; exact fun _ _ _ _ h => PyProof.Rows.lt_str h
    all_goals (first | (rw [PyData.depth] at hn; omega) | (intros; contradiction))
  | succ n ih =>
    intro d e A s a b as bs hn ra rb ca cb hc hu
    cases d <;> cases e <;> (try (rw [cmpD] at hc; cases hc)) <;> (try (intros; contradiction))
    · cases ra; cases rb; rw [ltD]; exact Ob.RcOp.lt_int _ _ _ _
    · cases ra; cases rb; rw [ltD]; exact fun _ _ _ _ h => PyProof.Rows.lt_str h
    · rename_i xs ys
      cases ra with
      | @tuple _ o1 vs1 n1 _ _ g1 c1 t1 r1 =>
      cases rb with
      | @tuple _ o2 vs2 n2 _ _ g2 c2 t2 r2 =>
      rw [cmpD] at hc
      rw [PyData.depth, PyData.depth] at hu
      rw [PyData.depth] at hn
      have l1 := SeqAt.ReadsAll.length _ _ _ r1
      have l2 := SeqAt.ReadsAll.length _ _ _ r2
      have ca' : PyData.canLayAll0 xs = true := ca
      have cb' : PyData.canLayAll0 ys = true := cb
      have at1 : ∀ j (h : j < vs1.size), ∃ x bs, xs[j]? = some x ∧ Reads s.heap vs1[j] x bs ∧ x.canLay0 = true ∧ x.depth ≤ PyData.depthAll xs := fun j h => by
        obtain ⟨x, bs, e1, e2⟩ := reads_at r1 j vs1[j] (by simp)
        exact ⟨x, bs, e1, e2, PyData.canLay0_of_mem xs x ca' (List.mem_of_getElem? e1), depth_at e1⟩
      have at2 : ∀ j (h : j < vs2.size), ∃ x bs, ys[j]? = some x ∧ Reads s.heap vs2[j] x bs ∧ x.canLay0 = true ∧ x.depth ≤ PyData.depthAll ys := fun j h => by
        obtain ⟨x, bs, e1, e2⟩ := reads_at r2 j vs2[j] (by simp)
        exact ⟨x, bs, e1, e2, PyData.canLay0_of_mem ys x cb' (List.mem_of_getElem? e1), depth_at e1⟩
      have u1 : A.in1.units = A.units + 1 := rfl
      have R := lt_tuples (A := A) (s := s) (e := fun j => PyData.eqv (xs.getD j .none) (ys.getD j .none)) (r := fun j => ltD (xs.getD j .none) (ys.getD j .none)) ⟨_, g1, c1, _, t1⟩ ⟨_, g2, c2, _, t2⟩ (by omega)
        (fun j h1 h2 => by
          obtain ⟨x, bs, e1, rx, cx, dx⟩ := at1 j h1
          obtain ⟨y, cs, e2, ry, cy, dy⟩ := at2 j h2
          rw [List.getD_eq_getElem?_getD, List.getD_eq_getElem?_getD, e1, e2]
          exact SeqAt.eqAt_reads x y A.in1 s _ _ _ _ rx ry cx cy (by rw [u1]; omega))
        (fun j h1 h2 hall hj => by
          obtain ⟨x, bs, e1, rx, cx, dx⟩ := at1 j h1
          obtain ⟨y, cs, e2, ry, cy, dy⟩ := at2 j h2
          rw [List.getD_eq_getElem?_getD, List.getD_eq_getElem?_getD, e1, e2] at hj ⊢
          refine ih x y A.in1 s _ _ _ _ (by omega) rx ry cx cy ?_ (by rw [u1]; omega)
          refine cmpDs_at xs ys j x y hc e1 e2 (fun k a b hk ha hb => ?_) hj
          have := hall k hk
          rwa [List.getD_eq_getElem?_getD, List.getD_eq_getElem?_getD, ha, hb] at this)
      have s1 : vs1.size = xs.length := by rw [← l1]; simp
      have s2 : vs2.size = ys.length := by rw [← l2]; simp
      rw [s1, s2, ltDs_lex _ _ xs ys 0 (fun j x y hx hy => by
        rw [Nat.zero_add, List.getD_eq_getElem?_getD, List.getD_eq_getElem?_getD, hx, hy]
        exact ⟨rfl, rfl⟩)] at R
      rw [ltD]
      exact R
    all_goals (first | (rw [PyData.depth] at hn; omega) | (intros; contradiction))
/-- < of tuples of data -/
def r0LtD (K : Fg) : R2 := fun x y H Q => ∃ d e, Dp K H x d ∧ Dp K H y e ∧ SeqAt.shaped d = true ∧ SeqAt.shaped e = true ∧ cmpD d e = true ∧ Q (.bl (ltD d e)) H
theorem op_ltD {X : Cx} (hu : X.A.units + 64 < cLine) : OpR X (compareOp .Lt) (r0LtD X.K) := by
  intro pins s σ H x y v u Q I rx ry h
  obtain ⟨d, e, hd, he, sd, se, hc, q⟩ := h
  obtain ⟨as, r1⟩ := Dp.reads I d x v hd rx
  obtain ⟨bs, r2⟩ := Dp.reads I e y u he ry
  exact lt_rc _ d e X.A s v u _ _ (Nat.le_refl _) r1 r2 (SeqAt.canLay_of_shaped sd) (SeqAt.canLay_of_shaped se) hc (SeqAt.room_of_shaped sd hu) X.prog X.w X.xe (EP X pins σ Q) ⟨.bl _, H, I, rfl, q⟩
def rLtX : PR2 := fun x y M Q => match x, y with
  | .int i, .int j => Q (.bl (decide (i < j))) M
  | .str i, .str j => Q (.bl (decide (i.cps.toList < j.cps.toList))) M
  | .tup xs, .tup ys => pur (.tup xs) = true ∧ pur (.tup ys) = true ∧ shp (dat (.tup xs)) = true ∧ shp (dat (.tup ys)) = true ∧ cmpD (dat (.tup xs)) (dat (.tup ys)) = true ∧ Q (.bl (ltD (dat (.tup xs)) (dat (.tup ys)))) M
  | _, _ => False
theorem mono_ltX : Mono2 rLtX := by
  intro x y M Q Q' k h
  unfold rLtX at h ⊢
  split at h
  · exact k _ _ h
  · exact k _ _ h
  · exact ⟨h.1, h.2.1, h.2.2.1, h.2.2.2.1, h.2.2.2.2.1, k _ _ h.2.2.2.2.2⟩
  · exact h
def r0LtX (K : Fg) : R2 := fun x y H Q => r0Lt x y H Q ∨ r0LtD K x y H Q
theorem lift_ltX {K : Fg} : Lift2 K rLtX (r0LtX K) := by
  intro M H x y v u Q rh rx ry h
  unfold rLtX at h
  split at h
  · rw [Rep] at rx ry; exact .inl (.inl ⟨_, _, rx, ry, dn_here rh (by rw [Rep]) h⟩)
  · rw [Rep] at rx ry; exact .inl (.inr ⟨_, _, rx, ry, dn_here rh (by rw [Rep]) h⟩)
  · exact .inr ⟨_, _, dp_of h.1 rx, dp_of h.2.1 ry, h.2.2.1, h.2.2.2.1, h.2.2.2.2.1, dn_here rh (by rw [Rep]) h.2.2.2.2.2⟩
  · exact h.elim
theorem op_ltX {X : Cx} (hu : X.A.units + 64 < cLine) : OpR X (compareOp .Lt) (r0LtX X.K) := OpR.or op_lt' (op_ltD hu)
end PL
set_option autoImplicit false
namespace PL
open PySem PySem.Spec L2
open PyProof.Rows hiding St
open RZ

/-! ## where a word stands in a written tuple of words -/
structure KIx (K : Fg) (mg : Str → Option Value) (x : Str) (ys : List Str) : Prop where
  is : ∃ (t : Addr) (o : Obj), mg x = some (.ref t) ∧ K.lookup t = some o ∧ o.cls = .type "tuple" ∧ o.dict = none ∧ ∀ H, Rep K H (.tup (ys.map PV.str)) (.ref t)
def wKIx (ys : List Str) (e : WE) : WE := fun EP s M Q => e EP s M fun p M1 => match p with
  | .str z => ∃ j, ys[j]? = some z ∧ (∀ m, m < j → ys[m]? ≠ some z) ∧ Q (.int (j : Nat)) M1
  | _ => False
theorem reps_strs {K : Fg} {H : Hp} : ∀ {ys : List Str} {vs : List V}, Reps K H (ys.map PV.str) vs → vs = ys.map V.str
  | [], vs, h => by rw [List.map_nil, Reps] at h; exact h
  | y :: ys, vs, h => by
    rw [List.map_cons, Reps] at h
    obtain ⟨v, r, rfl, h1, h2⟩ := h
    rw [Rep] at h1
    rw [h1, reps_strs h2]; rfl
theorem ee_kidx {X : Cx} {W : WX} {x : Str} {ys : List Str} {e : Expr} {we : WE} {p apos pos : Pos} (k : KIx X.K X.mg x ys) (he : EE X W e we) (hg : Gl X x := by rfl) (hd : (x == ("__debug__" : Str)) = false := by decide)
    (hbase : attributeBase (.Name x p) "index" X.env (eval (.Name x p) X.env) = eval (.Name x p) X.env := by rfl) (hfew : ((backTo pos (starEach [e] X.env)).all (fun x => !x.1) && (backToKw pos (keywordEach [] X.env)).all (fun x => x.1.isSome)
      && decide ([e].length + ([] : List Keyword).length + (if ([] : List Keyword).isEmpty then 0 else 1) < 30)) = true := by rfl)
    (hline : (apos.endLine == pos.line) = true := by rfl) (hst : starEach [e] X.env = (false, eval e X.env) :: starEach [] X.env := by rfl) (hpl : (backTo pos (starEach [] X.env)).any (·.1) = false := by rfl) :
    EE X W (.Call (.Attribute (.Name x p) "index" apos) [e] [] pos) (wKIx ys we) := by
  obtain ⟨t, o, hm, hl, hc, hn, hr⟩ := k.is
  refine ⟨fun EP s M Q Q' k h => he.mono _ _ _ _ _ (fun p M1 z => ?_) h, pe_weak (pe_bm PySem.F.plainAttrs_tuple PySem.F.slot_tuple_index PySem.F.type_tuple_index mt_tup_index (pe_glob (v := .ref t) hg hm rfl hd) (ea_cons he ea_nil hst).run hbase hfew hline hst hpl) ?_⟩
  · cases p with
    | str z' => exact let ⟨j, a, b, c⟩ := z; ⟨j, a, b, k _ _ c⟩
    | _ => exact z
  · rintro σ H Q ⟨EP, s, M, c, h⟩
    refine ⟨.inr (.inl ⟨rfl, o, hl, hc, hn⟩), ?_⟩
    refine c.useA (w := wCons we wNil) (ea_cons he ea_nil hst).mono (R := fun ps M1 => ∃ p, ps = [p] ∧ (match p with
      | .str z => ∃ j, ys[j]? = some z ∧ (∀ m, m < j → ys[m]? ≠ some z) ∧ Dn X.K M H Q (.int (j : Nat)) M1
      | _ => False)) (he.mono _ _ _ _ _ (fun p M1 z => ⟨p, rfl, z⟩) h) fun ps M1 vs H1 h1 S1 c1 r1 => ?_
    obtain ⟨p, rfl, h1⟩ := h1
    obtain ⟨v, rfl, rv⟩ := reps1 r1
    cases p with
    | str z =>
      rw [Rep] at rv; subst rv
      obtain ⟨j, a, b, q⟩ := h1
      have r := hr H1
      rw [Rep] at r
      obtain ⟨t', vs, e1, hs, rr⟩ := r
      cases e1
      rw [reps_strs rr] at hs
      exact ⟨t, ys, z, j, rfl, rfl, hs, a, b, dn_here c1.rh (by rw [Rep]) (q.on S1)⟩
    | _ => exact h1.elim
/-! ## where a thing stands in a list -/
def mLIndex : PM := fun x ps M Q => match x, ps with
  | .ref a, [p] => ∃ xs j z, M a = some (.lst xs) ∧ purs xs = true ∧ pur p = true ∧ shp (.list (dats xs)) = true ∧ shp (dat p) = true ∧ xs[j]? = some z ∧ PyData.eqv (dat z) (dat p) = true ∧ (∀ m z', m < j → xs[m]? = some z' → PyData.eqv (dat z') (dat p) = false) ∧ Q (.int (j : Nat)) M
  | _, _ => False
theorem mono_lindex : MonoM mLIndex := by
  intro x ps M Q Q' k h
  unfold mLIndex at h ⊢
  split at h
  · exact let ⟨xs, j, z, a, b, c, d, e, f, g, i, q⟩ := h; ⟨xs, j, z, a, b, c, d, e, f, g, i, k _ _ q⟩
  · exact h
theorem dats_get : ∀ {xs : List PV} {j : Nat}, (dats xs)[j]? = (xs[j]?).map dat := fun {xs} {j} => by rw [dats_map, List.getElem?_map]
theorem lift_lindex {K : Fg} : LiftM K mLIndex (rIndexD K) := by
  intro M H x ps v vs Q rh rx rps h
  unfold mLIndex at h
  split at h
  · obtain ⟨xs, j, z, e, hp, hq, s1, s2, hz, ez, hno, q⟩ := h
    rw [Rep] at rx; subst rx
    obtain ⟨u, rfl, ru⟩ := reps1 rps
    obtain ⟨us, hu, rr⟩ := rh _ _ e
    refine ⟨_, u, dat _, dats xs, j, dat z, rfl, rfl, .lst (SqL.of hu) (dps_of hp rr), dp_of hq ru, s1, s2, by rw [dats_get, hz]; rfl, ez, fun m z' hm hz' => ?_, dn_here rh (by rw [Rep]) q⟩
    rw [dats_get] at hz'
    obtain ⟨y, h1, h2⟩ := Option.map_eq_some_iff.mp hz'
    subst h2
    exact hno m y hm h1
  · exact h.elim
/-! ## zip of two -/
def pairP (x y : PV) : PV := .tup [x, y]
def qZip (QI : PSrc → PH → Prop) : List PV → PH → Prop := fun ps M1 => match ps with
  | [.tup xs, .tup ys] => QI ⟨List.zipWith pairP xs ys, fun _ => True⟩ M1
  | [.ref a, .ref b] => match listAt M1 a, listAt M1 b with
    | some xs, some ys => QI ⟨List.zipWith pairP xs ys, fun M => listAt M a = some xs ∧ listAt M b = some ys⟩ M1
    | _, _ => False
  | _ => False
def iZp (a : WA) : WI := fun EP s M Q => a EP s M (qZip Q)
theorem zip_end {α β γ : Type} {f : α → β → γ} {xs : List α} {ys : List β} {i : Nat} (h : i = (List.zipWith f xs ys).length) : xs.length ≤ i ∨ ys.length ≤ i := by
  rw [List.length_zipWith] at h; omega
theorem zip_at {α β γ : Type} {f : α → β → γ} {xs : List α} {ys : List β} {i : Nat} {p : γ} (h : (List.zipWith f xs ys)[i]? = some p) : ∃ x y, xs[i]? = some x ∧ ys[i]? = some y ∧ p = f x y := by
  rw [List.getElem?_zipWith] at h
  cases e : xs[i]? with
  | none => rw [e] at h; simp at h
  | some x => cases e2 : ys[i]? with
    | none => rw [e, e2] at h; simp at h
    | some y => rw [e, e2] at h; simp at h; exact ⟨x, y, rfl, rfl, h.symm⟩
theorem pair_new {K : Fg} {M : PH} {H : Hp} {x y : PV} {u v : V} {T : Addr} (rh : RepH K H M) (rx : Rep K H x u) (ry : Rep K H y v) (hT : H T = none) :
    Step M H M (upd H T (.tup [u, v])) ∧ RepH K (upd H T (.tup [u, v])) M ∧ Rep K (upd H T (.tup [u, v])) (pairP x y) (.ref T) := by
  have t : TKeep H (upd H T (.tup [u, v])) := tk_upd (notup_none hT)
  refine ⟨.hidden hT, rh.upd_free hT, ?_⟩
  unfold pairP
  rw [Rep]
  refine ⟨T, [u, v], rfl, .inl (.inl upd_same), ?_⟩
  rw [Reps]
  refine ⟨u, [v], rfl, rx.tk t, ?_⟩
  rw [Reps]
  refine ⟨v, [], rfl, ry.tk t, ?_⟩
  rw [Reps]
theorem ei_zip {X : Cx} {W : WX} {a b : Expr} {wa : WA} {elts : List Expr} {kk : Nat} {p pos tpos : Pos} (hm : X.mg "zip" = none) (ha : EA X W [a, b] wa) (hg : Gl X "zip" := by rfl) (hs : starEach [a, b] X.env = (false, eval a X.env) :: starEach [b] X.env := by rfl) (hpl : (backTo pos (starEach [b] X.env)).any (·.1) = false := by rfl) :
    EI X W (.Tuple elts kk tpos) (.Call (.Name "zip" p) [a, b] [] pos) (iZp wa) := by
  refine ⟨fun EP s M Q Q' k h => ha.mono _ _ _ _ _ (fun ps M1 z => ?_) h, pi_weak (RZ.pi_zipA hg hm ha.run hs hpl) ?_⟩
  · unfold qZip at z ⊢
    split at z
    · exact k _ _ z
    · split at z
      · exact k _ _ z
      · exact z
    · exact z
  · rintro σ H R ⟨EP, s, M, c, h⟩
    refine c.useA ha.mono h fun ps M1 vs H1 h1 S1 c1 r1 => ?_
    unfold qZip at h1
    split at h1
    · rename_i xs ys
      obtain ⟨u, v, rfl, ru, rv⟩ := reps2 r1
      rw [Rep] at ru rv
      obtain ⟨a1, us, rfl, s1, rr1⟩ := ru
      obtain ⟨a2, ws, rfl, s2, rr2⟩ := rv
      refine ⟨a1, a2, us, ws, rfl, .inr ⟨s1, s2, h1 _ H1 S1 c1.rh ?_⟩⟩
      intro i M2 H2 S2 rh2 _
      have t := S2.tk c1.rh
      refine ⟨fun p hp => ?_, fun hi => ⟨us, ws, sqt_keep t s1, sqt_keep t s2, by rw [← rr1.length, ← rr2.length]; exact zip_end hi⟩⟩
      obtain ⟨x, y, hx, hy, rfl⟩ := zip_at hp
      obtain ⟨u, hu, r1⟩ := rr1.get hx
      obtain ⟨w, hw, r2⟩ := rr2.get hy
      refine ⟨⟨us, ws, u, w, sqt_keep t s1, sqt_keep t s2, hu, hw⟩, fun z H' hz => ?_⟩
      obtain ⟨T, u', w', rfl, hT, rfl, h3, h4⟩ := hz
      have e1 := h3 us (sqt_keep t s1)
      have e2 := h4 ws (sqt_keep t s2)
      rw [hu] at e1; cases e1
      rw [hw] at e2; cases e2
      exact pair_new rh2 (r1.tk t) (r2.tk t) hT
    · rename_i a1 a2
      obtain ⟨u, v, rfl, ru, rv⟩ := reps2 r1
      rw [Rep] at ru rv
      subst ru; subst rv
      split at h1
      · rename_i xs ys e1 e2
        obtain ⟨us, rr1, s1⟩ := listAt_rd c1.rh e1
        obtain ⟨ws, rr2, s2⟩ := listAt_rd c1.rh e2
        refine ⟨a1, a2, us, ws, rfl, .inl ⟨s1, s2, h1 _ H1 S1 c1.rh ?_⟩⟩
        intro i M2 H2 S2 rh2 ok
        obtain ⟨us, rr1, s1⟩ := listAt_rd rh2 ok.1
        obtain ⟨ws, rr2, s2⟩ := listAt_rd rh2 ok.2
        refine ⟨fun p hp => ?_, fun hi => ⟨us, ws, s1, s2, by rw [← rr1.length, ← rr2.length]; exact zip_end hi⟩⟩
        obtain ⟨x, y, hx, hy, rfl⟩ := zip_at hp
        obtain ⟨u, hu, r1⟩ := rr1.get hx
        obtain ⟨w, hw, r2⟩ := rr2.get hy
        refine ⟨⟨us, ws, u, w, s1, s2, hu, hw⟩, fun z H' hz => ?_⟩
        obtain ⟨T, u', w', rfl, hT, rfl, h3, h4⟩ := hz
        have e3 := h3 us s1
        have e4 := h4 ws s2
        rw [hu] at e3; cases e3
        rw [hw] at e4; cases e4
        exact pair_new rh2 r1 r2 hT
      · exact h1.elim
    · exact h1.elim
/-! ## a statement that is never come to -/
def wNever : WS := fun _ _ _ _ => False
theorem es_never {X : Cx} {W : WX} {st : Stmt} : ES X W st wNever :=
  ⟨fun EP D D' s M k h => h.elim, ⟨fun pins s σ H D I q => by obtain ⟨EP, sp, M, c, h⟩ := q; exact h.elim⟩⟩
/-! ## is, is not, with None and truths -/
def rIsX (neg : Bool) : PR2 := fun x y M Q => match y with
  | .non => match x with
    | .non => Q (.bl (!neg)) M
    | _ => Q (.bl neg) M
  | .bl b => match x with
    | .bl a => Q (.bl (if neg then !decide (a = b) else decide (a = b))) M
    | _ => False
  | _ => False
theorem mono_isX {neg : Bool} : Mono2 (rIsX neg) := by
  intro x y M Q Q' k h
  cases y with
  | non => cases x <;> exact k _ _ h
  | bl b => cases x <;> first | exact k _ _ h | exact h
  | _ => exact h
def r0IsX : R2 := fun x y H Q => (y = .non ∧ Q (.bl (decide (x = .non))) H) ∨ ∃ a b, x = .bl a ∧ y = .bl b ∧ Q (.bl (decide (a = b))) H
def r0IsN : R2 := fun x y H Q => (y = .non ∧ Q (.bl (!decide (x = .non))) H) ∨ ∃ a b, x = .bl a ∧ y = .bl b ∧ Q (.bl (!decide (a = b))) H
theorem op_isX {X : Cx} : OpR X (compareOp .Is) r0IsX := OpR.or op_isN op_is_bl
theorem op_isnotX {X : Cx} : OpR X (compareOp .IsNot) r0IsN := OpR.or op_notN op_isnot_bl
theorem lift_isX {K : Fg} : Lift2 K (rIsX false) r0IsX := by
  intro M H x y v u Q rh rx ry h
  cases y with
  | non =>
    rw [Rep] at ry
    refine .inl ⟨ry, ?_⟩
    have e := rep_non rx
    cases x <;> (simp at e; simp only [e, decide_true, decide_false]; exact dn_here rh (p := .bl _) (by rw [Rep] <;> rfl) h)
  | bl b =>
    rw [Rep] at ry
    cases x with
    | bl a => rw [Rep] at rx; exact .inr ⟨a, b, rx, ry, dn_here rh (p := .bl (decide (a = b))) (by rw [Rep]) h⟩
    | _ => exact h.elim
  | _ => exact h.elim
theorem lift_isnotX {K : Fg} : Lift2 K (rIsX true) r0IsN := by
  intro M H x y v u Q rh rx ry h
  cases y with
  | non =>
    rw [Rep] at ry
    refine .inl ⟨ry, ?_⟩
    have e := rep_non rx
    cases x <;> (simp at e; simp only [e, decide_true, decide_false, Bool.not_true, Bool.not_false]; exact dn_here rh (p := .bl _) (by rw [Rep] <;> rfl) h)
  | bl b =>
    rw [Rep] at ry
    cases x with
    | bl a => rw [Rep] at rx; exact .inr ⟨a, b, rx, ry, dn_here rh (p := .bl (!decide (a = b))) (by rw [Rep]) h⟩
    | _ => exact h.elim
  | _ => exact h.elim
/-! ## isinstance -/
def tyN (M : PH) : PV → Option String
  | .non => some "NoneType"
  | .bl _ => some "bool"
  | .int _ => some "int"
  | .str _ => some "str"
  | .tup _ => some "tuple"
  | .ref a => match M a with
    | some (.lst _) => some "list"
    | some (.dK _) => some "dict"
    | _ => none
  | .ty _ => none
theorem tyN_x {K : Fg} {H : Hp} {M : PH} {p : PV} {v : V} {t : String} (rh : RepH K H M) (r : Rep K H p v) (h : tyN M p = some t) : TyX K H v (.type t) := by
  cases p with
  | non => rw [Rep] at r; subst r; rw [tyN] at h; cases h; exact .base .non
  | bl b => rw [Rep] at r; subst r; rw [tyN] at h; cases h; exact .base (.bl b)
  | int b => rw [Rep] at r; subst r; rw [tyN] at h; cases h; exact .base (.int b)
  | str b => rw [Rep] at r; subst r; rw [tyN] at h; cases h; exact .base (.str b)
  | tup xs =>
    rw [tyN] at h; cases h
    rw [Rep] at r
    obtain ⟨a, vs, rfl, hs, rr⟩ := r
    rcases hs with (h | ⟨o, h⟩) | h
    · exact .base (.tup h)
    · exact .fTuple h
    · obtain ⟨o, its, n, e1, e2, _⟩ := h
      exact .kTuple e1 e2
  | ref a =>
    rw [Rep] at r; subst r
    rw [tyN] at h
    split at h
    · rename_i e; cases h; obtain ⟨vs, hv, _⟩ := rh _ _ e; exact .base (.lst hv)
    · rename_i e; cases h; obtain ⟨vs, hv, _⟩ := rh _ _ e; exact .base (.dK hv)
    · cases h
  | ty _ => rw [tyN] at h; cases h
def cIsi : PC := fun ps M Q => match ps with
  | [p, .ty T] => ∃ t b, tyN M p = some t ∧ kitB t T = some b ∧ Q (.bl b) M
  | _ => False
theorem mono_isi : MonoC cIsi := by
  intro ps M Q Q' k h
  unfold cIsi at h ⊢
  split at h
  · exact let ⟨t, b, e1, e2, q⟩ := h; ⟨t, b, e1, e2, k _ _ q⟩
  · exact h
theorem lift_isi {K : Fg} : LiftC K cIsi (rIsi K) := by
  intro M H ps vs Q rh r h
  unfold cIsi at h
  split at h
  · obtain ⟨t, b, e1, e2, q⟩ := h
    obtain ⟨u, v, rfl, ru, rv⟩ := reps2 r
    rw [Rep] at rv; subst rv
    exact ⟨u, _, .type t, .type _, b, rfl, .ty _, tyN_x rh ru e1, kit_ty e2, dn_here rh (by rw [Rep]) q⟩
  · exact h.elim
end PL
set_option autoImplicit false
namespace PL
open PySem PySem.Spec L2
open PyProof.Rows hiding St

/-! ## a tuple, a list from behind -/
section
variable {prog : Program} {w : World} {A : Around} {E : Value → Shared → Prop} {s : Shared}
theorem part_int {v : Value} {o : Option Int} {Q : Option Int → Shared → Prop} (p : IsPart v o) (h : Q o s) : wpAny (model prog w) A (Builtin.Slice.slicePartIndex v) Q E s := HT.slicePart_ p h
theorem adjust_back (n : Nat) : Builtin.Slice.sliceAdjust none none (-1) (n : Int) = ((n : Int) - 1, -1) := by
  unfold Builtin.Slice.sliceAdjust
  simp
theorem places_back (n : Nat) : Builtin.Slice.slicePlaces ((n : Int) - 1) (-1) (-1) = n := by
  unfold Builtin.Slice.slicePlaces
  simp
  split <;> omega
theorem fm_range : ∀ (ys : List Value) (f : Nat → Option Value), (∀ m, m < ys.length → f m = ys[m]?) → (List.range ys.length).filterMap f = ys
  | [], _, _ => rfl
  | y :: r, f, h => by
    have h0 : f 0 = some y := h 0 (by simp)
    rw [List.length_cons, List.range_succ_eq_map, List.filterMap_cons_some h0, List.filterMap_map]
    rw [fm_range r (f ∘ Nat.succ) fun m hm => by
      have := h (m + 1) (by simp; omega)
      rw [Function.comp]
      simpa using this]
theorem pick_back (xs : Array Value) : ((List.range xs.size).filterMap fun (m : Nat) => xs[(((xs.size : Int) - 1) + (m : Int) * (-1)).toNat]?).toArray = xs.toList.reverse.toArray := by
  congr 1
  have h := fm_range xs.toList.reverse (fun (m : Nat) => xs[(((xs.size : Int) - 1) + (m : Int) * (-1)).toNat]?) fun m hm => by
    rw [List.length_reverse, Array.length_toList] at hm
    rw [List.getElem?_reverse (by simpa using hm)]
    have : (((xs.size : Int) - 1) + (m : Int) * (-1)).toNat = xs.size - 1 - m := by omega
    rw [this]; simp
  rw [List.length_reverse, Array.length_toList] at h
  exact h
theorem applied_back {sl : Addr} {vl vu vs : Value} {n : Nat} {Q : Int × Int × Nat → Shared → Prop} (hs : s.heap.IsSliceOf sl vl vu vs) (pl : IsPart vl none) (pu : IsPart vu none) (ps : IsPart vs (some (-1)))
    (h : Q ((n : Int) - 1, -1, n) s) : wpAny (model prog w) A (Builtin.Slice.sliceApplied (.ref sl) (pure (n : Int))) Q E s := by
  obtain ⟨os, g, hc, hd⟩ := id hs
  unfold Builtin.Slice.sliceApplied Builtin.Slice.sliceFields
  refine wpAny_bind (wpAny_bind (wpAny_field g hd (x := vl) rfl (wpAny_bind (wpAny_field g hd (x := vu) rfl (wpAny_bind (wpAny_field g hd (x := vs) rfl (wpAny_pure ?_)))))))
  refine wpAny_bind (part_int ps ?_)
  show wpAny _ _ (if ((-1 : Int) == 0) = true then _ else _) _ _ s
  rw [if_neg (by decide)]
  refine wpAny_bind (part_int pl (wpAny_bind (part_int pu (wpAny_bind (wpAny_pure ?_)))))
  show wpAny _ _ (match Builtin.Slice.sliceAdjust none none (-1) (n : Int) with | (lo, hi) => pure (lo, (-1 : Int), Builtin.Slice.slicePlaces lo hi (-1))) _ _ s
  rw [adjust_back n]
  show wpAny _ _ (pure ((n : Int) - 1, (-1 : Int), Builtin.Slice.slicePlaces ((n : Int) - 1) (-1) (-1))) _ _ s
  rw [places_back]
  exact wpAny_pure h
theorem getItem_tuple_back {t sl : Addr} {items : Array Value} {vl vu vs : Value} {Q : Value → Shared → Prop} (ht : IsTup s.heap t items) (hs : s.heap.IsSliceOf sl vl vu vs) (pl : IsPart vl none) (pu : IsPart vu none) (ps : IsPart vs (some (-1)))
    (h : Q (.ref s.heap.objs.size) { s with heap := s.heap.push { cls := .type "tuple", data := .seq items.toList.reverse.toArray } }) (hz : items.size ≤ sizeLine) : wpAny (model prog w) A (getItem (.ref t) (.ref sl)) Q E s := by
  have fits : sizeOk (.seq items.toList.reverse.toArray) := by
    show items.toList.reverse.toArray.size ≤ sizeLine
    simpa using hz
  obtain ⟨os, g, hc, hd⟩ := id hs
  have hT : s.TypeIs (.ref sl) "slice" := ⟨os, g, hc⟩
  unfold getItem
  try with_reducible refine wpAny_holding ?_
  first | refine wpAny_bind (wpAny_pure ?_) | skip
  refine wpAny_bind (wpAny_sequenceKey ht.typeIs (by decide) ?_)
  refine wpAny_bind (wpAny_callSpecial?_slot (name := Str.ofString "__getitem__") ht.typeIs PyProof.Rows.slot_tuple_getitem
    (wpAny_call_entry PyProof.Rows.slot_tuple_getitem ht.typeIs entry_tuple_getitem ?_ (args_tuple_getitem _ _)))
  show wpAny _ _ (Builtin.Tuple.tupleItemsOf (.ref t) >>= _) _ _ s
  refine wpAny_bind (tupleItemsOf_ ht ?_)
  refine wpAny_bind (wpAny_typeOf hT ?_)
  rw [if_pos (by decide)]
  refine wpAny_bind (applied_back hs pl pu ps ?_)
  have no : ¬ ((((items.size : Int) - 1) == 0 && ((-1 : Int) == 1) && (items.size == items.size)) = true) := by simp
  show wpAny _ _ (if (((items.size : Int) - 1) == 0 && ((-1 : Int) == 1) && (items.size == items.size)) = true then _ else _) _ _ s
  rw [if_neg no, pick_back]
  first
    | exact wpAny_bind (m := Builtin.Tuple.tupleExact _) (wpAny_newObj_type (wpAny_pure ⟨_, rfl, wpAny_pure h⟩) fits)
    | exact wpAny_bind (m := Builtin.Tuple.tupleExact _) (wpAny_newObj_type (wpAny_bind (wpAny_pure (wpAny_pure ⟨_, rfl, wpAny_pure h⟩))) fits)
    | exact wpAny_bind (wpAny_bind (m := Builtin.Tuple.tupleExact _) (wpAny_newObj_type (wpAny_pure (wpAny_pure ⟨_, rfl, wpAny_pure h⟩)) fits))
    | exact wpAny_bind (wpAny_bind (m := Builtin.Tuple.tupleExact _) (wpAny_newObj_type (wpAny_pure ⟨_, rfl, wpAny_pure h⟩) fits))
end
def tBack (K : Fg) (te : TE) : TE := fun σ H Q => te σ H fun x H1 => ∃ a xs, x = .ref a ∧ ((SqL K H1 a xs ∧ ∀ p, H1 p = none → Q (.ref p) (upd H1 p (.lst xs.reverse))) ∨ (SqT K H1 a xs ∧ ∀ p, H1 p = none → Q (.ref p) (upd H1 p (.tup xs.reverse))))
theorem pe_back {X : Cx} {e : Expr} {te : TE} {k : Nat} {p1 p2 p3 pos : Pos} (he : PE X e te) : PE X (.Subscript e (.Slice none none (some (.UnaryOp .USub (.Constant (.int 1) k p1) p2)) p3) pos) (tBack X.K te) := by
  refine ⟨fun pins s σ H Q I h => ?_⟩
  refine Subscript_ (thn (he.run pins s σ H _ I h) fun v s1 ⟨x, H1, I1, r1, q1⟩ => ?_)
  obtain ⟨a, xs, ex, q⟩ := q1
  subst ex
  cases r1
  have hst : L2.PO X (some (.UnaryOp .USub (.Constant (.int 1) k p1) p2)) (tPart (tUn (rU fun i => .int (-i)) (tC (.int 1)))) := po_some (pe_un un_neg pe_int)
  refine wpAny_Slice (thn (po_none.run pins s1 σ H1 (fun o H2 => o = none ∧ H2 = H1) I1 ⟨rfl, rfl⟩) fun vl s2 ⟨l, H2, I2, pl, el, e2⟩ => ?_)
  subst el e2
  refine thn (po_none.run pins s2 σ H2 (fun o H3 => o = none ∧ H3 = H2) I2 ⟨rfl, rfl⟩) fun vu s3 ⟨u, H3, I3, pu, eu, e3⟩ => ?_
  subst eu e3
  refine thn (hst.run pins s3 σ H3 (fun o H4 => o = some (-1) ∧ H4 = H3) I3 ⟨1, rfl, -1, rfl, rfl, rfl⟩) fun vs s4 ⟨o, H4, I4, ps, eo, e4⟩ => ?_
  subst eo e4
  have I5 : Inv X pins σ H4 { s4 with heap := s4.heap.push { cls := .type "slice", data := .fields #[vl, vu, vs] } } := I4.kept (t' := s4.toks) fun b ob q => Heap.get?_push_of_some _ q
  show wpAny (model X.prog X.w) X.A (subscriptTail e (.Slice none none (some (.UnaryOp .USub (.Constant (.int 1) k p1) p2)) p3) (.ref a) (.ref s4.heap.objs.size)) (EP X pins σ Q) X.xe { s4 with heap := s4.heap.push { cls := .type "slice", data := .fields #[vl, vu, vs] } }
  rcases q with ⟨hx, q⟩ | ⟨hx, q⟩
  · obtain ⟨its, r, ht, hz⟩ := I5.list hx
    have hlen := r.length
    refine tail_any (ops := [.ref a, .ref s4.heap.objs.size]) ht.isList.typeIs (PySem.slot_list_getitem.lookup) ?_ (by with_unfolding_all rfl)
    refine wpAny_getItem_list_slice ht.isList (Heap.IsSliceOf.new _ vl vu vs) pl pu ps (by decide) ?_ (by rw [List.size_toArray]; omega)
    rw [PySem.W.krv_pick]
    refine ⟨.ref _, _, I5.laid (t' := s4.toks) (o := .lst xs.reverse) (fun b ob q => Heap.get?_push_of_some _ q) (Nat.le_refl _) ?_, rfl, q _ (I5.hok.fresh (Nat.le_refl _))⟩
    exact ⟨by rw [List.length_reverse]; exact hz, _, 0, r.reverse, Heap.get?_push_size _ rfl⟩
  · obtain ⟨its, r, ht, hz⟩ := I5.tuple hx
    have hlen := r.length
    refine tail_any (ops := [.ref a, .ref s4.heap.objs.size]) ht.typeIs (PyProof.Rows.slot_tuple_getitem.lookup) ?_ (by with_unfolding_all rfl)
    refine getItem_tuple_back ht (Heap.IsSliceOf.new _ vl vu vs) pl pu ps ?_ (by rw [List.size_toArray]; omega)
    refine ⟨.ref _, _, I5.laid (t' := s4.toks) (o := .tup xs.reverse) (fun b ob q => Heap.get?_push_of_some _ q) (Nat.le_refl _) ?_, rfl, q _ (I5.hok.fresh (Nat.le_refl _))⟩
    exact ⟨by rw [List.length_reverse]; exact hz, _, r.reverse, _, Heap.get?_push_size _ rfl, rfl, _, rfl⟩
def qBack (Q : QE) : QE := fun p M1 => match p with
  | .tup xs => Q (.tup xs.reverse) M1
  | .ref a => match listAt M1 a with
    | some xs => ∀ D, ¬ Wr M1 D → Q (.ref D) (pupd M1 D (.lst xs.reverse))
    | none => False
  | _ => False
def wBack (e : WE) : WE := fun EP s M Q => e EP s M (qBack Q)
theorem Reps.reverse {K : Fg} {H : Hp} : ∀ {ps : List PV} {vs : List V}, Reps K H ps vs → Reps K H ps.reverse vs.reverse
  | [], vs, h => by rw [Reps] at h; subst h; exact .nil
  | p :: ps, vs, h => by
    rw [Reps] at h
    obtain ⟨v, r, rfl, h1, h2⟩ := h
    rw [List.reverse_cons, List.reverse_cons]
    refine Reps.append (Reps.reverse h2) ?_
    rw [Reps]
    exact ⟨v, [], rfl, h1, .nil⟩
theorem ee_back {X : Cx} {W : WX} {e : Expr} {we : WE} {k : Nat} {p1 p2 p3 pos : Pos} (he : EE X W e we) : EE X W (.Subscript e (.Slice none none (some (.UnaryOp .USub (.Constant (.int 1) k p1) p2)) p3) pos) (wBack we) := by
  refine ⟨fun EP s M Q Q' k h => he.mono _ _ _ _ _ (fun p M1 z => ?_) h, pe_weak (pe_back he.run) ?_⟩
  · unfold qBack at z ⊢
    split at z
    · exact k _ _ z
    · split at z
      · exact fun D n => k _ _ (z D n)
      · exact z
    · exact z
  · rintro σ H Q ⟨EP, s, M, c, h⟩
    refine c.use he.mono h fun p M1 v H1 h1 S1 c1 r1 => ?_
    unfold qBack at h1
    split at h1
    · rw [Rep] at r1
      obtain ⟨a, vs, rfl, hs, rr⟩ := r1
      exact ⟨a, vs, rfl, .inr ⟨hs, dn_newtup c1.rh rr.reverse (Dn.on S1 h1)⟩⟩
    · rw [Rep] at r1; subst r1
      split at h1
      · rename_i xs e1
        obtain ⟨vs, rr, hl⟩ := listAt_rd c1.rh e1
        refine ⟨_, vs, rfl, .inl ⟨hl, fun p hp => ?_⟩⟩
        have t : TKeep H1 (upd H1 p (.lst vs.reverse)) := tk_upd (notup_none hp)
        exact h1 p (c1.rh.free hp) _ _ (S1.trans (Step.new hp)) (c1.rh.upd_both (notup_none hp) ⟨_, upd_same, rr.reverse.tk t⟩) (by rw [Rep])
      · exact h1.elim
    · exact h1.elim
end PL
set_option autoImplicit false
namespace PL
open PySem PySem.Spec L2
open PyProof.Rows hiding St

/-! ## a helper that draws, and may leave more lists -/
def pFg {ι : Type} (n k : Nat) (Pre : ι → List PV → PH → Addr → Prop) (R : ι → PH → PV → PH → Prop) : PSp := fun ps M Q _ => ps.length = n ∧ ∃ (a C : Addr) (c : Nat) (rest : List PV) (i : ι), ps = .ref a :: rest ∧ Fm M M a C c ∧ c + k ≤ 1000000000000 ∧ Pre i rest M a ∧
  ∀ (r : PV) (M' : PH), Fm M M' a C (c + k) → R i M r M' → Q r M'
theorem pFg_mono {ι : Type} {n k : Nat} {Pre R} : MonoP (pFg (ι := ι) n k Pre R) := fun ps M Q Q' E E' h _ ⟨l, a, C, c, rest, i, h1, h2, h3, h4, h5⟩ => ⟨l, a, C, c, rest, i, h1, h2, h3, h4, fun r M' a1 a2 => h _ _ (h5 r M' a1 a2)⟩
theorem pFg_len {ι : Type} {n k : Nat} {Pre R} : LenP (pFg (ι := ι) n k Pre R) n := fun _ _ _ _ h => h.1
theorem pFg_use {ι : Type} {n k : Nat} {Pre R} {M0 M : PH} {a C : Addr} {c : Nat} {rest : List PV} {Q : QE} {E} (i : ι) (F : Fm M0 M a C c) (hl : (PV.ref a :: rest).length = n) (hc : c + k ≤ 1000000000000) (hp : Pre i rest M a) (h : ∀ (r : PV) (M' : PH), R i M r M' → Fm M0 M' a C (c + k) → Fm M M' a C (c + k) → Q r M') : pFg n k Pre R (.ref a :: rest) M Q E :=
  ⟨hl, a, C, c, rest, i, rfl, F.self, hc, hp, fun r M' G hr => h r M' hr (F.trans G) G⟩
theorem rt_here {Q : QE} {r : PV} {M : PH} (h : Q r M) : (DDef Q).rt r M := ⟨M, PLe.refl _, h⟩
/-! ## steps -/
section
variable {EP : PX} {D : PEnds} {s : PSt} {M : PH} {Q : QE} {QB : Bool → PH → Prop} {QA : List PV → PH → Prop} {QI : PSrc → PH → Prop}
theorem rLtX_int {i j : Int} (h : Q (.bl (decide (i < j))) M) : rLtX (.int i) (.int j) M Q := h
theorem rLtX_str {i j : Str} (h : Q (.bl (decide (i.cps.toList < j.cps.toList))) M) : rLtX (.str i) (.str j) M Q := h
theorem iZp_i {a : WA} (h : a EP s M (qZip QI)) : iZp a EP s M QI := h
theorem qZip_tup {xs ys : List PV} (h : QI ⟨List.zipWith pairP xs ys, fun _ => True⟩ M) : qZip QI [.tup xs, .tup ys] M := h
theorem qZip_lst {a b : Addr} {xs ys : List PV} (e1 : M a = some (.lst xs)) (e2 : M b = some (.lst ys)) (h : QI ⟨List.zipWith pairP xs ys, fun M => listAt M a = some xs ∧ listAt M b = some ys⟩ M) : qZip QI [.ref a, .ref b] M := by
  unfold qZip; dsimp only; rw [listAt_lst e1, listAt_lst e2]; exact h
def qKIx (ys : List Str) (Q : QE) : QE := fun p M1 => match p with
  | .str z => ∃ j, ys[j]? = some z ∧ (∀ m, m < j → ys[m]? ≠ some z) ∧ Q (.int (j : Nat)) M1
  | _ => False
theorem wKIx_i {ys : List Str} {e : WE} (h : e EP s M (qKIx ys Q)) : wKIx ys e EP s M Q := h
theorem qKIx_i {ys : List Str} {z : Str} (j : Nat) (e : ys[j]? = some z) (n : ∀ m, m < j → ys[m]? ≠ some z) (h : Q (.int (j : Nat)) M) : qKIx ys Q (.str z) M := ⟨j, e, n, h⟩
theorem wBack_i {e : WE} (h : e EP s M (qBack Q)) : wBack e EP s M Q := h
theorem qBack_tup {xs : List PV} (h : Q (.tup xs.reverse) M) : qBack Q (.tup xs) M := h
theorem qBack_lst {a : Addr} {xs : List PV} (e : M a = some (.lst xs)) (h : ∀ D, ¬ Wr M D → Q (.ref D) (pupd M D (.lst xs.reverse))) : qBack Q (.ref a) M := by
  unfold qBack; dsimp only; rw [listAt_lst e]; exact h
theorem wAsg_i {e : WE} {g : WG} (h : e EP s M fun p M1 => g p s M1 D.nx) : wAsg e g EP D s M := h
theorem cList_lst {a : Addr} {xs : List PV} (e : M a = some (.lst xs)) (h : xs.length ≤ sizeLine ∧ QA xs M) : cList [.ref a] M QA := by
  unfold cList seqAt; dsimp only; rw [listAt_lst e]; exact h
theorem cList_tup {xs : List PV} (h : xs.length ≤ sizeLine ∧ QA xs M) : cList [.tup xs] M QA := h
theorem rIsX_bl {neg a b : Bool} (h : Q (.bl (if neg then !decide (a = b) else decide (a = b))) M) : rIsX neg (.bl a) (.bl b) M Q := h
theorem rIsX_nn {neg : Bool} (h : Q (.bl (!neg)) M) : rIsX neg .non .non M Q := h
theorem rIsX_tup {neg : Bool} {xs : List PV} (h : Q (.bl neg) M) : rIsX neg (.tup xs) .non M Q := h
theorem rIsX_str {neg : Bool} {x : Str} (h : Q (.bl neg) M) : rIsX neg (.str x) .non M Q := h
theorem rIsX_bn {neg b : Bool} (h : Q (.bl neg) M) : rIsX neg (.bl b) .non M Q := h
theorem cIsi_i {p : PV} {T t : String} (b : Bool) (e1 : tyN M p = some t) (e2 : kitB t T = some b) (h : Q (.bl b) M) : cIsi [p, .ty T] M Q := ⟨t, b, e1, e2, h⟩
theorem any_str {z : Str} : ∀ ys : List Str, ((ys.map PV.str).any fun y => eqP y (.str z)) = decide (z ∈ ys)
  | [] => by simp
  | y :: ys => by
    rw [List.map_cons, List.any_cons, any_str ys, eqP_str]
    by_cases h : y = z
    · subst h; simp
    · have : ¬ z = y := fun e => h e.symm
      simp [h, this]
/-- a text in a tuple of texts -/
theorem rIn_strs {neg : Bool} {z : Str} (ys : List Str) (h : pl (.str z) = true) (g : ∀ y ∈ ys, pl (.str y) = true) (k : Q (.bl (if neg then !decide (z ∈ ys) else decide (z ∈ ys))) M) : rInG neg (.str z) (.tup (ys.map PV.str)) M Q := by
  refine rIn_tup h (pls_all fun x hx => by obtain ⟨y, hy, rfl⟩ := List.mem_map.mp hx; exact g y hy) (by rw [dpt]; omega; all_goals (intros; contradiction)) (Nat.le_trans (dpts_all (n := 0) fun x hx => by obtain ⟨y, hy, rfl⟩ := List.mem_map.mp hx; rw [dpt]; exact Nat.le_refl _; all_goals (intros; contradiction)) (by omega)) ?_
  rw [any_str]; exact k
end
theorem strOk_of {x : Str} (h : ∀ c ∈ x.cps.toList, c < 1114112) : PyData.strOk x = true := by
  unfold PyData.strOk
  rw [Array.all_eq_true']
  intro c hc
  have := h c (Array.mem_def.mp hc)
  simp; omega
theorem pl_str {x : Str} (h : PyData.strOk x = true) : pl (.str x) = true := by rw [pl]; exact h; all_goals (intros; contradiction)
theorem tl_str {x : Str} (h : PyData.strOk x = true) : tl (.str x) = true := by rw [tl]; exact h; all_goals (intros; contradiction)
theorem str_inj : ∀ a b : Str, PV.str a = PV.str b → a = b := fun a b h => by cases h; rfl
theorem atI0 {α : Type} {x : α} {r : List α} : atI (x :: r) 0 = some x := atI_nat (j := 0) rfl
theorem atI1 {α : Type} {x y : α} {r : List α} : atI (x :: y :: r) 1 = some y := atI_nat (j := 1) rfl
theorem atI2 {α : Type} {x y z : α} {r : List α} : atI (x :: y :: z :: r) 2 = some z := atI_nat (j := 2) rfl
theorem atI3 {α : Type} {x y z u : α} {r : List α} : atI (x :: y :: z :: u :: r) 3 = some u := atI_nat (j := 3) rfl
theorem atI4 {α : Type} {x y z u v : α} {r : List α} : atI (x :: y :: z :: u :: v :: r) 4 = some v := atI_nat (j := 4) rfl
/-! ## kinds of data that can be told apart by < -/
inductive Kd where
  | i | s | t (k : Kd)
mutual
def HasK : Kd → PV → Prop
  | .i, .int _ => True
  | .s, .str _ => True
  | .t k, .tup xs => HasKs k xs
  | _, _ => False
def HasKs : Kd → List PV → Prop
  | _, [] => True
  | k, x :: xs => HasK k x ∧ HasKs k xs
end
mutual
theorem hasK_cmp : ∀ (k : Kd) (p q : PV), HasK k p → HasK k q → cmpD (dat p) (dat q) = true
  | .i, .int _, .int _, _, _ => by rw [dat, dat, cmpD]
  | .s, .str _, .str _, _, _ => by rw [dat, dat, cmpD]
  | .t k, .tup xs, .tup ys, h, g => by rw [dat, dat, cmpD]; exact hasKs_cmp k xs ys h g
theorem hasKs_cmp : ∀ (k : Kd) (xs ys : List PV), HasKs k xs → HasKs k ys → cmpDs (dats xs) (dats ys) = true
  | _, [], _, _, _ => by rw [dats, cmpDs]; intros; contradiction
  | _, x :: xs, [], _, _ => by rw [dats, dats, cmpDs]; intros; contradiction
  | k, x :: xs, y :: ys, h, g => by
    rw [dats, dats, cmpDs]
    split
    · exact hasKs_cmp k xs ys h.2 g.2
    · exact hasK_cmp k x y h.1 g.1
end
theorem hasKs_all {k : Kd} : ∀ {xs : List PV}, (∀ x ∈ xs, HasK k x) → HasKs k xs
  | [], _ => trivial
  | x :: r, h => ⟨h x List.mem_cons_self, hasKs_all fun y hy => h y (List.mem_cons_of_mem _ hy)⟩
end PL
set_option autoImplicit false
namespace PL
open PySem PySem.Spec L2
open PyProof.Rows hiding St

/-! ## a, b = x, y -/
def qPar (i j : Nat) (D : PEnds) (s : PSt) : List PV → PH → Prop := fun ps M1 => match ps with
  | [p, q] => D.nx ((s.set i (some p)).set j (some q)) M1
  | _ => False
def wPar (i j : Nat) (a : WA) : WS := fun EP D s M => a EP s M (qPar i j D s)
theorem wPar_i {EP : PX} {D : PEnds} {s : PSt} {M : PH} {i j : Nat} {a : WA} (h : a EP s M (qPar i j D s)) : wPar i j a EP D s M := h
theorem qPar_i {D : PEnds} {s : PSt} {M : PH} {i j : Nat} {p q : PV} (h : D.nx ((s.set i (some p)).set j (some q)) M) : qPar i j D s [p, q] M := h
theorem es_par {X : Cx} {W : WX} {i j : Nat} {x y : Str} {a b : Expr} {wa : WA} {px py pt pos : Pos} {kt k2 pt2} (hc : X.calm = true) (hN : X.N.Nodup) (ha : EA X W [a, b] wa) (hi : X.N[i]? = some x := by rfl) (hj : X.N[j]? = some y := by rfl) (hij : i ≠ j := by decide)
    (hx : X.env.scope.names.lookup x = some .local := by rfl) (hy : X.env.scope.names.lookup y = some .local := by rfl)
    (hw : swappedStores [.Tuple [.Name x px, .Name y py] kt pt] (.Tuple [a, b] k2 pt2) X.env = pure (some [x, y]) := by rfl)
    (hs : swapsWithSole [.Tuple [.Name x px, .Name y py] kt pt] (.Tuple [a, b] k2 pt2) pos.line X.env = pure false := by rfl) :
    ES X W (.Assign [.Tuple [.Name x px, .Name y py] kt pt] (.Tuple [a, b] k2 pt2) pos) (wPar i j wa) := by
  refine ⟨fun EP D D' s M k h => ha.mono _ _ _ _ _ (fun ps M1 z => ?_) h, ps_weak (ps_par hc hN hi hj hij hx hy ha.run hw hs) ?_⟩
  · unfold qPar at z ⊢
    split at z
    · exact k.nx _ _ z
    · exact z
  · rintro D σ H ⟨EP, s, M, c, h⟩
    refine c.useA ha.mono h fun ps M1 vs H1 h1 S1 c1 r1 => ?_
    unfold qPar at h1
    split at h1
    · obtain ⟨u, v, rfl, ru, rv⟩ := reps2 r1
      exact ⟨u, v, rfl, h1 _ H1 S1 c1.rh ((c1.rs.set ru _).set rv _)⟩
    · exact h1.elim
end PL
set_option autoImplicit false
namespace PL
open PySem PySem.Spec L2
open PyProof.Rows hiding St

/-! ## the order of keys that are plain data, told by rows of signs -/
section
open PySem.W
abbrev TK (p : PV) : List (Int ⊕ List Nat) := keyToks (dat p)
abbrev TKs (ps : List PV) : List (Int ⊕ List Nat) := keyToksAll (dats ps)
abbrev lx (a b : List (Int ⊕ List Nat)) : Bool := PyProof.Rows.lexLt itemOrd a b
theorem lx_cons (x : Int ⊕ List Nat) (a b : List (Int ⊕ List Nat)) : lx (x :: a) (x :: b) = lx a b := lex_self (O := itemOrd) x a b
mutual
theorem tk_cmp : ∀ (p q : PV), pl p = true → pl q = true → cmpD (dat p) (dat q) = true → (p ≠ q → ∀ l m, lx (TK p ++ l) (TK q ++ m) = lx (TK p) (TK q)) ∧ ltD (dat p) (dat q) = lx (TK p) (TK q)
  | .int a, q, hp, hq, hc => by
    cases q with
    | int b =>
      refine ⟨fun ne l m => ?_, ?_⟩
      · have : a ≠ b := fun e => ne (by rw [e])
        simp only [TK, dat, keyToks, List.cons_append, List.nil_append]
        exact lex_atom (fun e => this (Sum.inl.inj e)) l m
      · have := dataLt_int a b
        simp only [dat, ltD]
        exact this.symm
    | _ => (try simp only [dat, cmpD] at hc) <;> exact absurd hc (by simp)
  | .str a, q, hp, hq, hc => by
    cases q with
    | str b =>
      refine ⟨fun ne l m => ?_, ?_⟩
      · have : a ≠ b := fun e => ne (by rw [e])
        simp only [TK, dat, keyToks, List.cons_append, List.nil_append]
        exact lex_atom (fun e => this (str_ext (Sum.inr.inj e))) l m
      · have := dataLt_str a b
        simp only [dat, ltD]
        exact this.symm
    | _ => (try simp only [dat, cmpD] at hc) <;> exact absurd hc (by simp)
  | .tup ps, q, hp, hq, hc => by
    cases q with
    | tup qs =>
      rw [pl] at hp hq
      rw [dat, dat, cmpD] at hc
      obtain ⟨h1, h2⟩ := tks_cmp ps qs hp hq hc
      refine ⟨fun ne l m => ?_, ?_⟩
      · have := h1 (fun e => ne (by rw [e])) l m
        simp only [TK, dat, keyToks]
        exact this
      · simp only [TK, dat, ltD, keyToks]
        exact h2
    | _ => (try simp only [dat, cmpD] at hc) <;> exact absurd hc (by simp)
  | .non, q, hp, hq, hc => by cases q <;> (try simp only [dat, cmpD] at hc) <;> exact absurd hc (by simp)
  | .bl _, q, hp, hq, hc => by rw [pl] at hp; cases hp; all_goals (intros; contradiction)
  | .ref _, q, hp, hq, hc => by rw [pl] at hp; cases hp; all_goals (intros; contradiction)
  | .ty _, q, hp, hq, hc => by rw [pl] at hp; cases hp; all_goals (intros; contradiction)
theorem tks_cmp : ∀ (ps qs : List PV), pls ps = true → pls qs = true → cmpDs (dats ps) (dats qs) = true → (ps ≠ qs → ∀ l m, lx (TKs ps ++ l) (TKs qs ++ m) = lx (TKs ps) (TKs qs)) ∧ ltDs (dats ps) (dats qs) = lx (TKs ps) (TKs qs)
  | [], [], _, _, _ => ⟨fun ne => absurd rfl ne, by simp only [dats, ltDs, TKs]; exact (lex_irrefl (O := itemOrd) (keyToksAll [])).symm⟩
  | [], q :: qs, _, _, _ => by
    refine ⟨fun _ l m => ?_, ?_⟩
    · simp only [TKs, dats, keyToksAll, List.cons_append, List.nil_append]
      exact (lex_atom (by simp) _ _).trans (lex_atom (by simp) _ _).symm
    · simp only [TKs, dats, ltDs, keyToksAll]
      rw [lx, lex_diff (O := itemOrd) (by simp)]
      simp [itemLt]
  | p :: ps, [], _, _, _ => by
    refine ⟨fun _ l m => ?_, ?_⟩
    · simp only [TKs, dats, keyToksAll, List.cons_append, List.nil_append]
      exact (lex_atom (by simp) _ _).trans (lex_atom (by simp) _ _).symm
    · simp only [TKs, dats, ltDs, keyToksAll]
      rw [lx, lex_diff (O := itemOrd) (by simp)]
      simp [itemLt]
  | p :: ps, q :: qs, hp, hq, hc => by
    rw [pls, Bool.and_eq_true] at hp hq
    rw [dats, dats, cmpDs, eqv_eqP hp.1 hq.1] at hc
    have e1 : TKs (p :: ps) = Sum.inl 1 :: (TK p ++ TKs ps) := by simp only [TKs, TK, dats, keyToksAll]
    have e2 : TKs (q :: qs) = Sum.inl 1 :: (TK q ++ TKs qs) := by simp only [TKs, TK, dats, keyToksAll]
    rw [e1, e2]
    have e3 : ltDs (dats (p :: ps)) (dats (q :: qs)) = if eqP p q = true then ltDs (dats ps) (dats qs) else ltD (dat p) (dat q) := by rw [dats, dats, ltDs, eqv_eqP hp.1 hq.1]
    rw [e3, lx_cons]
    by_cases h : eqP p q = true
    · rw [if_pos h] at hc ⊢
      have epq := eqP_iff.mp h
      subst epq
      obtain ⟨h1, h2⟩ := tks_cmp ps qs hp.2 hq.2 hc
      refine ⟨fun ne l m => ?_, by rw [h2]; exact (lex_pre _ _ _).symm⟩
      rw [List.cons_append, List.cons_append, lx_cons, List.append_assoc, List.append_assoc]
      exact (lex_pre _ _ _).trans ((h1 (fun e => ne (by rw [e])) l m).trans (lex_pre _ _ _).symm)
    · rw [if_neg h] at hc ⊢
      have ne : p ≠ q := fun e => h (eqP_iff.mpr e)
      obtain ⟨h1, h2⟩ := tk_cmp p q hp.1 hq.1 hc
      refine ⟨fun _ l m => ?_, by rw [h2]; exact (h1 ne _ _).symm⟩
      rw [List.cons_append, List.cons_append, lx_cons, List.append_assoc, List.append_assoc]
      exact (h1 ne _ _).trans (h1 ne _ _).symm
end
/-! ### values that read as such keys can be sorted -/
variable {prog : Program} {w : World} {A : Around} {s : Shared}
theorem kind_of {h : Heap} {ds : List PyData} (hc : ∀ d ∈ ds, d.canLay0 = true) {v : Value} {d : PyData} {as : List Addr} (hd : d ∈ ds) (r : Reads h v d as) : (dataKind h ds).keyOf v = some (keyToks d) := by
  have q : ∃ d, d ∈ ds ∧ ∃ as, Reads h v d as := ⟨d, hd, as, r⟩
  have e : (dataKind h ds).keyOf v = some (keyToks q.choose) := by
    show (open Classical in if q : ∃ d, d ∈ ds ∧ ∃ as, Reads h v d as then some (keyToks q.choose) else none) = _
    rw [dif_pos q]
  obtain ⟨h1, as', h2⟩ := q.choose_spec
  rw [e, SeqAt.Reads.unique _ _ _ _ _ (hc _ h1) h2 r]
theorem lex_walk {b : Bool} {Q : Bool → Shared → Prop} : ∀ (xs ys : List PyData) (i : Nat) (vs ws : List Value) (as bs : List Addr), ReadsAll s.heap vs xs as → ReadsAll s.heap ws ys bs → PyData.canLayAll0 xs = true → PyData.canLayAll0 ys = true → cmpDs xs ys = true →
    A.units + min (PyData.depthAll xs) (PyData.depthAll ys) < cLine → (b = true → i = 0 → ∀ x y r t, xs = x :: r → ys = y :: t → ∃ n m, x = .int n ∧ y = .int m) → Q (ltDs xs ys) s → KatLex prog w A b (decide (xs.length < ys.length)) Q (vs.zip ws) i s
  | [], ys, i, vs, ws, _, _, ra, rb, _, _, _, _, _, hq => by
    cases ra
    rw [List.zip_nil_left]
    refine kat_nil ?_
    cases ys <;> (rw [ltDs] at hq <;> first | exact hq | (intros; contradiction))
  | x :: xs, [], i, _, _, _, _, ra, rb, _, _, _, _, _, hq => by
    cases rb
    rw [List.zip_nil_right]
    refine kat_nil ?_
    rw [ltDs] at hq
    · exact hq
    · intros; contradiction
  | x :: xs, y :: ys, i, _, _, _, _, ra, rb, ca, cb, hc, hu, hb, hq => by
    have ca' : x.canLay0 = true ∧ PyData.canLayAll0 xs = true := by rw [PyData.canLayAll0, Bool.and_eq_true] at ca; exact ca
    have cb' : y.canLay0 = true ∧ PyData.canLayAll0 ys = true := by rw [PyData.canLayAll0, Bool.and_eq_true] at cb; exact cb
    rw [PyData.depthAll, PyData.depthAll] at hu
    cases ra with
    | cons r rs =>
      cases rb with
      | cons r' rs' =>
        rw [List.zip_cons_cons]
        refine kat_cons (SeqAt.eqAt_reads x y A s _ _ _ _ r r' ca'.1 cb'.1 (by omega) prog w _ _ ?_)
        have el : decide ((x :: xs).length < (y :: ys).length) = decide (xs.length < ys.length) := by simp
        rw [el]
        rw [cmpDs] at hc
        rw [ltDs] at hq
        cases hx : PyData.eqv x y with
        | true =>
          rw [hx, if_pos rfl] at hc hq
          exact kat_yes (lex_walk xs ys (i + 1) _ _ _ _ rs rs' ca'.2 cb'.2 hc (by omega) (fun _ hi => absurd hi (Nat.succ_ne_zero i)) hq)
        | false =>
          rw [hx, if_neg Bool.false_ne_true] at hc hq
          refine kat_no ?_
          by_cases hbi : (b && i == 0) = true
          · rw [hbi]
            rw [Bool.and_eq_true] at hbi
            obtain ⟨n, m, rfl, rfl⟩ := hb hbi.1 (by simpa using hbi.2) x y xs ys rfl rfl
            refine oneLt_alike (fun _ t e => by cases e) r r' rfl (fun e => by cases e) (by omega) ?_
            rw [ltD] at hq
            rw [dataLt_int]; exact hq
          · have hbf : (b && i == 0) = false := by simpa using hbi
            rw [hbf]
            exact kat_one _ _ (lt_rc _ x y A s _ _ _ _ (Nat.le_refl _) r r' ca'.1 cb'.1 hc (by omega) prog w _ _ (show W.BoolBack Q (.bool (ltD x y)) s from hq))
theorem sorts_own {vs : List Value} {ds : List PyData} (e : EachIs (fun v d => ∃ as, Reads s.heap v d as) vs ds) (hc : ∀ d ∈ ds, d.canLay0 = true) (ht : ∀ d ∈ ds, ∃ n r, d = .tuple (.int n :: r)) (hcmp : ∀ d ∈ ds, ∀ d' ∈ ds, cmpD d d' = true)
    (hlt : ∀ d ∈ ds, ∀ d' ∈ ds, ltD d d' = lx (keyToks d) (keyToks d')) (hu : ∀ d ∈ ds, A.units + d.depth < cLine) : SortsAt prog w A s (dataKind s.heap ds) vs := by
  refine ⟨fun v hv => ?_, ?_⟩
  · obtain ⟨d, hd, as, r⟩ := e.left v hv
    exact ⟨_, kind_of hc hd r⟩
  · refine ⟨tuples' (Value.type "int" != Value.type "tuple"), ?_, fun h2 E Q hq => ?_⟩
    · intro E x y a b Q ha hb hq
      obtain ⟨d, as, hd, ra, rfl⟩ := dataKind_inv ha
      obtain ⟨d', as', hd', rb, rfl⟩ := dataKind_inv hb
      have h1 := hcmp d hd d' hd'
      have h2 := hlt d hd d' hd'
      have h3 := hu d hd
      have c1 := hc d hd
      have c2 := hc d' hd'
      obtain ⟨n, r, rfl⟩ := ht d hd
      obtain ⟨n', r', rfl⟩ := ht d' hd'
      have hq' : Q (lx (keyToks (.tuple (.int n :: r))) (keyToks (.tuple (.int n' :: r')))) s := hq
      rw [← h2, ltD] at hq'
      rw [cmpD] at h1
      rw [PyData.depth] at h3
      cases ra with
      | @tuple l o xs k _ _ g1 g2 g3 g4 =>
        cases rb with
        | @tuple l' o' xs' k' _ _ f1 f2 f3 f4 =>
          have n1 : xs.size = (PyData.int n :: r).length := by simpa using SeqAt.ReadsAll.length _ _ _ g4
          have n2 : xs'.size = (PyData.int n' :: r').length := by simpa using SeqAt.ReadsAll.length _ _ _ f4
          refine kat_lt g1 g3 f1 f3 ?_
          rw [n1, n2]
          exact lex_walk _ _ 0 _ _ _ _ g4 f4 c1 c2 h1 (by omega) (fun _ _ x y t u e1 e2 => by cases e1; cases e2; exact ⟨_, _, rfl, rfl⟩) hq'
    · obtain ⟨fs, t1, t2, t3⟩ := each_katTups e fun d hd => by obtain ⟨n, r, e⟩ := ht d hd; exact ⟨_, _, e⟩
      refine kat_kind (T := .type "int") t1 (by omega) (fun f hf => ?_) (beq_self_eq_true _) hq
      obtain ⟨x, r, as, m1, m2⟩ := t3 f hf
      obtain ⟨n, r', e'⟩ := ht _ m1
      cases e'
      exact looks_reads m2
end
end PL
set_option autoImplicit false
namespace PL
open PySem PySem.Spec L2
open PyProof.Rows hiding St

/-! ## sorted(xs, key=f), f a def of the program that changes nothing -/
section
variable {X : Cx} {pins : List (Addr × Obj)} {σ : St} {H : Hp} {s : Shared} {h' : Heap}
/-- records of ours have turned, one of them is looked at from now on -/
theorem inv_adopt {t' : Nat} {ch : List Addr} {T : Addr} {ob : HO} (I : Inv X pins σ H s) (k : ∀ b o, b ∉ ch → s.heap.get? b = some o → h'.get? b = some o) (hf : ∀ b ∈ ch, FpOk X pins H b) (hT : T ∈ ch)
    (new : ObjOk X.prog X.w (upd H T ob) h' T ob) : Inv X pins σ (upd H T ob) { s with heap := h', toks := t' } := by
  have hn : H T = none := (hf T hT).1
  have apart : ∀ b u, H b = some u → b ∉ ch := fun b u e z => by
    rw [(hf b z).1] at e; cases e
  refine I.step (g' := s.gens) (d' := s.drawn) (ch := ch) (fun b hb => ⟨(hf b hb).2.2.2.1, (hf b hb).2.1, (hf b hb).2.2.2.2.1, (hf b hb).2.2.2.2.2⟩) (fun b o _ _ hc e _ => k b o hc e) (fun b o _ _ hc e _ => ⟨o.slots, k b o hc e⟩)
    (fun b o hc e n => ?_) (fun b o hc e => ⟨o, k b o hc e⟩) (fun b xs e => ?_) (fun b o u e => ?_) (fun b ps e => ⟨#[], ?_⟩) (fun m hm => ?_) (fun b u e => ?_) I.bare
  · rw [upd_ne (fun z => hc (by rw [z]; exact hT))]; exact n
  · rw [upd_ne (ne_of_none e hn)]; exact e
  · rw [upd_ne (ne_of_none e hn)]; exact e
  · rw [upd_ne (ne_of_none e hn), e]; simp
  · obtain ⟨o, es, ep, ho, r⟩ := hm
    exact ⟨o, es, ep, k _ o (fun z => (hf _ z).2.1 rfl) ho, r⟩
  · by_cases hb : b = T
    · subst hb
      rw [upd_same] at e
      cases e
      exact new
    · rw [upd_ne hb] at e
      refine (I.hok b u e).stay (fun c v hc q => k c v ?_ q) (fun c q => by rw [upd_ne (ne_of_none q hn)]; exact q) fun c xs q => by rw [upd_ne (ne_of_none q hn)]; exact q
      rcases hc with z | z
      · rw [z]; exact apart b u e
      · exact apart c _ z
/-- what a key's call gives -/
def KeyGot (X : Cx) (pins : List (Addr × Obj)) (σ : St) (M : PH) (H : Hp) (h : Heap) (key : PV) (r : Value) (s' : Shared) : Prop :=
  ∃ H2 v', Inv X pins σ H2 s' ∧ Un (frs X.stack) [] H H2 h s'.heap ∧ RelV v' r ∧ Step M H M H2 ∧ RepH X.K H2 M ∧ Rep X.K H2 key v'
theorem key_call {k : Nat} {f : Addr} {fd : FuncData} {y : Str} {p : PSp} {M : PH} {x key : PV} {v : V} {u : Value} (F : FnG X.prog X.w X.K X.mg X.base k f fd [y] p) (hr : Room k X.A.in1.in1) (hgd : X.A.guards = some []) (hb : Binds X.K fd [y] [])
    (I : Inv X pins σ H s) (rh : RepH X.K H M) (rx : Rep X.K H x v) (ru : RelV v u) (hp : p [x] M (fun r M' => r = key ∧ M' = M) (fun _ _ _ => False)) :
    wpAny (model X.prog X.w) X.A.in1.in1 (call (.ref f) [u]) (KeyGot X pins σ M H s.heap key) (fun _ _ => False) s := by
  have r1 : Vals [v] [u] := .cons ru .nil
  have rp : Reps X.K H [x] [v] := by rw [Reps]; exact ⟨v, [], rfl, rx, .nil⟩
  have sp : spOf X.K [y].length p [v] H (fun v' H2 => Step M H M H2 ∧ RepH X.K H2 M ∧ Rep X.K H2 key v') (fun _ _ _ => False) :=
    ⟨[x], M, rfl, rp, rh, F.mono _ _ _ _ _ _ (fun r M' ⟨e1, e2⟩ v' H' S rh' r' => by subst e1; subst e2; exact ⟨S, rh', r'⟩) (fun _ _ _ z => z.elim) hp⟩
  refine wpAny_call (codeAny_mono (F.run X.A.in1.in1 X.stack s H ⟨[u], []⟩ [u] [v] _ _ hr hgd I.env0.in1.in1 (hb s [u] I.kIn rfl) r1 sp) fun res s' hq => ?_)
  match res, hq with
  | .error e, hq =>
    obtain ⟨a, B, H', cls, d, _, _, _, _, _, _, _, hE⟩ := hq
    exact hE.elim
  | .ok (.ret r), hq =>
    obtain ⟨v', H', os, bare, un, hok, rv, S, rh', r'⟩ := hq
    exact ⟨H', v', I.call' (ch := []) os un hok bare (fun b z => absurd z (by simp)), un, rv, S, rh', r'⟩
  | .ok .next, hq => exact hq.elim
  | .ok .brk, hq => exact hq.elim
  | .ok .cont, hq => exact hq.elim
/-- the values of keys, as they read -/
theorem each_reads {K : Fg} : ∀ {ks : List PV} {kvs : List V} {kus : List Value}, K = X.K → Inv X pins σ H s → purs ks = true → Reps K H ks kvs → Vals kvs kus → PySem.W.EachIs (fun v d => ∃ as, Reads s.heap v d as) kus (dats ks)
  | [], _, _, _, I, _, r, h => by
    rw [Reps] at r; subst r
    cases h
    rw [dats]; exact .nil
  | k :: ks, _, _, hK, I, hp, r, h => by
    rw [Reps] at r
    obtain ⟨v, t, rfl, h1, h2⟩ := r
    rw [purs, Bool.and_eq_true] at hp
    cases h with
    | cons a b =>
      rw [dats]
      refine .cons ?_ (each_reads hK I hp.2 h2 b)
      subst hK
      exact Dp.reads I _ _ _ (dp_of hp.1 h1) a
def sortK (xs ks : List PV) : List PV := ((xs.zip ks).mergeSort (PySem.W.dataLe false fun p : PV × PV => dat p.2)).map (·.1)
theorem each_out {K : Fg} {Hj : Hp} : ∀ {us : List Value} {bs : List ((PV × PV) × V)}, PySem.W.EachIs (fun u b => RelV b.2 u ∧ Rep K Hj b.1.1 b.2) us bs → Vals (bs.map (·.2)) us ∧ Reps K Hj (bs.map (·.1.1)) (bs.map (·.2))
  | _, _, .nil => ⟨.nil, by rw [List.map_nil, Reps]; rfl⟩
  | _, _, .cons h t => by
    obtain ⟨h1, h2⟩ := each_out t
    refine ⟨.cons h.1 h1, ?_⟩
    rw [List.map_cons, List.map_cons, Reps]
    exact ⟨_, _, rfl, h.2, h2⟩
theorem each_in {K : Fg} {Hj : Hp} : ∀ {xs ks : List PV} {vs : List V} {us : List Value}, Reps K Hj xs vs → Vals vs us → ks.length = xs.length → PySem.W.EachIs (fun u (b : (PV × PV) × V) => RelV b.2 u ∧ Rep K Hj b.1.1 b.2) us ((xs.zip ks).zip vs)
  | [], ks, vs, us, r, h, _ => by
    rw [Reps] at r; subst r
    cases h
    exact .nil
  | x :: xs, [], vs, us, _, _, e => by simp at e
  | x :: xs, k :: ks, vs, us, r, h, e => by
    rw [Reps] at r
    obtain ⟨v, t, rfl, h1, h2⟩ := r
    cases h with
    | cons a b => exact .cons ⟨a, h1⟩ (each_in h2 b (by simpa using e))
theorem zip_snd {α β γ : Type} : ∀ {xs : List α} {ks : List β} {vs : List γ}, ks.length = xs.length → vs.length = xs.length → ((xs.zip ks).zip vs).map (fun b => b.1.2) = ks ∧ ((xs.zip ks).zip vs).map (·.1) = xs.zip ks
  | [], [], [], _, _ => ⟨rfl, rfl⟩
  | x :: xs, k :: ks, v :: vs, h1, h2 => by
    obtain ⟨a, b⟩ := zip_snd (xs := xs) (ks := ks) (vs := vs) (by simpa using h1) (by simpa using h2)
    constructor
    · simp only [List.zip_cons_cons, List.map_cons, a]
    · simp only [List.zip_cons_cons, List.map_cons, b]
  | [], _ :: _, _, h, _ => by simp at h
  | [], [], _ :: _, _, h => by simp at h
  | _ :: _, [], _, h, _ => by simp at h
  | _ :: _, _ :: _, [], _, h => by simp at h
/-- the keys can be sorted -/
structure Keys (ks : List PV) : Prop where
  pl : ∀ k ∈ ks, PL.pl k = true
  tup : ∀ k ∈ ks, ∃ (n : Int) (r : List PV), k = .tup (.int n :: r)
  cmp : ∀ k ∈ ks, ∀ l ∈ ks, cmpD (dat k) (dat l) = true
  dep : ∀ k ∈ ks, dpt k ≤ 60
open PySem.W in
theorem key_rest {P : PySem.Fin → Shared → Prop} {E : Value → Shared → Prop} {k : Nat} {f : Addr} {fd : FuncData} {y : Str} {p : PSp} {M : PH} {xs ks : List PV} {vs : List V} {its : List Value} {a kS : Addr} {e1 : Nat}
    (F : FnG X.prog X.w X.K X.mg X.base k f fd [y] p) (hr : Room k X.A.in1.in1) (hgd : X.A.guards = some []) (hb : Binds X.K fd [y] []) (hu : X.A.in1.in1.units + 64 < cLine)
    (I : Inv X pins σ H s) (rh : RepH X.K H M) (rx : Reps X.K H xs vs) (ru : Vals vs its) (hl : ks.length = xs.length) (hZ : its.length ≤ sizeLine) (hk : Keys ks)
    (hp : ∀ (i : Nat) (x key : PV), xs[i]? = some x → ks[i]? = some key → p [x] M (fun r M' => r = key ∧ M' = M) (fun _ _ _ => False))
    (fk : FpOk X pins H kS) (fa : FpOk X pins H a) (ne : kS ≠ a) (gk : s.heap.get? kS = some (seqObj "list" #[] 0)) (ga : s.heap.get? a = some (seqObj "list" #[] e1))
    (h : ∀ (s3 : Shared) (Hj : Hp) (ws : List V), Inv X pins σ (upd Hj a (.lst ws)) s3 → Step M H M Hj → RepH X.K Hj M → Hj a = none → Reps X.K Hj (sortK xs ks) ws → P (.done (.ret .none)) s3) :
    wpAny (model X.prog X.w) X.A.in1.in1 (ksk_rest a (.ref f) false its.toArray e1 (.ref kS)) P E s := by
  have lvx := rx.length
  have lvu := ru.length
  unfold ksk_rest
  refine wpAny_bind (wpAny_rule ?_)
  first
    | rw [List.forIn_toArray]
    | (rw [← Array.forIn_toList]; simp only [List.toList_toArray])
    | rw [← Array.forIn_toList]
  refine wpAny_bind (ksk_fold (fun j s' => ∃ Hj kA e kvs, Inv X pins σ Hj s' ∧ Step M H M Hj ∧ RepH X.K Hj M ∧ s'.heap.get? kS = some (seqObj "list" kA e) ∧ FpOk X pins Hj kS ∧ s'.heap.get? a = some (seqObj "list" #[] e1) ∧ FpOk X pins Hj a ∧
      Reps X.K Hj (ks.take j) kvs ∧ Vals kvs kA.toList) its 0 s ⟨H, #[], 0, [], I, .refl _ _, rh, gk, fk, ga, fa, by rw [List.take_zero, Reps], .nil⟩ ?step ?done)
  case step =>
    rintro j u s' hx ⟨Hj, kA, e, kvs, Ij, Sj, rhj, gkj, fkj, gaj, faj, rk, rv⟩
    simp only [Nat.zero_add] at rk ⊢
    have hj : j < its.length := (List.getElem?_eq_some_iff.mp hx).1
    obtain ⟨x, hxx⟩ : ∃ x, xs[j]? = some x := ⟨_, List.getElem?_eq_getElem (by omega)⟩
    obtain ⟨key, hkk⟩ : ∃ k, ks[j]? = some k := ⟨_, List.getElem?_eq_getElem (by omega)⟩
    obtain ⟨v, hv, rxv⟩ := rx.get hxx
    obtain ⟨u', hu', ruv⟩ := ru.get hv
    rw [hx] at hu'; cases hu'
    have hz : kA.size ≤ its.length := by
      have h1 := rv.length
      have h2 := rk.length
      have h3 : kA.toList.length = kA.size := Array.length_toList
      rw [List.length_take] at h2
      omega
    refine wpAny_bind (wpAny_attempt (wpAny_mono (key_call F hr hgd hb Ij rhj (rxv.tk (Sj.tk rh)) ruv (hp j x key hxx hkk)) (fun r s2 he => ?_) fun _ _ hF => hF.elim))
    obtain ⟨H2, v', I2, un, rv', S2, rh2, rk'⟩ := he
    try dsimp only
    have nf : ∀ b, FpOk X pins Hj b → b ∉ frs X.stack := fun b fb z => (List.mem_cons.mp (I.stkSub b z)).elim fb.2.1 fb.2.2.1
    have gk2 := un.keep kS _ gkj fkj.1 (nf _ fkj) (by simp)
    have ga2 := un.keep a _ gaj faj.1 (nf _ faj) (by simp)
    have fk2 : FpOk X pins H2 kS := ⟨un.free kS _ gkj fkj.1 (by simp), fkj.2⟩
    have fa2 : FpOk X pins H2 a := ⟨un.free a _ gaj faj.1 (by simp), faj.2⟩
    obtain ⟨h2, g2, d2, t2, o2⟩ := s2
    have s1 := Heap.SameBut.update h2 kS (Obj.mapSeq (·.push r))
    obtain ⟨c2, hc2⟩ : ∃ c2, (h2.update kS (Obj.mapSeq (·.push r))).get? kS = some (seqObj "list" (kA.push r) c2) := ⟨_, get?_update_seq gk2 (·.push r)⟩
    have ek : ks.take (j + 1) = ks.take j ++ [key] := by rw [List.take_add_one, hkk]; rfl
    have ea : (kA.push r).toList = kA.toList ++ [r] := by simp
    refine wpAny_bind (listUpdate_at gk2 rfl ?_ (Nat.le_trans hz hZ) (Nat.le_trans (Nat.le_of_eq (Array.size_push ..)) (Nat.succ_le_succ (Nat.le_trans hz hZ))))
    refine wpAny_pure ⟨rfl, H2, kA.push r, c2, kvs ++ [v'], ?_, Sj.trans S2, rh2, hc2, fk2, (s1.2 a ne.symm).trans ga2, fa2, ?_, ?_⟩
    · exact I2.turnedL (t' := t2) (ch := [kS]) (fun b o hb q => (s1.2 b (by simpa using hb)).trans q) (fun b hb => by rw [List.mem_singleton] at hb; subst hb; exact fk2)
    · rw [ek]
      refine (rk.tk (S2.tk rhj)).append ?_
      rw [Reps]
      exact ⟨v', [], rfl, rk', .nil⟩
    · rw [ea]
      exact rv.append (.cons rv' .nil)
  case done =>
    rintro s' ⟨Hj, kA, e, kvs, Ij, Sj, rhj, gkj, fkj, gaj, faj, rk, rv⟩
    have e3 : ks.take (0 + its.length) = ks := List.take_of_length_le (by omega)
    rw [e3] at rk
    have hks : kA.size = its.length := by
      have h1 := rv.length
      have h2 := rk.length
      have h3 : kA.toList.length = kA.size := Array.length_toList
      omega
    have hpu : purs ks = true := purs_all fun x hx => pl_pur x (hk.pl x hx)
    have er := each_reads rfl Ij hpu rk rv
    have hcl : ∀ d ∈ dats ks, d.canLay0 = true := fun d hd => by
      rw [dats_map] at hd
      obtain ⟨x, hx, rfl⟩ := List.mem_map.mp hd
      exact pl_lay x (hk.pl x hx)
    have S : SortsAt X.prog X.w X.A.in1.in1 s' (dataKind s'.heap (dats ks)) kA.toList := by
      refine sorts_own er hcl (fun d hd => ?_) (fun d hd d' hd' => ?_) (fun d hd d' hd' => ?_) (fun d hd => ?_)
      all_goals rw [dats_map] at hd
      all_goals obtain ⟨x, hx, rfl⟩ := List.mem_map.mp hd
      · obtain ⟨n, r, rfl⟩ := hk.tup x hx
        exact ⟨n, dats r, by rw [dat, dats, dat]⟩
      · rw [dats_map] at hd'
        obtain ⟨x', hx', rfl⟩ := List.mem_map.mp hd'
        exact hk.cmp x hx x' hx'
      · rw [dats_map] at hd'
        obtain ⟨x', hx', rfl⟩ := List.mem_map.mp hd'
        exact (tk_cmp x x' (hk.pl x hx) (hk.pl x' hx') (hk.cmp x hx x' hx')).2
      · have := hk.dep x hx
        rw [dpt_eq]; omega
    try dsimp only
    refine wpAny_bind (listItems_at gkj rfl ?_)
    obtain ⟨G, G1, G2⟩ := restrict s'.heap fun b => decide (b ≠ kS)
    have kp : KeepsBut a G s'.heap := fun b o hb q => by
      by_cases hbk : b = kS
      · rw [G2 b (by simpa using hbk)] at q; cases q
      · rw [G1 b (by simpa using hbk)] at q; exact q
    refine keyH_end (κ := dataKind s'.heap (dats ks)) (h₁ := G) kp (G2 kS (by simp)) gkj gaj ne S hks hZ fun h3 tk3 c k3 n3 => ?_
    -- what is sorted
    have rx' := rx.tk (Sj.tk rh)
    obtain ⟨z1, z2⟩ := zip_snd (xs := xs) (ks := ks) (vs := vs) hl (by omega)
    have ekeys : EachIs (fun v (b : (PV × PV) × V) => (dataKind s'.heap (dats ks)).keyOf v = some (keyToks (dat b.1.2))) kA.toList ((xs.zip ks).zip vs) := by
      have h0 : EachIs (fun v d => (dataKind s'.heap (dats ks)).keyOf v = some (keyToks d)) kA.toList (dats ks) := (each_mem er).mono fun _ _ ⟨⟨_, r⟩, hd⟩ => kind_of hcl hd r
      have e4 : dats ks = ((xs.zip ks).zip vs).map (fun b => dat b.1.2) := by
        rw [dats_map]
        conv => lhs; rw [← z1]
        rw [List.map_map]; rfl
      have h1 : EachIs (fun v d => (dataKind s'.heap (dats ks)).keyOf v = some (keyToks d)) kA.toList (((xs.zip ks).zip vs).map (fun b => dat b.1.2)) := by rw [← e4]; exact h0
      exact each_of_map (fun b : (PV × PV) × V => dat b.1.2) h1
    have out := sortVals_each (κ := dataKind s'.heap (dats ks)) (rev := false) (fun b : (PV × PV) × V => keyToks (dat b.1.2)) (each_in rx' ru hl) ekeys
    obtain ⟨o1, o2⟩ := each_out out
    have e5 : (((xs.zip ks).zip vs).mergeSort (sortLe (dataKind s'.heap (dats ks)).toKeyOrd false fun b : (PV × PV) × V => keyToks (dat b.1.2))).map (fun b => b.1.1) = sortK xs ks := by
      unfold sortK
      have := List.map_mergeSort (r := sortLe (dataKind s'.heap (dats ks)).toKeyOrd false fun b : (PV × PV) × V => keyToks (dat b.1.2)) (s := dataLe false fun p : PV × PV => dat p.2) (f := fun b : (PV × PV) × V => b.1) (l := (xs.zip ks).zip vs) (fun _ _ _ _ => rfl)
      rw [z2] at this
      rw [← this, List.map_map]; rfl
    rw [e5] at o2
    obtain ⟨hh, g, d, t, os⟩ := s'
    refine h _ Hj _ (inv_adopt (t' := tk3) (T := a) (ch := [a, kS]) Ij (fun b o hb q => ?_) (fun b hb => ?_) (by simp) ?_) Sj rhj faj.1 o2
    · simp only [List.mem_cons, List.not_mem_nil, or_false, not_or] at hb
      exact k3 b o hb.1 (by rw [G1 b (by simpa using hb.2)]; exact q)
    · simp only [List.mem_cons, List.not_mem_nil, or_false] at hb
      rcases hb with rfl | rfl
      · exact faj
      · exact fkj
    · have hlen := o1.length
      have hol := sortVals_length (κ := dataKind hh (dats ks)) (ks := kA.toList) (vs := its) false (by rw [Array.length_toList]; exact hks)
      have hl2 := hlen.trans hol
      exact ⟨by omega, _, c, o1, n3⟩
end
end PL
set_option autoImplicit false
namespace PL
open PySem PySem.Spec L2
open PyProof.Rows hiding St

section
open PySem.W
variable {prog : Program} {w : World} {A : Around} {E : Value → Shared → Prop} {s : Shared}
theorem collect_seq {l : Addr} {o : Obj} {vs : List Value} {n : Nat} {T : String} {Q : List Value → Shared → Prop} (ho : s.heap.get? l = some o) (hc : o.cls = .type T) (hT : T = "list" ∨ T = "tuple") (hd : o.data = .seq vs.toArray n)
    (h : Q vs { s with heap := (s.heap.push (seqObj "list" #[] 0)).update s.heap.objs.size (Obj.mapSeq (· ++ vs.toArray)) }) (hz : vs.length ≤ sizeLine) :
    wpAny (model prog w) A (collect (.ref l)) Q E s := by
  unfold collect
  refine wpAny_bind (wpAny_runValue (codeAny_builtin entry_proto_collect' ?_))
  show wpAny _ _ (do again (.builtin "list.__iadd__" ⟨[← newList [], .ref l], []⟩)) _ _ s
  refine wpAny_bind (wpAny_newList (wpAny_pure ⟨Code.quiet_builtin _ (by decide +kernel), codeAny_builtin entry_list_iadd' ?_⟩))
  show wpAny _ _ (Builtin.List.listExtendWith (.ref s.heap.objs.size) (.ref l) (.ref s.heap.objs.size)) _ _ { s with heap := s.heap.push (seqObj "list" #[] 0) }
  unfold Builtin.List.listExtendWith
  have ho' : (s.heap.push (seqObj "list" #[] 0)).get? l = some o := Heap.get?_push_of_some _ ho
  refine wpAny_bind (wpAny_typeOf (T := T) ⟨o, ho', hc⟩ ?_)
  rw [if_pos (by rcases hT with rfl | rfl <;> simp)]
  refine wpAny_bind (listItems_at ho' hd ?_)
  refine wpAny_bind (listItems_at (xs := #[]) (n := 0) (Heap.get?_push_size _ rfl) rfl ?_)
  rw [if_neg (by simp)]
  refine wpAny_bind (listUpdate_at (xs := #[]) (n := 0) (Heap.get?_push_size _ rfl) rfl ?_ (Nat.zero_le _) (by show (#[] ++ vs.toArray).size ≤ sizeLine + 1; simp only [Array.size_append, List.size_toArray, List.length_nil]; omega))
  refine wpAny_pure ?_
  show wpAny (model prog w) A (do
      let o ← load s.heap.objs.size
      match o.data with
      | .seq xs _ => pure xs.toList
      | _ => unsupported "internal:collect") Q E { s with heap := (s.heap.push (seqObj "list" #[] 0)).update s.heap.objs.size (Obj.mapSeq (· ++ vs.toArray)) }
  refine wpAny_bind (wpAny_load (get?_update_seq (Heap.get?_push_size _ rfl) _) ?_)
  show wpAny _ _ (pure ((#[] : Array Value) ++ vs.toArray).toList) Q E _
  rw [show ((#[] : Array Value) ++ vs.toArray).toList = vs by simp]
  exact wpAny_pure h
theorem sorted_seq {l : Addr} {o : Obj} {vs : List Value} {n : Nat} {T : String} {kw : List (Str × Value)} {Q : Value → Shared → Prop} (ho : s.heap.get? l = some o) (hc : o.cls = .type T) (hT : T = "list" ∨ T = "tuple") (hd : o.data = .seq vs.toArray n) (hL : vs.length ≤ sizeLine)
    (ha1 : argsOk "sorted" ⟨[.ref l], kw⟩) (ha2 : ∀ x, argsOk "list.sort" ⟨[.ref x], kw⟩)
    (body : ∀ E' : Value → Shared → Prop, wpAny (model prog w) A.in1.in1 (Builtin.«list.sort» ⟨[.ref (s.heap.objs.size + 1)], kw⟩) (fun f s' => f = .done (.ret .none) ∧ Q (.ref (s.heap.objs.size + 1)) s') E' { s with heap := copyHeap s.heap vs }) :
    wpAny (model prog w) A (call (.builtin "sorted") [.ref l] kw) Q E s := by
  refine call_function_entry_kw kind_sorted plain_sorted entry_sorted ha1 ?_
  unfold Builtin.«sorted»
  refine wpAny_bind (m := checkCount "sorted" 1 1 _) (wpAny_pure ?_)
  refine wpAny_bind (collect_seq ho hc hT hd ?_ hL)
  refine wpAny_bind (wpAny_newList ?_ hL)
  have hsz : ((s.heap.push (seqObj "list" #[] 0)).update s.heap.objs.size (Obj.mapSeq (· ++ vs.toArray))).objs.size = s.heap.objs.size + 1 := by
    rw [Heap.size_update, size_push']
  show wpAny _ _ _ _ _ { s with heap := copyHeap s.heap vs }
  rw [hsz]
  refine wpAny_bind (wpAny_holding (wpAny_call_entry_kw slot_list_sort ⟨_, copyHeap_at s.heap vs, rfl⟩ entry_list_sort ?body (ha2 _)))
  case body =>
    show wpAny (model prog w) A.in1.in1 (Builtin.«list.sort» ⟨[.ref (s.heap.objs.size + 1)], kw⟩) _ _ _
    refine wpAny_mono (body _) (fun f s' hf => ?_) fun _ _ e => e
    obtain ⟨rfl, hq⟩ := hf
    exact ⟨_, rfl, wpAny_pure ⟨_, rfl, hq⟩⟩
end
theorem room2 {k : Nat} {A : Around} (r : Room (k + 1) A) : Room k A.in1.in1 :=
  ⟨r.hd, by have := r.dp; show A.depth + 3 * k + 5 < _; omega, by have := r.un; show A.units + 1 + 1 + 16 * k + 200 < _; omega⟩
section
variable {X : Cx} {pins : List (Addr × Obj)} {σ : St} {H : Hp} {s : Shared} {h' : Heap}
open PySem.W in
theorem key_sorted {k : Nat} {f l : Addr} {fd : FuncData} {y : Str} {p : PSp} {M : PH} {xs ks : List PV} {vs : List V} {Q : VK}
    (F : FnG X.prog X.w X.K X.mg X.base k f fd [y] p) (hr : Room (k + 1) X.A) (hgd : X.A.guards = some []) (hb : Binds X.K fd [y] [])
    (I : Inv X pins σ H s) (rh : RepH X.K H M) (rx : Reps X.K H xs vs) (hs : SqL X.K H l vs ∨ SqT X.K H l vs) (hl : ks.length = xs.length) (hk : Keys ks)
    (hp : ∀ (i : Nat) (x key : PV), xs[i]? = some x → ks[i]? = some key → p [x] M (fun r M' => r = key ∧ M' = M) (fun _ _ _ => False))
    (h : DnL X.K M H Q (sortK xs ks) M) : wpAny (model X.prog X.w) X.A (call (.builtin "sorted") [.ref l] [(Str.ofString "key", .ref f)]) (EP X pins σ Q) X.xe s := by
  obtain ⟨its, ru, o, n, T, ho, hc, hT, hd, hz⟩ : ∃ (its : List Value) (_ : Vals vs its) (o : Obj) (n : Nat) (T : String), s.heap.get? l = some o ∧ o.cls = .type T ∧ (T = "list" ∨ T = "tuple") ∧ o.data = .seq its.toArray n ∧ vs.length ≤ sizeLine := by
    rcases hs with hs | hs
    · obtain ⟨its, r, ⟨o, n, ho, hc, _, hd⟩, hz⟩ := I.list hs
      exact ⟨its, r, o, n, "list", ho, hc, .inl rfl, hd, hz⟩
    · obtain ⟨its, r, ⟨o, ho, hc, n, hd⟩, hz⟩ := I.tuple hs
      exact ⟨its, r, o, n, "tuple", ho, hc, .inr rfl, hd, hz⟩
  have lvx := rx.length
  have lvu := ru.length
  have hZ : its.length ≤ sizeLine := by omega
  refine sorted_seq ho hc hT hd hZ (PyProof.Rows.ksk_s1 _ _) (fun _ => PyProof.Rows.ksk_l1 _ _) fun E' => ?_
  rw [PyProof.Rows.ksk_t1]
  have ha := copyHeap_at s.heap its
  have old : ∀ b o, s.heap.get? b = some o → (sortingHeap (copyHeap s.heap its) (s.heap.objs.size + 1) its).get? b = some o := fun b o e =>
    sortingHeap_old (Nat.ne_of_lt (Nat.lt_succ_of_lt (Heap.lt_size e))) (copyHeap_old e)
  have lta : (s.heap.objs.size + 1 : Nat) < (copyHeap s.heap its).objs.size := Heap.lt_size ha
  obtain ⟨e1, ho1⟩ : ∃ e1, ((copyHeap s.heap its).update (s.heap.objs.size + 1) (Obj.mapSeq fun _ => (#[] : Array Value))).get? (s.heap.objs.size + 1) = some (seqObj "list" #[] e1) := ⟨_, get?_update_seq ha fun _ => #[]⟩
  have hkS : (((copyHeap s.heap its).update (s.heap.objs.size + 1) (Obj.mapSeq fun _ => (#[] : Array Value))).push (seqObj "tuple" its.toArray 0)).objs.size = (copyHeap s.heap its).objs.size + 1 := by rw [size_push', Heap.size_update]
  have g1 : s.heap.objs.size ≤ (((copyHeap s.heap its).update (s.heap.objs.size + 1) (Obj.mapSeq fun _ => (#[] : Array Value))).push (seqObj "tuple" its.toArray 0)).objs.size := by rw [hkS]; omega
  have g2 : (((copyHeap s.heap its).update (s.heap.objs.size + 1) (Obj.mapSeq fun _ => (#[] : Array Value))).push (seqObj "tuple" its.toArray 0)).objs.size ≠ s.heap.objs.size + 1 := by rw [hkS]; exact Nat.ne_of_gt (by omega)
  unfold ksk_tree
  refine wpAny_bind (listItems_at ha rfl ?_)
  refine wpAny_bind (listUpdate_at ha rfl ?_ (by rw [List.size_toArray]; exact hZ) (Nat.zero_le _))
  refine wpAny_bind (seqEpoch_at ho1 rfl ?_)
  refine wpAny_bind (wpAny_newTuple ?_ (by show its.length ≤ _; exact hZ))
  refine wpAny_bind (wpAny_newList ?_ (Nat.zero_le _))
  refine wpAny_holding ?_
  have fresh : ∀ b, s.heap.objs.size ≤ b → FpOk X pins H b := fun b hb => I.fpOk hb (I.hok.fresh hb)
  have I1 : Inv X pins σ H { s with heap := sortingHeap (copyHeap s.heap its) (s.heap.objs.size + 1) its } := I.kept (t' := s.toks) old
  have hun := hr.un
  refine key_rest (s := { s with heap := sortingHeap (copyHeap s.heap its) (s.heap.objs.size + 1) its }) (kS := (((copyHeap s.heap its).update (s.heap.objs.size + 1) (Obj.mapSeq fun _ => (#[] : Array Value))).push (seqObj "tuple" its.toArray 0)).objs.size)
    F (room2 hr) hgd hb (by show X.A.units + 1 + 1 + 64 < cLine; omega) I1 rh rx ru hl hZ hk hp (fresh _ g1) (fresh _ (Nat.le_succ _)) g2 (Heap.get?_push_size _ rfl) (Heap.get?_push_of_some _ (Heap.get?_push_of_some _ ho1)) fun s3 Hj ws I3 S3 rh3 hn rw3 => ⟨rfl, ?_⟩
  have hsz : (sortK xs ks).length ≤ sizeLine := by
    unfold sortK
    rw [List.length_map, (List.mergeSort_perm _ _).length_eq, List.length_zip]
    omega
  have hw : H (s.heap.objs.size + 1) = none := (fresh _ (Nat.le_succ _)).1
  refine ⟨.ref _, _, I3, rfl, h _ ws _ (S3.over hw) (rh3.upd_free hn) hw (rh.free hw) upd_same (rw3.tk (tk_new hn)) hsz⟩
end
/-! ### the rule -/
def wSrtK (p : PSp) (e : WE) : WL := fun EP s M Q => e EP s M fun x M1 => ∃ xs ks : List PV, seqAt M1 x = some xs ∧ ks.length = xs.length ∧ Keys ks ∧ (∀ (i : Nat) (y key : PV), xs[i]? = some y → ks[i]? = some key → p [y] M1 (fun r M' => r = key ∧ M' = M1) (fun _ _ _ => False)) ∧ Q (sortK xs ks) M1
theorem el_srtK {X : Cx} {W : WX} {k : Nat} {f : Addr} {fd : FuncData} {y fx : Str} {p : PSp} {e : Expr} {we : WE} {pp fpos kpos pos : Pos} (F : FnG X.prog X.w X.K X.mg X.base k f fd [y] p) (hr : Room (k + 1) X.A) (hgd : X.A.guards = some []) (hb : Binds X.K fd [y] [])
    (hf : X.mg fx = some (.ref f)) (hm : X.mg "sorted" = none) (he : EE X W e we) (hg : Gl X "sorted" := by rfl) (hgf : Gl X fx := by rfl) (hdf : (fx == ("__debug__" : Str)) = false := by decide) (hv : bootBuiltins "sorted" = some (.builtin "sorted") := by decide +kernel)
    (h1 : starEach [e] X.env = (false, eval e X.env) :: starEach [] X.env := by rfl)
    (h2 : backTo pos (starEach [e] X.env) = (false, eval e X.env) :: backTo pos (starEach [] X.env) := by rfl) (hpl : (backTo pos (starEach [e] X.env)).any (·.1) = false := by rfl)
    (hall : (backToKw pos (keywordEach [⟨some "key", .Name fx fpos, kpos⟩] X.env)).all (·.1.isSome) = true := by rfl) (hnone : (backToKw pos (keywordEach [⟨some "key", .Name fx fpos, kpos⟩] X.env)).any (·.1.isNone) = false := by rfl)
    (hks : (backToKw pos (keywordEach [⟨some "key", .Name fx fpos, kpos⟩] X.env)).filterMap (·.1) = [Str.ofString "key"] := by rfl) :
    EL X W (.Call (.Name "sorted" pp) [e] [⟨some "key", .Name fx fpos, kpos⟩] pos) (wSrtK p we) := by
  refine ⟨fun EP s M Q Q' k h => he.mono _ _ _ _ _ (fun x M1 ⟨xs, ks, a, b, c, d, q⟩ => ⟨xs, ks, a, b, c, d, k _ _ q⟩) h, ?_⟩
  have hc : CallRK X (.builtin "sorted") [Str.ofString "key"] (fun vs zs H Q => ∃ (l : Addr) (M : PH) (xs ks : List PV) (us : List V), vs = [.ref l] ∧ zs = [.ref f] ∧ RepH X.K H M ∧ Reps X.K H xs us ∧ (SqL X.K H l us ∨ SqT X.K H l us) ∧ ks.length = xs.length ∧ Keys ks ∧
      (∀ (i : Nat) (y key : PV), xs[i]? = some y → ks[i]? = some key → p [y] M (fun r M' => r = key ∧ M' = M) (fun _ _ _ => False)) ∧ DnL X.K M H Q (sortK xs ks) M) := by
    intro pins s σ H vs zs us ws Q I r rz h
    obtain ⟨l, M, xs, ks, us', rfl, rfl, rh, rx, hs, hl, hk, hp, q⟩ := h
    obtain rfl := Vals.ref1 r
    obtain rfl := Vals.ref1 rz
    exact key_sorted F hr hgd hb I rh rx hs hl hk hp q
  refine pe_weak (pe_callBK hc hg hm hv (ea_cons he ea_nil h1).run (ek_cons (W := W) (ee_c (p := .ref f) (pe_glob (v := .ref f) hgf hf rfl hdf) fun _ => by rw [Rep]) ek_nil).run (by decide) (by decide) h2 hpl hall hnone hks) ?_
  rintro σ H Q ⟨EP, s, M, c, h⟩
  refine c.useA (w := wCons we wNil) (ea_cons he ea_nil h1).mono (R := fun ps M1 => ∃ x, ps = [x] ∧ ∃ xs ks : List PV, seqAt M1 x = some xs ∧ ks.length = xs.length ∧ Keys ks ∧ (∀ (i : Nat) (y key : PV), xs[i]? = some y → ks[i]? = some key → p [y] M1 (fun r M' => r = key ∧ M' = M1) (fun _ _ _ => False)) ∧ DnL X.K M H Q (sortK xs ks) M1)
    (he.mono _ _ _ _ _ (fun x M1 z => ⟨x, rfl, z⟩) h) fun ps M1 vs H1 h1' S1 c1 r1 => ?_
  obtain ⟨x, rfl, xs, ks, hx, hl, hk, hp, q⟩ := h1'
  refine c1.useA (w := wCons (wC (.ref f)) wNil) (fun EP s M Q Q' k h => k _ _ h) (R := fun ps M2 => ps = [.ref f] ∧ M2 = M1) ⟨rfl, rfl⟩ fun ps M2 zs H2 h2' S2 c2 r2 => ?_
  obtain ⟨rfl, rfl⟩ := h2'
  obtain ⟨z, rfl, rz⟩ := reps1 r2
  rw [Rep] at rz; subst rz
  obtain ⟨u, rfl, ru⟩ := reps1 r1
  obtain ⟨a, us, rfl, rr, hs⟩ := seqAt_rd c2.rh (ru.tk (S2.tk c1.rh)) hx
  exact ⟨a, M2, xs, ks, us, rfl, rfl, c2.rh, rr, hs, hl, hk, hp, DnL.on (S1.trans S2) q⟩
end PL
set_option autoImplicit false
namespace PL
open PySem PySem.Spec L2
open PyProof.Rows hiding St

/-! ## <= of whole numbers and of pairs of them -/
def rLeX : PR2 := fun x y M Q => match x, y with
  | .int i, .int j => Q (.bl (decide (i ≤ j))) M
  | .tup [.int a, .int b], .tup [.int c, .int d] => Q (.bl (decide (a < c ∨ (a = c ∧ b ≤ d)))) M
  | _, _ => False
theorem mono_leX : Mono2 rLeX := by
  intro x y M Q Q' k h
  unfold rLeX at h ⊢
  split at h
  · exact k _ _ h
  · exact k _ _ h
  · exact h
def r0LeX (K : Fg) : R2 := fun x y H Q => (rI0 fun i j => .bl (decide (i ≤ j))) x y H Q ∨ rLeT K x y H Q
theorem op_leX {X : Cx} (hu : X.A.units + 64 < cLine) : OpR X (compareOp .LtE) (r0LeX X.K) := OpR.or op_le (op_leT (by omega))
theorem reps_ints {K : Fg} {H : Hp} : ∀ {ns : List Int} {vs : List V}, Reps K H (ns.map PV.int) vs → vs = ns.map V.int
  | [], vs, h => by rw [List.map_nil, Reps] at h; exact h
  | n :: ns, vs, h => by
    rw [List.map_cons, Reps] at h
    obtain ⟨v, r, rfl, h1, h2⟩ := h
    rw [Rep] at h1
    rw [h1, reps_ints h2]; rfl
theorem lift_leX {K : Fg} : Lift2 K rLeX (r0LeX K) := by
  intro M H x y v u Q rh rx ry h
  unfold rLeX at h
  split at h
  · rw [Rep] at rx ry; exact .inl ⟨_, _, rx, ry, dn_here rh (by rw [Rep]) h⟩
  · rename_i a b c d
    rw [Rep] at rx ry
    obtain ⟨p, vs, rfl, hs, rr⟩ := rx
    obtain ⟨q, us, rfl, hs', rr'⟩ := ry
    rw [reps_ints (ns := [a, b]) rr] at hs
    rw [reps_ints (ns := [c, d]) rr'] at hs'
    refine .inr ⟨p, q, [a, b], [c, d], rfl, rfl, hs, hs', ?_⟩
    have e : Ob.lexAt (fun j => decide (([a, b] : List Int).getD j 0 = [c, d].getD j 0)) (fun j => decide (([a, b] : List Int).getD j 0 ≤ [c, d].getD j 0)) (decide (([a, b] : List Int).length ≤ [c, d].length)) 0 (min ([a, b] : List Int).length [c, d].length) = decide (a < c ∨ (a = c ∧ b ≤ d)) := by
      show (if decide (a = c) = true then (if decide (b = d) = true then true else decide (b ≤ d)) else decide (a ≤ c)) = _
      by_cases h1 : a = c
      · subst h1
        by_cases h2 : b = d
        · subst h2; simp
        · simp [h2]
      · have : (a ≤ c) ↔ (a < c ∨ (a = c ∧ b ≤ d)) := by omega
        simp only [h1, decide_false, Bool.false_eq_true, if_false, decide_eq_decide]
        simpa [h1] using this
    rw [e]
    exact dn_here rh (by rw [Rep]) h
  · exact h.elim
/-! ## max, min of two whole numbers -/
def cMax2 : PC := fun ps M Q => match ps with
  | [.int i, .int j] => Q (.int (if j > i then j else i)) M
  | _ => False
def cMin2 : PC := fun ps M Q => match ps with
  | [.int i, .int j] => Q (.int (if j < i then j else i)) M
  | _ => False
theorem mono_max2 : MonoC cMax2 := by
  intro ps M Q Q' k h
  unfold cMax2 at h ⊢
  split at h
  · exact k _ _ h
  · exact h
theorem mono_min2 : MonoC cMin2 := by
  intro ps M Q Q' k h
  unfold cMin2 at h ⊢
  split at h
  · exact k _ _ h
  · exact h
theorem lift_max2 {K : Fg} : LiftC K cMax2 (fun xs H Q => ∃ i j, xs = [.int i, .int j] ∧ Q (.int (if j > i then j else i)) H) := by
  intro M H ps vs Q rh r h
  unfold cMax2 at h
  split at h
  · obtain ⟨u, v, rfl, ru, rv⟩ := reps2 r
    rw [Rep] at ru rv; subst ru; subst rv
    exact ⟨_, _, rfl, dn_here rh (by rw [Rep]) h⟩
  · exact h.elim
theorem lift_min2 {K : Fg} : LiftC K cMin2 (fun xs H Q => ∃ i j, xs = [.int i, .int j] ∧ Q (.int (if j < i then j else i)) H) := by
  intro M H ps vs Q rh r h
  unfold cMin2 at h
  split at h
  · obtain ⟨u, v, rfl, ru, rv⟩ := reps2 r
    rw [Rep] at ru rv; subst ru; subst rv
    exact ⟨_, _, rfl, dn_here rh (by rw [Rep]) h⟩
  · exact h.elim
/-! ## xs.insert(i, v) -/
def mInsert : PM := fun x ps M Q => match x, ps with
  | .ref a, [.int i, p] => ∃ xs, M a = some (.lst xs) ∧ xs.length < sizeLine ∧ 0 ≤ i ∧ i < 2 ^ 63 ∧ Q .non (pupd M a (.lst (xs.take i.toNat ++ [p] ++ xs.drop i.toNat)))
  | _, _ => False
theorem mono_insert : MonoM mInsert := by
  intro x ps M Q Q' k h
  unfold mInsert at h ⊢
  split at h
  · exact let ⟨xs, a, b, c, d, e⟩ := h; ⟨xs, a, b, c, d, k _ _ e⟩
  · exact h
theorem lift_insert {K : Fg} : LiftM K mInsert (fun x vs H Q => ∃ (l : Addr) (xs : List V) (i : Int) (y : V), x = .ref l ∧ vs = [.int i, y] ∧ H l = some (.lst xs) ∧ xs.length < sizeLine ∧ 0 ≤ i ∧ i < 2 ^ 63 ∧
    Q .non (upd H l (.lst (xs.take i.toNat ++ [y] ++ xs.drop i.toNat)))) := by
  intro M H x ps v vs Q rh rx rps h
  unfold mInsert at h
  split at h
  · obtain ⟨xs, e, hz, h0, h1, q⟩ := h
    rw [Rep] at rx; subst rx
    obtain ⟨u, w, rfl, ru, rw'⟩ := reps2 rps
    rw [Rep] at ru; subst ru
    obtain ⟨us, hu, rr⟩ := rh _ _ e
    exact ⟨_, us, _, w, rfl, rfl, hu, by rw [← rr.length]; exact hz, h0, h1, dn_wr rh e hu (((rr.take _).append (.cons rw' .nil)).append (rr.drop _)) (by rw [Rep]) q⟩
  · exact h.elim
/-! ## [..] * n -/
def qRepL (xs : List PV) (QA : List PV → PH → Prop) (M2 : PH) (y : PV) : Prop := match y with
  | .int k => 0 ≤ k ∧ k ≤ 1000 ∧ xs.length ≤ 1000 ∧ QA (List.replicate k.toNat xs).flatten M2
  | _ => False
def wRepL (l : WL) (e : WE) : WL := fun EP s M Q => l EP s M fun xs M1 => e EP s M1 fun y M2 => qRepL xs Q M2 y
theorem wRepL_i {EP : PX} {s : PSt} {M : PH} {QA : List PV → PH → Prop} {l : WL} {e : WE} (h : l EP s M fun xs M1 => e EP s M1 fun y M2 => qRepL xs QA M2 y) : wRepL l e EP s M QA := h
theorem qRepL_i {xs : List PV} {QA : List PV → PH → Prop} {M : PH} {k : Int} (h0 : 0 ≤ k) (h1 : k ≤ 1000) (h2 : xs.length ≤ 1000) (h : QA (List.replicate k.toNat xs).flatten M) : qRepL xs QA M (.int k) := ⟨h0, h1, h2, h⟩
theorem rep_flat_len {α : Type} (xs : List α) : ∀ n : Nat, (List.replicate n xs).flatten.length = n * xs.length
  | 0 => by simp
  | n + 1 => by rw [List.replicate_succ, List.flatten_cons, List.length_append, rep_flat_len xs n, Nat.succ_mul]; omega
theorem el_repL {X : Cx} {W : WX} {a b : Expr} {wl : WL} {we : WE} {pos : Pos} (ha : EL X W a wl) (hb : EE X W b we) : EL X W (.BinOp a .Mult b pos) (wRepL wl we) := by
  refine ⟨fun EP s M Q Q' k h => ha.mono _ _ _ _ _ (fun xs M1 z => hb.mono _ _ _ _ _ (fun y M2 z2 => ?_) z) h, pe_weak (pe_op op_rep ha.run hb.run) ?_⟩
  · unfold qRepL at z2 ⊢
    split at z2
    · exact ⟨z2.1, z2.2.1, z2.2.2.1, k _ _ z2.2.2.2⟩
    · exact z2
  · rintro σ H Q ⟨EP, s, M, c, h⟩
    refine c.useL ha.mono h fun xs M1 D vs H1 h1 S1 c1 n w e rr z => ?_
    refine c1.use hb.mono h1 fun y M2 u H2 h2 S2 c2 r2 => ?_
    unfold qRepL at h2
    split at h2
    · rename_i k
      rw [Rep] at r2; subst r2
      obtain ⟨h0, h1', h3, q⟩ := h2
      have e2 := S2.keep D _ e w
      have rr2 := rr.tk (S2.tk c1.rh)
      have lv := rr.length
      have hm : vs.length * k.toNat ≤ 1000 * 1000 := Nat.mul_le_mul (by omega) (by omega)
      refine ⟨D, k, vs, rfl, rfl, e2, by omega, by omega, by rw [sizeLine_eq]; omega, ?_⟩
      exact dnL_new c2.rh (rr2.rep k.toNat) (by rw [rep_flat_len, sizeLine_eq, lv, Nat.mul_comm]; omega) (q.on (S1.trans S2))
    · exact h2.elim
end PL
set_option autoImplicit false
namespace PL
open PySem PySem.Spec L2
open PyProof.Rows hiding St

/-! ## defs with defaults -/
section
variable {P : Program} {w : World} {K : Fg} {mg : Str → Option Value} {base : Heap}
theorem fnG_okD {x qual : Str} {st : Stmt} {f : Addr} {fd : FuncData} {N ps : List Str} {k : Nat} {p : PSp} {wb : WS} {dvs : List V} {kws : List (Str × V)} (F : FunD K x qual (defArgs st) (defBody st) (defScope st) dvs kws f fd) (S : FnScope N ps (defScope st)) (hmp : MonoP p)
    (hbody : ∀ (cdv : Value) (A : Around) (outer : List Env) (s : Shared) (H : Hp) (E : XK), Room k (A.deeper (envOfC qual (defScope st) s.heap.objs.size f cdv)) → A.guards = some [] → EB (XOf P w K mg base N qual (defScope st) f cdv A outer s H E) (WOf E) (defBody st) wb)
    (spec : ∀ (args : List PV) (M : PH) (Q : QE) (E : PX1), args.length = ps.length → p args M Q E → wb (EDef E) (DDef Q) (startP N.length args) M) : FnG P w K mg base (k + 1) f fd ps p := by
  obtain ⟨oc, od, dV, kV, doc, pm, an, cdv, ct, osl, rfl, lk, hcd, _, _⟩ := F.ex
  exact fnG_of lk hcd S hmp (fun A outer s H E => hbody cdv A outer s H E) spec
end
theorem fund_full {K : Fg} {x qual : Str} {params : Arguments} {body : List Stmt} {scope : Scope} {dvs : List V} {kws : List (Str × V)} {f : Addr} {fd : FuncData} {ps : List Str} (F : FunD K x qual params body scope dvs kws f fd) (hd : dvs ≠ [])
    (h : ∀ (T : Addr) (kV doc pm : Value) (an : Option Addr) (cdv ct : Value) (us its : List Value), us.length = ps.length → its.length = dvs.length →
      ∃ k, bindArgs (PySem.W.fnOf x qual params body scope (.ref T) kV doc pm an cdv ct) ⟨us, []⟩ = seqItems? (.ref T) >>= k ∧ k (some its.toArray) = pure (ps.zip us)) : Binds K fd ps [] := by
  obtain ⟨ds, v, b⟩ := F.binds1 (ps := ps) ps.length dvs.length hd (by omega) fun T kV doc pm an cdv ct us its h1 h2 => by
    rw [List.drop_eq_nil_of_le (by omega), List.append_nil]
    exact h T kV doc pm an cdv ct us its h1 h2
  rw [List.drop_eq_nil_of_le (Nat.le_refl _)] at v
  cases v
  exact b
theorem kbn_ofD {K : Fg} {x qual : Str} {params : Arguments} {body : List Stmt} {scope : Scope} {dvs : List V} {kws : List (Str × V)} {f : Addr} {fd : FuncData} {ps ks : List Str} {n : Nat} (F : FunD K x qual params body scope dvs kws f fd) (hd : dvs ≠ []) (g : {α : Type} → List α → List α → List α)
    (h : ∀ (T : Addr) (kV doc pm : Value) (an : Option Addr) (cdv ct : Value) (us ws its : List Value), us.length = n → ws.length = ks.length → its.length = dvs.length →
      ∃ k, bindArgs (PySem.W.fnOf x qual params body scope (.ref T) kV doc pm an cdv ct) ⟨us, ks.zip ws⟩ = seqItems? (.ref T) >>= k ∧ k (some its.toArray) = pure (ps.zip (g us ws)))
    (hr : ∀ {vs : List V} {us : List Value} {zs : List V} {ws : List Value}, Vals vs us → Vals zs ws → Vals (g vs zs) (g us ws)) : KBn K fd ps n ks (fun us ws => g us ws) (fun vs zs => g vs zs) := by
  obtain ⟨oc, od, dV, kV, doc, pm, an, cdv, ct, osl, rfl, lk, hcd, hD, _⟩ := F.ex
  rcases hD with ⟨e, _⟩ | ⟨_, T, o, its, m, rfl, lT, oT, rT⟩
  · exact absurd e hd
  · refine ⟨fun s us ws X h1 h2 => ?_, hr⟩
    obtain ⟨k, e1, e2⟩ := h T kV doc pm an cdv ct us ws its h1 h2 rT.length.symm
    refine BindsTo.of_looks fun M => ?_
    rw [e1]
    exact looks_items X lT oT (.of_pure e2)
theorem fund_mk {K : Fg} {x qual : Str} {st : Stmt} {f T : Addr} {oc oc2 : Value} {od an od2 : Option Addr} {osl sl2 : Array (Option Value)} {kV doc pm cdv ct : Value} {is : Array Value} {n : Nat} {dvs : List V}
    (l : K.lookup f = some ⟨oc, od, .func (PySem.W.fnOf x qual (defArgs st) (defBody st) (defScope st) (.ref T) kV doc pm an cdv ct), osl⟩)
    (c : PySem.W.codeIn K cdv qual = true) (k : PySem.W.keepIn K (.ref f) = true) (m : K.lookup T = some ⟨oc2, od2, .seq is n, sl2⟩) (ne : dvs ≠ []) (v : Vals dvs is.toList) :
    FunD K x qual (defArgs st) (defBody st) (defScope st) dvs [] f (PySem.W.fnOf x qual (defArgs st) (defBody st) (defScope st) (.ref T) kV doc pm an cdv ct) :=
  ⟨⟨oc, od, .ref T, kV, doc, pm, an, cdv, ct, osl, rfl, l, c, .inr ⟨ne, T, _, is.toList, n, rfl, m, by simp, v⟩, .inl rfl⟩, k⟩
/-- two keywords, the other way round -/
def swap2 {α : Type} (us ws : List α) : List α := match us, ws with
  | [], [a, b] => [b, a]
  | _, _ => []
theorem swap2_vals {vs : List V} {us : List Value} {zs : List V} {ws : List Value} (h1 : Vals vs us) (h2 : Vals zs ws) : Vals (swap2 vs zs) (swap2 us ws) := by
  cases h1 with
  | nil =>
    cases h2 with
    | nil => exact .nil
    | cons a t =>
      cases t with
      | nil => exact .nil
      | cons b t =>
        cases t with
        | nil => exact .cons b (.cons a .nil)
        | cons c t => exact .nil
  | cons a t => exact .nil
theorem swap2_reps {K : Fg} {H : Hp} {qs rs : List PV} {vs zs : List V} (h1 : Reps K H qs vs) (h2 : Reps K H rs zs) : Reps K H (swap2 qs rs) (swap2 vs zs) := by
  have l1 := h1.length
  have l2 := h2.length
  match qs, vs, rs, zs, h1, h2, l1, l2 with
  | [], [], [], [], _, _, _, _ => exact .nil
  | [], [], [a], [b], _, _, _, _ => exact .nil
  | [], [], [a, b], [c, d], _, h2, _, _ =>
    rw [Reps] at h2
    obtain ⟨v, r, e, r1, h3⟩ := h2
    obtain ⟨u, e2, r2⟩ := reps1 h3
    subst e2
    cases e
    exact .cons r2 (.cons r1 .nil)
  | [], [], a :: b :: c :: r, d :: e :: f :: t, _, _, _, _ => exact .nil
  | a :: r, b :: t, _, _, _, _, _, _ => exact .nil
section
variable {EP : PX} {D : PEnds} {s : PSt} {M : PH} {Q : QE} {QB : Bool → PH → Prop} {QA : List PV → PH → Prop}
theorem rLeX_int {i j : Int} (h : Q (.bl (decide (i ≤ j))) M) : rLeX (.int i) (.int j) M Q := h
theorem rLeX_pair {a b c d : Int} (h : Q (.bl (decide (a < c ∨ (a = c ∧ b ≤ d)))) M) : rLeX (.tup [.int a, .int b]) (.tup [.int c, .int d]) M Q := h
theorem cMax2_i {i j : Int} (h : Q (.int (if j > i then j else i)) M) : cMax2 [.int i, .int j] M Q := h
theorem cMin2_i {i j : Int} (h : Q (.int (if j < i then j else i)) M) : cMin2 [.int i, .int j] M Q := h
theorem mInsert_i {a : Addr} {xs : List PV} {n : Nat} {p : PV} (ea : M a = some (.lst xs)) (hz : xs.length < sizeLine) (hn : n < 1000000) (h : Q .non (pupd M a (.lst (xs.take n ++ [p] ++ xs.drop n)))) : mInsert (.ref a) [.int (n : Nat), p] M Q :=
  ⟨xs, ea, hz, by omega, by omega, h⟩
theorem wSrtK_i {p : PSp} {e : WE} (h : e EP s M fun x M1 => ∃ xs ks : List PV, seqAt M1 x = some xs ∧ ks.length = xs.length ∧ Keys ks ∧ (∀ (i : Nat) (y key : PV), xs[i]? = some y → ks[i]? = some key → p [y] M1 (fun r M' => r = key ∧ M' = M1) (fun _ _ _ => False)) ∧ QA (sortK xs ks) M1) : wSrtK p e EP s M QA := h
theorem iNw_i {l : WL} {QI : PSrc → PH → Prop} (h : l EP s M fun xs M1 => QI ⟨xs, fun _ => True⟩ M1) : iNw l EP s M QI := h
def qNeg (Q : QE) : QE := fun x M1 => match x with
  | .int i => Q (.int (-i)) M1
  | _ => False
theorem wNeg_i {e : WE} (h : e EP s M (qNeg Q)) : wNeg e EP s M Q := h
theorem qNeg_i {i : Int} (h : Q (.int (-i)) M) : qNeg Q (.int i) M := h
end
end PL
set_option autoImplicit false
namespace PL
open PySem PySem.Spec L2
open PyProof.Rows hiding St
set_option maxHeartbeats 4000000
local macro_rules | `(tactic| walk_at "s") => `(tactic| first
  | (with_reducible refine wSeq_i ?_) | ((with_reducible refine' wVar_i ?a ?_); (case a => rfl)) | (with_reducible refine wC_i ?_) | (with_reducible refine wOp_i ?_) | (with_reducible refine wCons_i ?_) | (with_reducible refine wNil_i ?_)
  | (with_reducible refine wSet_i ?_) | (with_reducible refine wDrop_i ?_) | (with_reducible refine wRet_i ?_) | (with_reducible refine wIf_i ?_) | (with_reducible refine wNext_i ?_) | (with_reducible refine wTup_i ?_) | (with_reducible refine wNew_i ?_) | (with_reducible refine wDisp_i ?_)
  | (with_reducible refine wTest_i ?_) | (with_reducible refine qBl_i ?_) | (with_reducible refine wTru_i ?_) | (with_reducible refine truV_bl ?_) | (with_reducible refine wAndT_i ?_) | (with_reducible refine wOrT_i ?_) | (with_reducible refine wNotT_i ?_) | (with_reducible refine wAndV_i ?_) | (with_reducible refine wOrV_i ?_) | (with_reducible refine qAnd_i ?_) | (with_reducible refine qOr_i ?_)
  | (with_reducible refine wNotV_i ?_) | (with_reducible refine qNot_i ?_) | (with_reducible refine wIfE_i ?_) | (with_reducible refine ite_t ?_) | (with_reducible refine ite_f ?_) | (with_reducible refine wCall_i ?_) | (with_reducible refine wCallK_i ?_) | (with_reducible refine wCB_i ?_) | (with_reducible refine wCBL_i ?_) | (with_reducible refine wBMt_i ?_) | (with_reducible refine wStL_i ?_) | (with_reducible refine wEqL_i ?_)
  | (with_reducible refine wSl_i ?_) | (with_reducible refine wNoP_i ?_) | (with_reducible refine wPt_i ?_) | (with_reducible refine qPt_i ?_)
  | (with_reducible refine rAdd_int ?_) | (with_reducible refine rSub_int ?_) | (with_reducible refine rLt_int ?_) | (with_reducible refine rLt_str ?_) | (with_reducible refine rLe_int ?_) | (with_reducible refine rGt_int ?_) | (with_reducible refine rGe_int ?_)
  | (with_reducible refine rEq_str ?_) | (with_reducible refine rNe_str ?_) | (with_reducible refine rEq_int ?_)
  | (with_reducible refine wFor_i ?_) | (with_reducible refine wLc_i ?_) | (with_reducible refine iAny_i ?_) | (with_reducible refine qIt_tup ?_) | (with_reducible refine iRg1_i ?_) | (with_reducible refine gNm_i ?_) | (with_reducible refine gTp_i ?_) | (with_reducible refine gAll_c ?_) | (with_reducible refine gAll_n ?_) | (with_reducible refine cOne_i ?_) | (with_reducible refine cMany2_i ?_) | (with_reducible refine cMany3_i ?_) | (with_reducible refine wYes_i ?_)
  | (with_reducible refine wJoinL_i ?_) | (with_reducible refine qJn_i ?_) | (with_reducible refine wCatEL_i ?_) | (with_reducible refine wIxL_i ?_) | (with_reducible refine cTupL_i ?_) | (with_reducible refine cLenL_i ?_)
  | (with_reducible refine iZp_i ?_) | (with_reducible refine qZip_tup ?_) | (with_reducible refine wKIx_i ?_) | (with_reducible refine wBack_i ?_) | (with_reducible refine qBack_tup ?_) | (with_reducible refine wAsg_i ?_) | (with_reducible refine wPar_i ?_) | (with_reducible refine qPar_i ?_) | (with_reducible refine rLtX_int ?_) | (with_reducible refine rLtX_str ?_) | (with_reducible refine cList_tup ?_)
  | (with_reducible refine rIsX_bl ?_) | (with_reducible refine rIsX_nn ?_) | (with_reducible refine rIsX_tup ?_) | (with_reducible refine rIsX_str ?_) | (with_reducible refine rIsX_bn ?_)
  | (with_reducible refine wSrtK_i ?_) | (with_reducible refine wRepL_i ?_) | (with_reducible refine rLeX_int ?_) | (with_reducible refine rLeX_pair ?_) | (with_reducible refine cMax2_i ?_) | (with_reducible refine cMin2_i ?_) | (with_reducible refine iNw_i ?_) | (with_reducible refine wNeg_i ?_) | (with_reducible refine qNeg_i ?_)
  | (with_reducible refine cLen_tup ?_) | (with_reducible refine cTup_tup ?_))
local macro_rules | `(tactic| walk_at "ss") => `(tactic| repeat walk_at "s")
theorem and_small {n : Nat} {A : Prop} (h : n ≤ 1000) (a : A) : n ≤ sizeLine ∧ A := ⟨by rw [sizeLine_eq]; omega, a⟩
theorem dats_ints : ∀ ns : List Int, dats (ns.map PV.int) = ns.map PyData.int
  | [] => by rw [List.map_nil, dats]; rfl
  | n :: r => by rw [List.map_cons, dats, dats_ints r, dat]; rfl
theorem pls_ints : ∀ ns : List Int, pls (ns.map PV.int) = true
  | [] => by rw [List.map_nil, pls]
  | n :: r => by rw [List.map_cons, pls, pls_ints r, pl]; rfl
theorem dpts_ints : ∀ ns : List Int, dpts (ns.map PV.int) = 0
  | [] => by rw [List.map_nil, dpts]
  | n :: r => by rw [List.map_cons, dpts, dpts_ints r, dpt]; rfl; all_goals (intros; contradiction)
/-- a list against one just made -/
theorem eqL_i {M : PH} {Q : QE} {a : Addr} {xs ys : List PV} {neg : Bool} (e : M a = some (.lst xs)) (h : pls xs = true) (g : pls ys = true) (d1 : dpts xs ≤ 63) (d2 : dpts ys ≤ 63) (k : Q (.bl (if neg then !eqP (.tup xs) (.tup ys) else eqP (.tup xs) (.tup ys))) M) : (match datM M (.ref a) with
  | some d => purs ys = true ∧ shp d = true ∧ shp (.list (dats ys)) = true ∧ Q (.bl (if neg then !PyData.eqv d (.list (dats ys)) else PyData.eqv d (.list (dats ys)))) M
  | none => False) := by
  rw [datM_lst e (pls_purs xs h)]
  refine ⟨pls_purs ys g, shp_list h d1, shp_list g d2, ?_⟩
  have e2 : PyData.eqv (.list (dats xs)) (.list (dats ys)) = eqP (.tup xs) (.tup ys) := by
    have := eqv_eqP (p := .tup xs) (q := .tup ys) (by rw [pl]; exact h) (by rw [pl]; exact g)
    rw [dat, dat, PyData.eqv] at this
    rw [PyData.eqv]; exact this
  rw [e2]; exact k
def p__law_draw : PSp := pFd 2 1 (fun rest _ => ∃ many : Int, rest = [.int many] ∧ 0 < many ∧ many < 1073741824) fun rest _ r => ∃ i many : Int, rest = [.int many] ∧ r = .int i ∧ 0 ≤ i ∧ i < many
theorem mono__law_draw : MonoP p__law_draw := pFd_mono
theorem len__law_draw : LenP p__law_draw 2 := pFd_len
theorem use_draw {M0 M : PH} {a C : Addr} {c : Nat} {many : Int} {Q : QE} {E} (F : Fm M0 M a C c) (hc : c + 1 ≤ 1000000000000) (hm : 0 < many) (hm2 : many < 1073741824)
    (h : ∀ (i : Int) (M' : PH), 0 ≤ i → i < many → Fm M0 M' a C (c + 1) → Fm M M' a C (c + 1) → Q (.int i) M') : p__law_draw [.ref a, .int many] M Q E :=
  pFd_use F rfl hc ⟨many, rfl, hm, hm2⟩ fun r M' ⟨i, m, e1, e2, h0, h1⟩ F1 F2 => by
    cases e1; subst e2; exact h i M' h0 h1 F1 F2
def w__law_draw : WS :=
  (wSeq (wStL (wVar 0) (wC (.int 3)) (wOp rAdd (wOp rIxP (wVar 0) (wC (.int 3))) (wC (.int 1))))
  (wSeq (wIf (wTest (wOp rGt (wOp rIxP (wVar 0) (wC (.int 2))) (wC (.int 0)))) (wSeq (wSet 2 (wOp rMod (wOp rIxP (wVar 0) (wC (.int 2))) (wVar 1)))
  (wSeq (wStL (wVar 0) (wC (.int 2)) (wOp rFdiv (wOp rIxP (wVar 0) (wC (.int 2))) (wVar 1)))
  (wRet (wVar 2)))) wNext)
  (wSeq (wSet 3 (wC (.int 5)))
  (wSeq (wIf (wTest (wEqL true (wOp rIxP (wVar 0) (wC (.int 0))) (wDisp wNil))) (wSet 3 (wOp rIxP (wOp rIxP (wVar 0) (wC (.int 0))) (wOp rMod (wOp rIxP (wVar 0) (wC (.int 1))) (wCB cLen (wCons (wOp rIxP (wVar 0) (wC (.int 0))) wNil))))) wNext)
  (wSeq (wStL (wVar 0) (wC (.int 1)) (wOp rAdd (wOp rIxP (wVar 0) (wC (.int 1))) (wC (.int 1))))
  (wSeq (wIf (wAndT (wTest (wOp rGe (wVar 3) (wOp rPow (wC (.int 10)) (wC (.int 18))))) (wTest (wOp rLeX (wOp rIxP (wVar 0) (wC (.int 1))) (wCB cLen (wCons (wOp rIxP (wVar 0) (wC (.int 0))) wNil))))) (wSeq (wStL (wVar 0) (wC (.int 2)) (wOp rFdiv (wVar 3) (wVar 1)))
  (wRet (wOp rMod (wVar 3) (wVar 1)))) wNext)
  (wSeq (wSet 4 (wOp rMod (wOp rPow (wOp rAdd (wOp rAdd (wOp rMod (wVar 3) (wC (.int 2147483629))) (wOp rMul (wC (.int 7919)) (wOp rIxP (wVar 0) (wC (.int 3))))) (wC (.int 1))) (wC (.int 5))) (wC (.int 2147483647))))
  (wRet (wOp rMod (wOp rFdiv (wOp rMod (wOp rPow (wOp rAdd (wVar 4) (wOp rMul (wC (.int 104729)) (wOp rIxP (wVar 0) (wC (.int 3))))) (wC (.int 5))) (wC (.int 2147483587))) (wC (.int 64))) (wVar 1))))))))))
theorem feed_back {M M1 : PH} {a C : Addr} {c : Nat} {ns : List Int} {x y z : Int} (h : Fm M M1 a C c) (nr : NR M) (hC : M C = some (.lst (ns.map PV.int))) (h0 : 0 ≤ z) (h1 : z ≤ c) (hl : ns.length ≤ 63) : Fm M (pupd M a (.lst [.ref C, .int x, .int y, .int z])) a C c :=
  ⟨nr.upd, h.ca, h.cm, ⟨ns, x, y, z, pupd_same, by rw [pupd_ne h.ca]; exact hC, h0, h1, hl⟩, fun b o n e => by rw [pupd_ne n]; exact e⟩
theorem fmod_lt {x m : Int} (h : 0 < m) : 0 ≤ x.fmod m ∧ x.fmod m < m := by
  rw [Int.fmod_eq_emod_of_nonneg _ (Int.le_of_lt h)]
  exact ⟨Int.emod_nonneg _ (by omega), Int.emod_lt_of_pos _ h⟩
theorem cmul_l {i j : Int} (h : -(2 ^ 64) < i ∧ i < 2 ^ 64) : CMul i j := .inl h
theorem cpow5 {i : Int} (h : 0 ≤ i) (h2 : i < 18446744073709551616) : CPow i 5 := ⟨by omega, by omega, by
  have e : (2 : Nat) ^ 64 = 18446744073709551616 := by decide
  rw [e]; omega⟩
theorem atI_mod {α : Type} {xs : List α} {x : Int} (h : xs ≠ []) : ∃ p, atI xs (x.fmod (xs.length : Nat)) = some p := by
  have hl : 0 < xs.length := List.length_pos_iff.mpr h
  obtain ⟨h1, h2⟩ := fmod_lt (x := x) (m := (xs.length : Nat)) (by omega)
  obtain ⟨n, hn⟩ := Int.eq_ofNat_of_zero_le h1
  rw [hn] at h2 ⊢
  exact ⟨xs[n]'(by omega), atI_nat (List.getElem?_eq_getElem _)⟩
theorem atI_mem {α : Type} {xs : List α} {x : Int} {p : α} (h : atI xs x = some p) : p ∈ xs := by
  obtain ⟨j, _, h2, _⟩ := atI_get h
  exact List.mem_of_getElem? h2
theorem mul7919 {z : Int} (h0 : 0 ≤ z) (h1 : z ≤ 1000000000001) : 0 ≤ 7919 * z ∧ 7919 * z ≤ 7919000000007919 := by omega
theorem spec__law_draw : ∀ (args : List PV) (M : PH) (Q : QE) (E : PX1), args.length = 2 → p__law_draw args M Q E → w__law_draw (EDef E) (DDef Q) (startP 5 args) M := by
  rintro args M Q E - ⟨-, a, C, c, rest, rfl, F, hc, ⟨many, rfl, hm, hm2⟩, q⟩
  obtain ⟨ns, x, y, z, ha, hC, hz0, hz1, hl⟩ := F.fd
  have ne := F.ca
  have fin : ∀ (r x' y' : Int), 0 ≤ r → r < many → (DDef Q).rt (.int r) (pupd M a (.lst [.ref C, .int x', .int y', .int (z + 1)])) := fun r x' y' h0 h1 =>
    ⟨_, PLe.refl _, q _ _ ⟨r, many, rfl, rfl, h0, h1⟩ (feed_back (F.up (by omega)) F.nr hC (by omega) (by omega) hl)⟩
  have hCu : ∀ L, pupd M a (.lst L) C = some (.lst (ns.map PV.int)) := fun L => by rw [pupd_ne ne]; exact hC
  unfold w__law_draw
  walk_at "ss"
  refine rIx_lst ha rfl ?_
  walk_at "ss"
  refine rStL_i ha rfl ?_
  walk_at "ss"
  refine rIx_lst pupd_same rfl ?_
  walk_at "ss"
  refine ite_i (fun hy => ?_) fun _ => ?_
  · walk_at "ss"
    refine rIx_lst pupd_same rfl ?_
    walk_at "ss"
    refine rMod_int (by omega) ?_
    walk_at "ss"
    refine rIx_lst pupd_same rfl ?_
    walk_at "ss"
    refine rFdiv_int ⟨by omega, by omega⟩ ?_
    walk_at "ss"
    refine rStL_i pupd_same rfl ?_
    walk_at "ss"
    rw [pupd_pupd]
    exact fin _ _ _ (fmod_lt hm).1 (fmod_lt hm).2
  · walk_at "ss"
    refine rIx_lst pupd_same rfl ?_
    walk_at "ss"
    refine and_small (by simp) (eqL_i (hCu _) (pls_ints ns) (by rw [pls]) (by rw [dpts_ints]; omega) (by rw [dpts]; omega) ?_)
    walk_at "ss"
    -- what follows, whatever the cell is
    have tail : ∀ (cell : Int) (s : PSt), s = [some (.ref a), some (.int many), none, some (.int cell), none] → ∀ (M1 : PH) (x1 : Int), M1 = pupd M a (.lst [.ref C, .int x1, .int y, .int (z + 1)]) →
        (wSeq (wStL (wVar 0) (wC (.int 1)) (wOp rAdd (wOp rIxP (wVar 0) (wC (.int 1))) (wC (.int 1))))
  (wSeq (wIf (wAndT (wTest (wOp rGe (wVar 3) (wOp rPow (wC (.int 10)) (wC (.int 18))))) (wTest (wOp rLeX (wOp rIxP (wVar 0) (wC (.int 1))) (wCB cLen (wCons (wOp rIxP (wVar 0) (wC (.int 0))) wNil))))) (wSeq (wStL (wVar 0) (wC (.int 2)) (wOp rFdiv (wVar 3) (wVar 1)))
  (wRet (wOp rMod (wVar 3) (wVar 1)))) wNext)
  (wSeq (wSet 4 (wOp rMod (wOp rPow (wOp rAdd (wOp rAdd (wOp rMod (wVar 3) (wC (.int 2147483629))) (wOp rMul (wC (.int 7919)) (wOp rIxP (wVar 0) (wC (.int 3))))) (wC (.int 1))) (wC (.int 5))) (wC (.int 2147483647))))
  (wRet (wOp rMod (wOp rFdiv (wOp rMod (wOp rPow (wOp rAdd (wVar 4) (wOp rMul (wC (.int 104729)) (wOp rIxP (wVar 0) (wC (.int 3))))) (wC (.int 5))) (wC (.int 2147483587))) (wC (.int 64))) (wVar 1)))))) (EDef E) (DDef Q) s M1 := by
      rintro cell s rfl M1 x1 rfl
      walk_at "ss"
      refine rIx_lst pupd_same rfl ?_
      walk_at "ss"
      refine rStL_i pupd_same rfl ?_
      rw [pupd_pupd]
      have last : ∀ (M2 : PH), M2 = pupd M a (.lst [.ref C, .int (x1 + 1), .int y, .int (z + 1)]) → (wSeq (wSet 4 (wOp rMod (wOp rPow (wOp rAdd (wOp rAdd (wOp rMod (wVar 3) (wC (.int 2147483629))) (wOp rMul (wC (.int 7919)) (wOp rIxP (wVar 0) (wC (.int 3))))) (wC (.int 1))) (wC (.int 5))) (wC (.int 2147483647))))
  (wRet (wOp rMod (wOp rFdiv (wOp rMod (wOp rPow (wOp rAdd (wVar 4) (wOp rMul (wC (.int 104729)) (wOp rIxP (wVar 0) (wC (.int 3))))) (wC (.int 5))) (wC (.int 2147483587))) (wC (.int 64))) (wVar 1)))) (EDef E) (DDef Q) [some (.ref a), some (.int many), none, some (.int cell), none] M2 := by
        rintro M2 rfl
        have b1 := fmod_lt (x := cell) (m := 2147483629) (by omega)
        have b2 := mul7919 (z := z + 1) (by omega) (by omega)
        walk_at "ss"
        refine rMod_int (by omega) ?_
        walk_at "ss"
        refine rIx_lst pupd_same rfl ?_
        walk_at "ss"
        refine rMul_int (cmul_l (by decide)) ?_
        walk_at "ss"
        refine rPow_int (cpow5 (by omega) (by omega)) ?_
        walk_at "ss"
        refine rMod_int (by omega) ?_
        walk_at "ss"
        refine rIx_lst pupd_same rfl ?_
        walk_at "ss"
        refine rMul_int (cmul_l (by decide)) ?_
        walk_at "ss"
        have b3 := fmod_lt (x := (cell.fmod 2147483629 + 7919 * (z + 1) + 1) ^ (5 : Int).toNat) (m := 2147483647) (by omega)
        refine rPow_int (cpow5 (by omega) (by omega)) ?_
        walk_at "ss"
        refine rMod_int (by omega) ?_
        walk_at "ss"
        refine rFdiv_int ⟨by omega, by omega⟩ ?_
        walk_at "ss"
        refine rMod_int (by omega) ?_
        exact fin _ _ _ (fmod_lt hm).1 (fmod_lt hm).2
      walk_at "ss"
      refine rPow_int ⟨by omega, by omega, by decide⟩ ?_
      walk_at "ss"
      refine ite_i (fun _ => ?_) fun _ => ?_
      · walk_at "ss"
        refine rIx_lst pupd_same rfl ?_
        walk_at "ss"
        refine rIx_lst pupd_same rfl ?_
        walk_at "ss"
        refine cLen_lst (hCu _) ?_
        walk_at "ss"
        refine ite_i (fun _ => ?_) fun _ => ?_
        · walk_at "ss"
          refine rFdiv_int ⟨by omega, by omega⟩ ?_
          walk_at "ss"
          refine rStL_i pupd_same rfl ?_
          walk_at "ss"
          refine rMod_int (by omega) ?_
          rw [pupd_pupd]
          exact fin _ _ _ (fmod_lt hm).1 (fmod_lt hm).2
        · exact last _ rfl
      · walk_at "ss"
        exact last _ rfl
    refine ite_i (fun hne => ?_) fun _ => ?_
    · have hns : ns.map PV.int ≠ [] := fun e => by
        rw [e] at hne
        have : eqP (.tup []) (.tup []) = true := eqP_iff.mpr rfl
        simp [this] at hne
      obtain ⟨p, hp⟩ := atI_mod (x := x) hns
      obtain ⟨v, _, rfl⟩ := List.mem_map.mp (atI_mem hp)
      walk_at "ss"
      refine rIx_lst pupd_same rfl ?_
      walk_at "ss"
      refine rIx_lst pupd_same rfl ?_
      walk_at "ss"
      refine rIx_lst pupd_same rfl ?_
      walk_at "ss"
      refine cLen_lst (hCu _) ?_
      walk_at "ss"
      refine rMod_int (by
        have : 0 < (ns.map PV.int).length := List.length_pos_iff.mpr hns
        omega) ?_
      refine rIx_lst (hCu _) hp ?_
      exact tail v _ rfl _ _ rfl
    · walk_at "s"
      exact tail 5 _ rfl _ _ rfl

end PL
set_option autoImplicit false
namespace PL
open PySem PySem.Spec L2
open PyProof.Rows hiding St
set_option maxHeartbeats 4000000
local macro_rules | `(tactic| walk_at "s") => `(tactic| first
  | (with_reducible refine wSeq_i ?_) | ((with_reducible refine' wVar_i ?a ?_); (case a => rfl)) | (with_reducible refine wC_i ?_) | (with_reducible refine wOp_i ?_) | (with_reducible refine wCons_i ?_) | (with_reducible refine wNil_i ?_)
  | (with_reducible refine wSet_i ?_) | (with_reducible refine wDrop_i ?_) | (with_reducible refine wRet_i ?_) | (with_reducible refine wIf_i ?_) | (with_reducible refine wNext_i ?_) | (with_reducible refine wTup_i ?_) | (with_reducible refine wNew_i ?_) | (with_reducible refine wDisp_i ?_)
  | (with_reducible refine wTest_i ?_) | (with_reducible refine qBl_i ?_) | (with_reducible refine wTru_i ?_) | (with_reducible refine truV_bl ?_) | (with_reducible refine wAndT_i ?_) | (with_reducible refine wOrT_i ?_) | (with_reducible refine wNotT_i ?_) | (with_reducible refine wAndV_i ?_) | (with_reducible refine wOrV_i ?_) | (with_reducible refine qAnd_i ?_) | (with_reducible refine qOr_i ?_)
  | (with_reducible refine wNotV_i ?_) | (with_reducible refine qNot_i ?_) | (with_reducible refine wIfE_i ?_) | (with_reducible refine ite_t ?_) | (with_reducible refine ite_f ?_) | (with_reducible refine wCall_i ?_) | (with_reducible refine wCallK_i ?_) | (with_reducible refine wCB_i ?_) | (with_reducible refine wCBL_i ?_) | (with_reducible refine wBMt_i ?_) | (with_reducible refine wStL_i ?_) | (with_reducible refine wEqL_i ?_)
  | (with_reducible refine wSl_i ?_) | (with_reducible refine wNoP_i ?_) | (with_reducible refine wPt_i ?_) | (with_reducible refine qPt_i ?_)
  | (with_reducible refine rAdd_int ?_) | (with_reducible refine rSub_int ?_) | (with_reducible refine rLt_int ?_) | (with_reducible refine rLt_str ?_) | (with_reducible refine rLe_int ?_) | (with_reducible refine rGt_int ?_) | (with_reducible refine rGe_int ?_)
  | (with_reducible refine rEq_str ?_) | (with_reducible refine rNe_str ?_) | (with_reducible refine rEq_int ?_)
  | (with_reducible refine wFor_i ?_) | (with_reducible refine wLc_i ?_) | (with_reducible refine iAny_i ?_) | (with_reducible refine qIt_tup ?_) | (with_reducible refine iRg1_i ?_) | (with_reducible refine gNm_i ?_) | (with_reducible refine gTp_i ?_) | (with_reducible refine gAll_c ?_) | (with_reducible refine gAll_n ?_) | (with_reducible refine cOne_i ?_) | (with_reducible refine cMany2_i ?_) | (with_reducible refine cMany3_i ?_) | (with_reducible refine wYes_i ?_)
  | (with_reducible refine wJoinL_i ?_) | (with_reducible refine qJn_i ?_) | (with_reducible refine wCatEL_i ?_) | (with_reducible refine wIxL_i ?_) | (with_reducible refine cTupL_i ?_) | (with_reducible refine cLenL_i ?_)
  | (with_reducible refine iZp_i ?_) | (with_reducible refine qZip_tup ?_) | (with_reducible refine wKIx_i ?_) | (with_reducible refine wBack_i ?_) | (with_reducible refine qBack_tup ?_) | (with_reducible refine wAsg_i ?_) | (with_reducible refine wPar_i ?_) | (with_reducible refine qPar_i ?_) | (with_reducible refine rLtX_int ?_) | (with_reducible refine rLtX_str ?_) | (with_reducible refine cList_tup ?_)
  | (with_reducible refine rIsX_bl ?_) | (with_reducible refine rIsX_nn ?_) | (with_reducible refine rIsX_tup ?_) | (with_reducible refine rIsX_str ?_) | (with_reducible refine rIsX_bn ?_)
  | (with_reducible refine wSrtK_i ?_) | (with_reducible refine wRepL_i ?_) | (with_reducible refine rLeX_int ?_) | (with_reducible refine rLeX_pair ?_) | (with_reducible refine cMax2_i ?_) | (with_reducible refine cMin2_i ?_) | (with_reducible refine iNw_i ?_) | (with_reducible refine wNeg_i ?_) | (with_reducible refine qNeg_i ?_)
  | (with_reducible refine cLen_tup ?_) | (with_reducible refine cTup_tup ?_))
local macro_rules | `(tactic| walk_at "ss") => `(tactic| repeat walk_at "s")
def p__law_feed : PSp := pN 1 fun ps M Q _ => ∃ (a : Addr) (ns : List Int), ps = [.ref a] ∧ M a = some (.rol (ns.map PV.int)) ∧ ns.length ≤ 63 ∧ ∀ (M' : PH) (a C : Addr), Fm M' M' a C 0 → Q (.ref a) M'
theorem mono__law_feed : MonoP p__law_feed := pN_mono fun ps M Q Q' E E' k _ ⟨a, ns, h1, h2, h3, h4⟩ => ⟨a, ns, h1, h2, h3, fun M' a C F => k _ _ (h4 M' a C F)⟩
theorem len__law_feed : LenP p__law_feed 1 := pN_len
/-- so many words, none twice, as they are sorted -/
def NmR (n : Nat) (r : PV) : Prop := ∃ ws us : List Str, r = .tup (ws.map PV.str) ∧ ws.length = n ∧ ws.Nodup ∧ (∀ w ∈ ws, Wd 8 w) ∧ ws.map PV.str = sortP (us.map PV.str)
def p__law_names : PSp := pFd 2 24 (fun rest _ => ∃ n : Nat, rest = [.int (n : Int)] ∧ n ≤ 16) fun rest _ r => ∃ n : Nat, rest = [.int (n : Int)] ∧ NmR n r
theorem mono__law_names : MonoP p__law_names := pFd_mono
theorem len__law_names : LenP p__law_names 2 := pFd_len
theorem use_names {M0 M : PH} {a C : Addr} {c : Nat} {many : Int} {Q : QE} {E} (F : Fm M0 M a C c) (hc : c + 24 ≤ 1000000000000) (hm : 0 ≤ many) (hm2 : many ≤ 16)
    (h : ∀ (ws us : List Str) (M' : PH), (ws.length : Int) = many → ws.Nodup → (∀ w ∈ ws, Wd 8 w) → ws.map PV.str = sortP (us.map PV.str) → Fm M0 M' a C (c + 24) → Fm M M' a C (c + 24) → Q (.tup (ws.map PV.str)) M') : p__law_names [.ref a, .int many] M Q E := by
  obtain ⟨n, rfl⟩ := Int.eq_ofNat_of_zero_le hm
  exact pFd_use F rfl hc ⟨n, rfl, by omega⟩ fun r M' ⟨m, e1, ws, us, e2, e3, e4, e5, e6⟩ F1 F2 => by
    cases e1; subst e2; exact h ws us M' (by omega) e4 e5 e6 F1 F2
def w__law_feed : WS :=
  (wRet (wNew (wDisp (wCons (wSl (wVar 0) wNoP (wPt (wC (.int 63)))) (wCons (wC (.int 0)) (wCons (wC (.int 0)) (wCons (wC (.int 0)) wNil)))))))
def w__law_names : WS :=
  (wSeq (wSet 2 (wC (.str "abcdefghijklmnopqrstuvwxyz")))
  (wSeq (wSet 4 (wNew (wLc (iRg1 (wCons (wC (.int 8)) wNil)) (.one 3) wYes (wCall p__law_draw (wCons (wVar 0) (wCons (wC (.int 26)) wNil)) []) [3])))
  (wSeq (wSet 5 (wNew (wDisp wNil)))
  (wSeq (wFor (iRg1 (wCons (wC (.int 8)) wNil)) (gNm 3) (wSeq (wSet 6 (wJoinL (wC (.str "")) (wLc (iAny (wSl (wVar 4) wNoP (wPt (wVar 3)))) (.one 7) wYes (wOp rIxP (wVar 2) (wVar 7)) [7])))
  (wSet 5 (wNew (wCatEL (wVar 5) (wDisp (wCons (wOp rAdd (wVar 6) (wOp rIxP (wVar 2) (wOp rIxP (wVar 4) (wVar 3)))) (wCons (wOp rAdd (wVar 6) (wOp rIxP (wVar 2) (wOp rMod (wOp rAdd (wOp rIxP (wVar 4) (wVar 3)) (wC (.int 1))) (wC (.int 26))))) wNil))))))))
  (wRet (wCB cTupL (wCBL cSortedL (wLc (iRg1 (wCons (wVar 1) wNil)) (.one 3) wYes (wBMt "list" mPopAt (wVar 5) (wCons (wCall p__law_draw (wCons (wVar 0) (wCons (wCB cLen (wCons (wVar 5) wNil)) wNil)) []) wNil)) [3]))))))))
theorem spec__law_feed : ∀ (args : List PV) (M : PH) (Q : QE) (E : PX1), args.length = 1 → p__law_feed args M Q E → w__law_feed (EDef E) (DDef Q) (startP 1 args) M := by
  rintro args M Q E - ⟨-, s, ns, rfl, hs, hl, q⟩
  unfold w__law_feed
  walk_at "ss"
  refine rSl_lst (xs := ns.map PV.int) (by unfold listAt; rw [hs]) fun D hD => ?_
  walk_at "ss"
  refine and_small (by simp) fun A hA hA2 => ?_
  have ne : D ≠ A := fun e => hA2 (e ▸ Wr.of pupd_same)
  have e63 : pcut (ns.map PV.int) none (some 63) = ns.map PV.int := by
    have := pcut_to (ns.map PV.int) 63
    rw [List.take_of_length_le (by simp; omega)] at this
    exact this
  rw [e63]
  refine ⟨pupd (pupd (fun _ => none) D (.lst (ns.map PV.int))) A (.lst [.ref D, .int 0, .int 0, .int 0]), fun b o e => ?_, q _ A D ⟨?_, ne, ?_, ⟨ns, 0, 0, 0, pupd_same, ?_, by omega, by omega, hl⟩, fun _ _ _ e => e⟩⟩
  · by_cases h1 : b = A
    · subst h1; rw [pupd_same] at e ⊢; exact e
    · rw [pupd_ne h1] at e ⊢
      by_cases h2 : b = D
      · subst h2; rw [pupd_same] at e ⊢; exact e
      · rw [pupd_ne h2] at e; cases e
  · exact NR.upd (NR.upd fun _ _ e => by cases e)
  · rw [pupd_ne ne, pupd_same]; simp
  · rw [pupd_ne ne, pupd_same]
theorem map_erase {α β : Type} (f : α → β) : ∀ (xs : List α) (i : Nat), (xs.map f).eraseIdx i = (xs.eraseIdx i).map f
  | [], _ => rfl
  | x :: r, 0 => rfl
  | x :: r, i + 1 => by rw [List.map_cons, List.eraseIdx_cons_succ, List.eraseIdx_cons_succ, List.map_cons, map_erase f r i]
theorem erase_perm {α : Type} : ∀ (xs : List α) (j : Nat) (w : α), xs[j]? = some w → (w :: xs.eraseIdx j).Perm xs
  | [], _, _, h => by simp at h
  | x :: r, 0, w, h => by simp at h; subst h; exact .refl _
  | x :: r, j + 1, w, h => by
    rw [List.eraseIdx_cons_succ]
    exact (List.Perm.swap x w _).trans ((erase_perm r j w (by simpa using h)).cons x)
theorem words_join (ns : List Nat) : (Str.join "" (ns.map chr1)).cps.toList = ns.map (97 + ·) := by
  rw [join0_cps, List.map_map]
  induction ns with
  | nil => rfl
  | cons n r ih => rw [List.map_cons, List.flatten_cons, ih]; rfl
theorem chr1_sum (ns : List Nat) : ((ns.map chr1).map (·.length)).sum = ns.length := by
  induction ns with
  | nil => rfl
  | cons n r ih => rw [List.map_cons, List.map_cons, List.sum_cons, ih, List.length_cons]; show 1 + _ = _; omega
theorem wd_of (ns : List Nat) (n k : Nat) (h : ∀ x ∈ ns, x < 26) (hn : n < 26) (hl : ns.length + 1 ≤ k) : Wd k (Str.join "" (ns.map chr1) ++ chr1 n) ∧ (Str.join "" (ns.map chr1) ++ chr1 n).length = ns.length + 1 := by
  have e : (Str.join "" (ns.map chr1) ++ chr1 n).cps.toList = ns.map (97 + ·) ++ [97 + n] := by rw [app_cps, words_join]; rfl
  have el : (Str.join "" (ns.map chr1) ++ chr1 n).length = ns.length + 1 := by rw [len_cps, e]; simp
  refine ⟨⟨by omega, by omega, fun c hc => ?_⟩, el⟩
  rw [e] at hc
  rcases List.mem_append.mp hc with hc | hc
  · obtain ⟨x, hx, rfl⟩ := List.mem_map.mp hc
    have := h x hx; omega
  · rw [List.mem_singleton] at hc; omega
theorem spec__law_names : ∀ (args : List PV) (M : PH) (Q : QE) (E : PX1), args.length = 2 → p__law_names args M Q E → w__law_names (EDef E) (DDef Q) (startP 8 args) M := by
  rintro args M Q E - ⟨-, a, C, c, rest, rfl, F, hc, ⟨n, rfl, hn⟩, q⟩
  unfold w__law_names
  walk_at "ss"
  refine qRg_i (by omega) (by omega) ?_
  -- the shapes
  refine lcW_k (fun i acc M' => Fm M M' a C (c + i) ∧ ∃ ns : List Nat, acc = ns.map (fun n => PV.int (n : Nat)) ∧ ns.length = i ∧ ∀ x ∈ ns, x < 26) (by rw [sizeLine_eq]; simp) ⟨F, [], rfl, rfl, nofun⟩ (fun _ _ _ _ _ => trivial) ?_ ?_
  · rintro i x acc M1 T N hi ⟨F1, ns, rfl, hl, hb⟩ hT -
    walk_at "ss"
    have hi8 : i < 8 := by have := (List.getElem?_eq_some_iff.mp hi).1; simpa using this
    refine use_draw F1 (by omega) (by omega) (by omega) fun r M2 h0 h1 F2 _ => hT _ _ ⟨F2, ns ++ [r.toNat], ?_, by simp [hl], ?_⟩
    · rw [List.map_append]; congr 1; show _ = [PV.int _]; rw [Int.toNat_of_nonneg h0]
    · intro x hx
      rcases List.mem_append.mp hx with hx | hx
      · exact hb x hx
      · rw [List.mem_singleton] at hx; omega
  rintro acc M1 ⟨F1, ns, rfl, hl, hb⟩ D1 - n1
  have hl8 : ns.length = 8 := by simpa using hl
  have F2 := F1.new (xs := ns.map fun n => PV.int (n : Nat)) n1
  have d1 := F1.fresh0 n1
  have na1 := (F1.fresh n1).2.1
  generalize hM2 : pupd M1 D1 _ = M2 at F2
  have e1 : M2 D1 = some (.lst (ns.map fun n => PV.int (n : Nat))) := by rw [← hM2, pupd_same]
  clear hM2
  walk_at "ss"
  refine and_small (by simp) fun D2 _ n2 => ?_
  have F3 := F2.new (xs := []) n2
  have d2 := F2.fresh0 n2
  have na2 := (F2.fresh n2).2.1
  have ne12 : D1 ≠ D2 := fun e => n2 (e ▸ Wr.of e1)
  have e2 : pupd M2 D2 (.lst []) D1 = some (.lst (ns.map fun n => PV.int (n : Nat))) := by rw [pupd_ne ne12]; exact e1
  walk_at "ss"
  refine qRg_i (by omega) (by omega) ?_
  refine forW_k (fun i s M' => ∃ (kk hd : Option PV) (B : Addr) (ws : List Str), s = [some (.ref a), some (.int n), some (.str abc), kk, some (.ref D1), some (.ref B), hd, none] ∧ Fm M M' a C (c + 8) ∧ M' D1 = some (.lst (ns.map fun n => PV.int (n : Nat))) ∧
    M' B = some (.lst (ws.map PV.str)) ∧ M B = none ∧ B ≠ a ∧ B ≠ D1 ∧ ws.length = 2 * i ∧ ws.Nodup ∧ ∀ w ∈ ws, Wd i w)
    ⟨none, none, D2, [], rfl, by simpa using F3, e2, pupd_same, d2, na2, ne12.symm, rfl, List.nodup_nil, nofun⟩ (fun _ _ _ _ _ => trivial) ?_ ?_
  · rintro i x s M3 N hx ⟨kk, hd, B, ws, rfl, G, eD1, eB, dB, naB, neB, hlen, hnd, hw⟩ hN
    have hi8 : i < 8 := by have := (List.getElem?_eq_some_iff.mp hx).1; simpa using this
    have ex : x = .int (i : Nat) := by
      rw [List.getElem?_map, List.getElem?_range (by simpa using hi8)] at hx
      simpa using hx.symm
    subst ex
    walk_at "ss"
    refine lSl_to eD1 fun D3 n3 => ?_
    have ne3 : B ≠ D3 := fun e => n3 (e ▸ Wr.of eB)
    have ne4 : D1 ≠ D3 := fun e => n3 (e ▸ Wr.of eD1)
    have G2 := G.new (xs := (ns.map fun n => PV.int (n : Nat)).take i) n3
    generalize hM4 : pupd M3 D3 (.lst ((ns.map fun n => PV.int (n : Nat)).take i)) = M4 at G2 ⊢
    have e4 : M4 D3 = some (.lst ((ns.map fun n => PV.int (n : Nat)).take i)) := by rw [← hM4, pupd_same]
    have eB4 : M4 B = some (.lst (ws.map PV.str)) := by rw [← hM4, pupd_ne ne3]; exact eB
    have eD4 : M4 D1 = some (.lst (ns.map fun n => PV.int (n : Nat))) := by rw [← hM4, pupd_ne ne4]; exact eD1
    clear hM4
    refine qIt_lst e4 ?_
    rw [← List.map_take]
    refine lcW_p (fun p => match p with | .int j => some (.str (chr1 j.toNat)) | _ => none) (by rw [sizeLine_eq]; simp; omega) (by rw [List.map_take]; exact listAt_lst e4) ?_ ?_
    · rintro x T F hx hT -
      obtain ⟨m, hm, rfl⟩ := List.mem_map.mp hx
      have := hb m (List.mem_of_mem_take hm)
      walk_at "ss"
      exact rIx_abc (by omega) (by omega) (hT _ rfl)
    · have ef : ((ns.take i).map fun n => PV.int (n : Nat)).filterMap (fun p => match p with | .int j => some (.str (chr1 j.toNat)) | _ => none) = ((ns.take i).map chr1).map PV.str := by
        rw [List.filterMap_map, List.map_map, ← List.filterMap_eq_map]
        congr 1
      rw [ef, strsOf_map]
      have hlt : (ns.take i).length = i := by rw [List.length_take]; omega
      refine ⟨?_, ?_⟩
      · rw [chr1_sum, List.length_map, hlt]; show i + i * 0 ≤ _; omega
      obtain ⟨v, hv⟩ : ∃ v, ns[i]? = some v := ⟨ns[i], List.getElem?_eq_getElem (by omega)⟩
      have hv26 := hb v (List.mem_of_getElem? hv)
      have hS : atI (ns.map fun n => PV.int (n : Nat)) (i : Int) = some (.int v) := atI_nat (by rw [List.getElem?_map, hv]; rfl)
      have hb' : ∀ x ∈ ns.take i, x < 26 := fun x hx => hb x (List.mem_of_mem_take hx)
      obtain ⟨m1, m2⟩ := fmod_lt (x := (v : Int) + 1) (m := 26) (by omega)
      have w1 := wd_of (ns.take i) v (i + 1) hb' hv26 (by omega)
      have w2 := wd_of (ns.take i) (((v : Int) + 1).fmod 26).toNat (i + 1) hb' (by omega) (by omega)
      walk_at "ss"
      refine rIx_lst eD4 hS ?_
      refine rIx_abc (by omega) (by omega) ?_
      have hz : ∀ m : Nat, (Str.join "" ((ns.take i).map chr1)).length + (chr1 m).length ≤ sizeLine := fun m => by
        rw [sizeLine_eq, len_cps, words_join]; simp; show _ + 1 ≤ _; omega
      refine rAdd_str (hz _) ?_
      walk_at "ss"
      refine rIx_lst eD4 hS ?_
      walk_at "ss"
      refine rMod_int (by omega) ?_
      refine rIx_abc (by omega) (by omega) ?_
      refine rAdd_str (hz _) ?_
      walk_at "ss"
      refine and_small (by simp) ?_
      refine qCat_i eB4 (by rw [sizeLine_eq]; simp; omega) fun D5 _ n5 => ?_
      have ne5 : D1 ≠ D5 := fun e => n5 (e ▸ Wr.of eD4)
      refine hN _ _ ⟨_, _, D5, ws ++ [Str.join "" ((ns.take i).map chr1) ++ chr1 v, Str.join "" ((ns.take i).map chr1) ++ chr1 (((v : Int) + 1).fmod 26).toNat], rfl, G2.new n5, by rw [pupd_ne ne5]; exact eD4, ?_, G2.fresh0 n5, (G2.fresh n5).2.1, ne5.symm, ?_, ?_, ?_⟩
      · rw [pupd_same, List.map_append]; rfl
      · simp [hlen]; omega
      · rw [List.nodup_append]
        refine ⟨hnd, ?_, ?_⟩
        · rw [List.nodup_cons, List.mem_singleton]
          refine ⟨fun e => ?_, by simp⟩
          have : (Str.join "" ((ns.take i).map chr1) ++ chr1 v).cps.toList = (Str.join "" ((ns.take i).map chr1) ++ chr1 (((v : Int) + 1).fmod 26).toNat).cps.toList := by rw [e]
          rw [app_cps, app_cps] at this
          have := List.append_cancel_left this
          have h2 : 97 + v = 97 + (((v : Int) + 1).fmod 26).toNat := by
            have h3 : [97 + v] = [97 + (((v : Int) + 1).fmod 26).toNat] := this
            exact List.head_eq_of_cons_eq h3
          rw [Int.fmod_eq_emod_of_nonneg _ (by omega)] at h2
          omega
        · intro x hx y hy e
          have h1 := (hw x hx).2.1
          have h2 : y.length = i + 1 := by
            rcases List.mem_cons.mp hy with rfl | hy
            · rw [w1.2, hlt]
            · rw [List.mem_singleton] at hy; subst hy; rw [w2.2, hlt]
          rw [e] at h1; omega
      · intro w hw'
        rcases List.mem_append.mp hw' with h | h
        · exact ⟨(hw w h).1, Nat.le_succ_of_le (hw w h).2.1, (hw w h).2.2⟩
        · rcases List.mem_cons.mp h with rfl | h
          · exact w1.1
          · rw [List.mem_singleton] at h; subst h; exact w2.1
  rintro s M3 ⟨kk, hd, B, ws, rfl, G, eD1, eB, dB, naB, neB, hlen, hnd, hw⟩
  have hl16 : ws.length = 16 := by simpa using hlen
  have hw8 : ∀ w ∈ ws, Wd 8 w := by simpa using hw
  walk_at "ss"
  refine qRg_i (by omega) (by omega) ?_
  refine lcW_k (fun i acc M' => ∃ us rs : List Str, acc = us.map PV.str ∧ Fm M M' a C (c + 8 + i) ∧ M' B = some (.lst (rs.map PV.str)) ∧ us.length = i ∧ (us ++ rs).Perm ws) (by rw [sizeLine_eq]; simp; omega) ⟨[], ws, rfl, G, eB, rfl, .refl _⟩ (fun _ _ _ _ _ => trivial) ?_ ?_
  · rintro i x acc M4 T F hx ⟨us, rs, rfl, G4, eB4, hu, hp⟩ hT -
    have hin : i < n := by have := (List.getElem?_eq_some_iff.mp hx).1; simpa using this
    have hlr := hp.length_eq
    rw [List.length_append] at hlr
    walk_at "ss"
    refine ⟨tyP_lst eB4, ?_⟩
    walk_at "ss"
    refine cLen_lst eB4 ?_
    refine use_draw G4 (by omega) (by simp; omega) (by simp; omega) fun r M5 h0 h1 G5 G5' => ?_
    have eB5 := G5'.keep B _ naB eB4
    obtain ⟨j, rfl⟩ := Int.eq_ofNat_of_zero_le h0
    rw [List.length_map] at h1
    obtain ⟨w, hwj⟩ : ∃ w, rs[j]? = some w := ⟨rs[j], List.getElem?_eq_getElem (by omega)⟩
    refine mPopAt_i eB5 (k := j) (p := .str w) (by rw [List.getElem?_map, hwj]; rfl) (by simp; omega) ?_
    refine hT _ _ ⟨us ++ [w], rs.eraseIdx j, by simp, G5.set dB naB, ?_, by simp [hu], ?_⟩
    · rw [pupd_same, map_erase]
    · rw [List.append_assoc]
      refine .trans (List.Perm.append_left us ?_) hp
      exact erase_perm rs j w hwj
  rintro acc M4 ⟨us, rs, rfl, G4, eB4, hu, hp⟩
  walk_at "ss"
  refine cSortedL_i (srtb_strs us) ?_
  obtain ⟨vs, ev, pv⟩ := sortP_strs us
  have hun : us.length = n := by simpa using hu
  have hnd' : us.Nodup := (List.nodup_append.mp ((hp.nodup_iff).mpr hnd)).1
  refine Fm.fin G4 (c := c + 24) (by simp; omega) (fun L H => q _ L ⟨n, rfl, vs, us, by rw [ev], by rw [pv.length_eq, hun], (pv.nodup_iff).mpr hnd', fun w hw' => hw8 w (hp.mem_iff.mp (List.mem_append_left _ (pv.mem_iff.mp hw'))), ev.symm⟩ H) F.nr

end PL
set_option autoImplicit false
namespace PL
open PySem PySem.Spec L2
open PyProof.Rows hiding St
set_option maxHeartbeats 4000000
local macro_rules | `(tactic| walk_at "s") => `(tactic| first
  | (with_reducible refine wSeq_i ?_) | ((with_reducible refine' wVar_i ?a ?_); (case a => rfl)) | (with_reducible refine wC_i ?_) | (with_reducible refine wOp_i ?_) | (with_reducible refine wCons_i ?_) | (with_reducible refine wNil_i ?_)
  | (with_reducible refine wSet_i ?_) | (with_reducible refine wDrop_i ?_) | (with_reducible refine wRet_i ?_) | (with_reducible refine wIf_i ?_) | (with_reducible refine wNext_i ?_) | (with_reducible refine wTup_i ?_) | (with_reducible refine wNew_i ?_) | (with_reducible refine wDisp_i ?_)
  | (with_reducible refine wTest_i ?_) | (with_reducible refine qBl_i ?_) | (with_reducible refine wTru_i ?_) | (with_reducible refine truV_bl ?_) | (with_reducible refine wAndT_i ?_) | (with_reducible refine wOrT_i ?_) | (with_reducible refine wNotT_i ?_) | (with_reducible refine wAndV_i ?_) | (with_reducible refine wOrV_i ?_) | (with_reducible refine qAnd_i ?_) | (with_reducible refine qOr_i ?_)
  | (with_reducible refine wNotV_i ?_) | (with_reducible refine qNot_i ?_) | (with_reducible refine wIfE_i ?_) | (with_reducible refine ite_t ?_) | (with_reducible refine ite_f ?_) | (with_reducible refine wCall_i ?_) | (with_reducible refine wCallK_i ?_) | (with_reducible refine wCB_i ?_) | (with_reducible refine wCBL_i ?_) | (with_reducible refine wBMt_i ?_) | (with_reducible refine wStL_i ?_) | (with_reducible refine wEqL_i ?_)
  | (with_reducible refine wSl_i ?_) | (with_reducible refine wNoP_i ?_) | (with_reducible refine wPt_i ?_) | (with_reducible refine qPt_i ?_)
  | (with_reducible refine rAdd_int ?_) | (with_reducible refine rSub_int ?_) | (with_reducible refine rLt_int ?_) | (with_reducible refine rLt_str ?_) | (with_reducible refine rLe_int ?_) | (with_reducible refine rGt_int ?_) | (with_reducible refine rGe_int ?_)
  | (with_reducible refine rEq_str ?_) | (with_reducible refine rNe_str ?_) | (with_reducible refine rEq_int ?_)
  | (with_reducible refine wFor_i ?_) | (with_reducible refine wLc_i ?_) | (with_reducible refine iAny_i ?_) | (with_reducible refine qIt_tup ?_) | (with_reducible refine iRg1_i ?_) | (with_reducible refine gNm_i ?_) | (with_reducible refine gTp_i ?_) | (with_reducible refine gAll_c ?_) | (with_reducible refine gAll_n ?_) | (with_reducible refine cOne_i ?_) | (with_reducible refine cMany2_i ?_) | (with_reducible refine cMany3_i ?_) | (with_reducible refine wYes_i ?_)
  | (with_reducible refine wJoinL_i ?_) | (with_reducible refine qJn_i ?_) | (with_reducible refine wCatEL_i ?_) | (with_reducible refine wIxL_i ?_) | (with_reducible refine cTupL_i ?_) | (with_reducible refine cLenL_i ?_)
  | (with_reducible refine iZp_i ?_) | (with_reducible refine qZip_tup ?_) | (with_reducible refine wKIx_i ?_) | (with_reducible refine wBack_i ?_) | (with_reducible refine qBack_tup ?_) | (with_reducible refine wAsg_i ?_) | (with_reducible refine wPar_i ?_) | (with_reducible refine qPar_i ?_) | (with_reducible refine rLtX_int ?_) | (with_reducible refine rLtX_str ?_) | (with_reducible refine cList_tup ?_)
  | (with_reducible refine rIsX_bl ?_) | (with_reducible refine rIsX_nn ?_) | (with_reducible refine rIsX_tup ?_) | (with_reducible refine rIsX_str ?_) | (with_reducible refine rIsX_bn ?_)
  | (with_reducible refine wSrtK_i ?_) | (with_reducible refine wRepL_i ?_) | (with_reducible refine rLeX_int ?_) | (with_reducible refine rLeX_pair ?_) | (with_reducible refine cMax2_i ?_) | (with_reducible refine cMin2_i ?_) | (with_reducible refine iNw_i ?_) | (with_reducible refine wNeg_i ?_) | (with_reducible refine qNeg_i ?_)
  | (with_reducible refine cLen_tup ?_) | (with_reducible refine cTup_tup ?_))
local macro_rules | `(tactic| walk_at "ss") => `(tactic| repeat walk_at "s")
/-! ## words, pages -/
structure W8 (M : PH) (a w : Addr) (ws : List Str) : Prop where
  at_ : M w = some (.lst (ws.map PV.str))
  ne : w ≠ a
  len : ws.length = 8
  wd : ∀ x ∈ ws, Wd 8 x
theorem W8.on {M M' : PH} {a w C : Addr} {c : Nat} {ws : List Str} (h : W8 M a w ws) (F : Fm M M' a C c) : W8 M' a w ws := ⟨F.keep _ _ h.ne h.at_, h.ne, h.len, h.wd⟩
theorem Fm.at_a {M M' : PH} {a C : Addr} {c : Nat} (F : Fm M M' a C c) : M' a ≠ none := by
  obtain ⟨ns, x, y, z, h1, _⟩ := F.fd
  rw [h1]; simp
def p__law_words : PSp := pFg (ι := Unit) 1 24 (fun _ rest _ _ => rest = []) fun _ M r M' => ∃ (D : Addr) (ws : List Str), r = .ref D ∧ M D = none ∧ M' D = some (.lst (ws.map PV.str)) ∧ ws.length = 8 ∧ ∀ x ∈ ws, Wd 8 x
theorem mono__law_words : MonoP p__law_words := pFg_mono
theorem len__law_words : LenP p__law_words 1 := pFg_len
def p__law_some : PSp := pFg (ι := Addr × List Str × Nat) 3 8 (fun t rest M a => rest = [.ref t.1, .int (t.2.2 : Nat)] ∧ W8 M a t.1 t.2.1) fun t M r M' => ∃ us : List Str, r = .tup (us.map PV.str) ∧ us.Sublist t.2.1 ∧ us.length ≤ t.2.2
theorem mono__law_some : MonoP p__law_some := pFg_mono
theorem len__law_some : LenP p__law_some 3 := pFg_len
/-- a tuple of texts, of such, of such -/
def S1 (p : PV) : Prop := ∃ us : List Str, p = .tup (us.map PV.str) ∧ us.length ≤ 8 ∧ ∀ u ∈ us, PyData.strOk u = true ∧ u.length ≤ 8
def S2 (p : PV) : Prop := ∃ ps : List PV, p = .tup ps ∧ ps.length ≤ 3 ∧ ∀ q ∈ ps, S1 q
def S3 (p : PV) : Prop := ∃ ps : List PV, p = .tup ps ∧ ps.length ≤ 3 ∧ ∀ q ∈ ps, S2 q
theorem strOk_nil : PyData.strOk "" = true := strOk_of (by decide)
theorem s1_cut : S1 (.tup [.str ""]) := ⟨[""], rfl, by simp, fun u hu => by rw [List.mem_singleton] at hu; subst hu; exact ⟨strOk_nil, by decide⟩⟩
theorem s1_sub {us ws : List Str} (h : us.Sublist ws) (l : ws.length = 8) (w : ∀ x ∈ ws, Wd 8 x) : S1 (.tup (us.map PV.str)) := ⟨us, rfl, by have := h.length_le; omega, fun u hu => ⟨(w u (h.subset hu)).ok, (w u (h.subset hu)).2.1⟩⟩
def p__law_seen : PSp := pFg (ι := Addr × List Str) 2 90 (fun t rest M a => rest = [.ref t.1] ∧ W8 M a t.1 t.2) fun t M r M' => S3 r
theorem mono__law_seen : MonoP p__law_seen := pFg_mono
theorem len__law_seen : LenP p__law_seen 2 := pFg_len
/-- what stands behind the kind of a page -/
inductive KR : Str → List PV → Prop where
  | pm (k : Str) (hk : k = "print" ∨ k = "mix") (w : Str) (hw : Wd 8 w) (m : Int) (h0 : 0 < m) (h1 : m ≤ 1000000000000000000000000000001) : KR k [.str w, .int m]
  | mc (k : Str) (hk : k = "mend" ∨ k = "cut") (w x : Str) (hw : Wd 8 w) (hx : Wd 8 x) : KR k [.str w, .str x]
  | turn (w : Str) (hw : Wd 8 w) : KR "turn" [.str w]
  | bind (m : Int) (h0 : 0 < m) (h1 : m ≤ 1000000000000000000000000000001) : KR "bind" [.int m]
  | seen (w : Str) (hw : Wd 8 w) (v : PV) (hv : S3 v) : KR "seen" [.str w, v]
  | lot (v x : PV) (hv : S1 v) (hx : S1 x) : KR "lot" [v, x]
def Pg (p : PV) : Prop := ∃ (d n : Int) (k : Str) (rest : List PV), p = .tup (.int d :: .int n :: .str k :: rest) ∧ 0 ≤ d ∧ d ≤ 99999 ∧ 0 ≤ n ∧ n ≤ 999 ∧ KR k rest
/-- a page before it is bent: its many is not the greatest -/
def PgS (p : PV) : Prop := ∃ (d n : Int) (k : Str) (rest : List PV), p = .tup (.int d :: .int n :: .str k :: rest) ∧ 0 ≤ d ∧ d ≤ 99999 ∧ 0 ≤ n ∧ n ≤ 999 ∧ KR k rest ∧ ∀ (w : Str) (m : Int), rest = [.str w, .int m] → m ≤ 1000000000000000000000000000000
theorem PgS.pg {p : PV} (h : PgS p) : Pg p := let ⟨d, n, k, r, a, b, c, e, f, g, _⟩ := h; ⟨d, n, k, r, a, b, c, e, f, g⟩
def p__law_page : PSp := pFg (ι := Addr × List Str) 2 130 (fun t rest M a => rest = [.ref t.1] ∧ W8 M a t.1 t.2) fun t M r M' => PgS r
theorem mono__law_page : MonoP p__law_page := pFg_mono
theorem len__law_page : LenP p__law_page 2 := pFg_len
theorem use_some {M0 M : PH} {a C w : Addr} {c : Nat} {ws : List Str} {n : Nat} {Q : QE} {E} (F : Fm M0 M a C c) (hc : c + 8 ≤ 1000000000000) (W : W8 M a w ws)
    (h : ∀ (us : List Str) (M' : PH), us.Sublist ws → us.length ≤ n → Fm M0 M' a C (c + 8) → Fm M M' a C (c + 8) → Q (.tup (us.map PV.str)) M') : p__law_some [.ref a, .ref w, .int (n : Nat)] M Q E :=
  pFg_use (w, ws, n) F rfl hc ⟨rfl, W⟩ fun r M' ⟨us, e, h1, h2⟩ F1 F2 => by subst e; exact h us M' h1 h2 F1 F2
theorem use_seen {M0 M : PH} {a C w : Addr} {c : Nat} {ws : List Str} {Q : QE} {E} (F : Fm M0 M a C c) (hc : c + 90 ≤ 1000000000000) (W : W8 M a w ws)
    (h : ∀ (v : PV) (M' : PH), S3 v → Fm M0 M' a C (c + 90) → Fm M M' a C (c + 90) → Q v M') : p__law_seen [.ref a, .ref w] M Q E :=
  pFg_use (w, ws) F rfl hc ⟨rfl, W⟩ fun r M' e F1 F2 => h r M' e F1 F2
def w__law_words : WS :=
  (wRet (wNew (wCBL cList (wCons (wCall p__law_names (wCons (wVar 0) (wCons (wC (.int 8)) wNil)) []) wNil))))
def w__law_some : WS :=
  (wRet (wCB cTup (wCons (wSl (wNew (wLc (iAny (wVar 1)) (.one 3) (wTest (wOp rEq (wCall p__law_draw (wCons (wVar 0) (wCons (wC (.int 3)) wNil)) []) (wC (.int 0)))) (wVar 3) [3])) wNoP (wPt (wVar 2))) wNil)))
def w__law_seen : WS :=
  (wSeq (wSet 2 (wNew (wDisp wNil)))
  (wSeq (wFor (iRg1 (wCons (wCall p__law_draw (wCons (wVar 0) (wCons (wC (.int 4)) wNil)) []) wNil)) (gNm 3) (wSeq (wSet 4 (wNew (wLc (iRg1 (wCons (wCall p__law_draw (wCons (wVar 0) (wCons (wC (.int 4)) wNil)) []) wNil)) (.one 5) wYes (wIxL (wDisp (wCons (wTup (wCons (wC (.str "")) wNil)) (wCons (wCall p__law_some (wCons (wVar 0) (wCons (wVar 1) (wCons (wC (.int 4)) wNil))) []) wNil))) (wCall p__law_draw (wCons (wVar 0) (wCons (wC (.int 2)) wNil)) [])) [5])))
  (wDrop (wBMt "list" mAppend (wVar 2) (wCons (wCB cTup (wCons (wVar 4) wNil)) wNil)))))
  (wRet (wCB cTup (wCons (wVar 2) wNil)))))
theorem spec__law_words : ∀ (args : List PV) (M : PH) (Q : QE) (E : PX1), args.length = 1 → p__law_words args M Q E → w__law_words (EDef E) (DDef Q) (startP 1 args) M := by
  rintro args M Q E - ⟨-, a, C, c, rest, ⟨⟩, rfl, F, hc, rfl, q⟩
  unfold w__law_words
  walk_at "ss"
  refine use_names F (by omega) (by omega) (by omega) fun ws us M1 hl hnd hwd hso F1 _ => ?_
  walk_at "ss"
  refine ⟨by rw [sizeLine_eq, List.length_map]; omega, fun D _ nD => ?_⟩
  refine rt_here (q _ _ (F1.new nD) ⟨D, ws, rfl, F1.fresh0 nD, pupd_same, by omega, hwd⟩)
theorem spec__law_some : ∀ (args : List PV) (M : PH) (Q : QE) (E : PX1), args.length = 3 → p__law_some args M Q E → w__law_some (EDef E) (DDef Q) (startP 4 args) M := by
  rintro args M Q E - ⟨-, a, C, c, rest, ⟨w, ws, n⟩, rfl, F, hc, ⟨rfl, W⟩, q⟩
  dsimp only at W q
  unfold w__law_some
  walk_at "ss"
  refine qIt_lst W.at_ ?_
  refine lcW_k (xs := ws.map PV.str) (fun i acc M' => ∃ us : List Str, acc = us.map PV.str ∧ us.Sublist (ws.take i) ∧ Fm M M' a C (c + i)) (by rw [sizeLine_eq, List.length_map, W.len]; omega) ⟨[], rfl, List.nil_sublist _, F⟩ (fun i acc M' _ ⟨us, _, _, F'⟩ => listAt_lst (F'.keep _ _ W.ne W.at_)) ?_ ?_
  · rintro i x acc M1 T N hx ⟨us, rfl, hs, F1⟩ hT hF
    rw [List.getElem?_map] at hx
    obtain ⟨z, hz, rfl⟩ := Option.map_eq_some_iff.mp hx
    have hi := (List.getElem?_eq_some_iff.mp hz).1
    have hl := W.len
    walk_at "ss"
    refine use_draw F1 (by omega) (by omega) (by omega) fun r M2 r0 r1 F2 F2' => ?_
    walk_at "ss"
    refine ite_i (fun _ => ?_) fun _ => ?_
    · walk_at "ss"
      exact hT _ _ ⟨us ++ [z], by simp, by rw [List.take_add_one, hz]; exact hs.append_right _, F2⟩
    · exact hF _ ⟨us, rfl, by rw [List.take_add_one]; exact hs.trans (List.sublist_append_left _ _), F2⟩
  rintro acc M1 ⟨us, rfl, hs, F1⟩ D - nD
  have hl := W.len
  rw [List.length_map] at hs F1
  rw [List.take_of_length_le (Nat.le_refl _)] at hs
  walk_at "ss"
  refine lSl_to pupd_same fun D2 n2 => ?_
  walk_at "ss"
  refine cTup_lst pupd_same ?_
  rw [← List.map_take]
  exact rt_here (q _ _ (((F1.new nD).new n2).up (by omega)) ⟨us.take n, rfl, (List.take_sublist n us).trans hs, by rw [List.length_take]; omega⟩)
theorem spec__law_seen : ∀ (args : List PV) (M : PH) (Q : QE) (E : PX1), args.length = 2 → p__law_seen args M Q E → w__law_seen (EDef E) (DDef Q) (startP 6 args) M := by
  rintro args M Q E - ⟨-, a, C, c, rest, ⟨w, ws⟩, rfl, F, hc, ⟨rfl, W⟩, q⟩
  dsimp only at W q
  unfold w__law_seen
  walk_at "ss"
  refine and_small (by simp) fun D _ nD => ?_
  have dD := F.fresh0 nD
  have naD := (F.fresh nD).2.1
  have F1 := F.new (xs := []) nD
  have eD : pupd M D (.lst []) D = some (.lst []) := pupd_same
  generalize pupd M D (.lst []) = M1 at F1 eD ⊢
  walk_at "ss"
  refine use_draw F1 (by omega) (by omega) (by omega) fun many M2 m0 m1 F2 F2' => ?_
  have eD2 := F2'.keep _ _ naD eD
  walk_at "ss"
  refine qRg_i (by omega) (by omega) ?_
  refine forW_k (fun i s M' => ∃ (z3 z4 z5 : Option PV) (ps : List PV), s = [some (.ref a), some (.ref w), some (.ref D), z3, z4, z5] ∧ Fm M M' a C (c + 1 + 28 * i) ∧ M' D = some (.lst ps) ∧ ps.length ≤ i ∧ ∀ q ∈ ps, S2 q)
    ⟨none, none, none, [], rfl, F2, eD2, by simp, nofun⟩ (fun _ _ _ _ _ => trivial) ?_ ?_
  · rintro i x s M3 N hx ⟨z3, z4, z5, ps, rfl, F3, eD3, hl, hps⟩ hN
    have hi : i < 3 := by
      have := (List.getElem?_eq_some_iff.mp hx).1
      simp at this; omega
    walk_at "ss"
    refine use_draw F3 (by omega) (by omega) (by omega) fun jj M4 j0 j1 F4 F4' => ?_
    have eD4 := F4'.keep _ _ naD eD3
    walk_at "ss"
    refine qRg_i (by omega) (by omega) ?_
    refine lcW_k (fun j acc M' => Fm M M' a C (c + 1 + 28 * i + 1 + 9 * j) ∧ M' D = some (.lst ps) ∧ acc.length ≤ j ∧ ∀ q ∈ acc, S1 q) (by rw [sizeLine_eq]; simp; omega) ⟨F4, eD4, by simp, nofun⟩ (fun _ _ _ _ _ => trivial) ?_ ?_
    · rintro j y acc M5 T N' hy ⟨F5, eD5, hal, hacc⟩ hT -
      have hj : j < 3 := by
        have := (List.getElem?_eq_some_iff.mp hy).1
        simp at this; omega
      walk_at "ss"
      refine and_small (by simp) ?_
      walk_at "ss"
      refine use_some (n := 4) F5 (by omega) (W.on F5) fun us M6 hs hul F6 F6' => ?_
      have eD6 := F6'.keep _ _ naD eD5
      walk_at "ss"
      refine and_small (by simp) ?_
      walk_at "ss"
      refine use_draw F6 (by omega) (by omega) (by omega) fun r M7 r0 r1 F7 F7' => ?_
      have eD7 := F7'.keep _ _ naD eD6
      have r01 : r = 0 ∨ r = 1 := by omega
      rcases r01 with rfl | rfl
      · refine qIxL_i (p := .tup [.str ""]) rfl (hT _ _ ⟨F7, eD7, by simp; omega, fun q hq => ?_⟩)
        rcases List.mem_append.mp hq with hq | hq
        · exact hacc q hq
        · rw [List.mem_singleton] at hq; subst hq; exact s1_cut
      · refine qIxL_i (p := .tup (us.map PV.str)) rfl (hT _ _ ⟨F7, eD7, by simp; omega, fun q hq => ?_⟩)
        rcases List.mem_append.mp hq with hq | hq
        · exact hacc q hq
        · rw [List.mem_singleton] at hq; subst hq; exact s1_sub hs W.len W.wd
    rintro acc M5 ⟨F5, eD5, hal, hacc⟩ D2 - n2
    have hal3 : acc.length ≤ 3 := by simp at hal; omega
    have F6 := F5.new (xs := acc) n2
    have eD6 := (F5.self.new (xs := acc) n2).keep _ _ naD eD5
    have e2 : pupd M5 D2 (.lst acc) D2 = some (.lst acc) := pupd_same
    generalize pupd M5 D2 (.lst acc) = M6 at F6 eD6 e2 ⊢
    walk_at "ss"
    refine ⟨tyP_lst eD6, ?_⟩
    walk_at "ss"
    refine cTup_lst e2 ?_
    walk_at "ss"
    refine mAppend_i eD6 (by rw [sizeLine_eq]; omega) ?_
    refine hN _ _ ⟨_, _, _, ps ++ [.tup acc], rfl, (F6.set dD naD).up (by simp; omega), pupd_same, by simp; omega, fun q hq => ?_⟩
    rcases List.mem_append.mp hq with hq | hq
    · exact hps q hq
    · rw [List.mem_singleton] at hq; subst hq; exact ⟨acc, rfl, hal3, hacc⟩
  rintro s M3 ⟨z3, z4, z5, ps, rfl, F3, eD3, hl, hps⟩
  have hl3 : ps.length ≤ 3 := by simp at hl; omega
  walk_at "ss"
  refine cTup_lst eD3 ?_
  exact rt_here (q _ _ (F3.up (by simp; omega)) ⟨ps, rfl, hl3, hps⟩)

end PL
set_option autoImplicit false
namespace PL
open PySem PySem.Spec L2
open PyProof.Rows hiding St
set_option maxHeartbeats 4000000
local macro_rules | `(tactic| walk_at "s") => `(tactic| first
  | (with_reducible refine wSeq_i ?_) | ((with_reducible refine' wVar_i ?a ?_); (case a => rfl)) | (with_reducible refine wC_i ?_) | (with_reducible refine wOp_i ?_) | (with_reducible refine wCons_i ?_) | (with_reducible refine wNil_i ?_)
  | (with_reducible refine wSet_i ?_) | (with_reducible refine wDrop_i ?_) | (with_reducible refine wRet_i ?_) | (with_reducible refine wIf_i ?_) | (with_reducible refine wNext_i ?_) | (with_reducible refine wTup_i ?_) | (with_reducible refine wNew_i ?_) | (with_reducible refine wDisp_i ?_)
  | (with_reducible refine wTest_i ?_) | (with_reducible refine qBl_i ?_) | (with_reducible refine wTru_i ?_) | (with_reducible refine truV_bl ?_) | (with_reducible refine wAndT_i ?_) | (with_reducible refine wOrT_i ?_) | (with_reducible refine wNotT_i ?_) | (with_reducible refine wAndV_i ?_) | (with_reducible refine wOrV_i ?_) | (with_reducible refine qAnd_i ?_) | (with_reducible refine qOr_i ?_)
  | (with_reducible refine wNotV_i ?_) | (with_reducible refine qNot_i ?_) | (with_reducible refine wIfE_i ?_) | (with_reducible refine ite_t ?_) | (with_reducible refine ite_f ?_) | (with_reducible refine wCall_i ?_) | (with_reducible refine wCallK_i ?_) | (with_reducible refine wCB_i ?_) | (with_reducible refine wCBL_i ?_) | (with_reducible refine wBMt_i ?_) | (with_reducible refine wStL_i ?_) | (with_reducible refine wEqL_i ?_)
  | (with_reducible refine wSl_i ?_) | (with_reducible refine wNoP_i ?_) | (with_reducible refine wPt_i ?_) | (with_reducible refine qPt_i ?_)
  | (with_reducible refine rAdd_int ?_) | (with_reducible refine rSub_int ?_) | (with_reducible refine rLt_int ?_) | (with_reducible refine rLt_str ?_) | (with_reducible refine rLe_int ?_) | (with_reducible refine rGt_int ?_) | (with_reducible refine rGe_int ?_)
  | (with_reducible refine rEq_str ?_) | (with_reducible refine rNe_str ?_) | (with_reducible refine rEq_int ?_)
  | (with_reducible refine wFor_i ?_) | (with_reducible refine wLc_i ?_) | (with_reducible refine iAny_i ?_) | (with_reducible refine qIt_tup ?_) | (with_reducible refine iRg1_i ?_) | (with_reducible refine gNm_i ?_) | (with_reducible refine gTp_i ?_) | (with_reducible refine gAll_c ?_) | (with_reducible refine gAll_n ?_) | (with_reducible refine cOne_i ?_) | (with_reducible refine cMany2_i ?_) | (with_reducible refine cMany3_i ?_) | (with_reducible refine wYes_i ?_)
  | (with_reducible refine wJoinL_i ?_) | (with_reducible refine qJn_i ?_) | (with_reducible refine wCatEL_i ?_) | (with_reducible refine wIxL_i ?_) | (with_reducible refine cTupL_i ?_) | (with_reducible refine cLenL_i ?_)
  | (with_reducible refine iZp_i ?_) | (with_reducible refine qZip_tup ?_) | (with_reducible refine wKIx_i ?_) | (with_reducible refine wBack_i ?_) | (with_reducible refine qBack_tup ?_) | (with_reducible refine wAsg_i ?_) | (with_reducible refine wPar_i ?_) | (with_reducible refine qPar_i ?_) | (with_reducible refine rLtX_int ?_) | (with_reducible refine rLtX_str ?_) | (with_reducible refine cList_tup ?_)
  | (with_reducible refine rIsX_bl ?_) | (with_reducible refine rIsX_nn ?_) | (with_reducible refine rIsX_tup ?_) | (with_reducible refine rIsX_str ?_) | (with_reducible refine rIsX_bn ?_)
  | (with_reducible refine wSrtK_i ?_) | (with_reducible refine wRepL_i ?_) | (with_reducible refine rLeX_int ?_) | (with_reducible refine rLeX_pair ?_) | (with_reducible refine cMax2_i ?_) | (with_reducible refine cMin2_i ?_) | (with_reducible refine iNw_i ?_) | (with_reducible refine wNeg_i ?_) | (with_reducible refine qNeg_i ?_)
  | (with_reducible refine cLen_tup ?_) | (with_reducible refine cTup_tup ?_))
local macro_rules | `(tactic| walk_at "ss") => `(tactic| repeat walk_at "s")
theorem atI_in {xs : List PV} {i : Int} (h0 : 0 ≤ i) (h1 : i < xs.length) : ∃ p, atI xs i = some p ∧ p ∈ xs := by
  obtain ⟨n, rfl⟩ := Int.eq_ofNat_of_zero_le h0
  exact ⟨xs[n]'(by omega), atI_nat (List.getElem?_eq_getElem _), List.getElem_mem _⟩
def kds : List Str := ["print", "mend", "turn", "mix", "cut", "bind", "seen", "lot"]
theorem kds_ok : ∀ k ∈ kds, PyData.strOk k = true := by
  intro k hk
  refine strOk_of ?_
  have : ∀ k ∈ kds, ∀ c ∈ k.cps.toList, c < 1114112 := by decide
  exact this k hk
theorem W8.word {M : PH} {a w : Addr} {ws : List Str} (h : W8 M a w ws) {i : Int} (h0 : 0 ≤ i) (h1 : i < 8) : ∃ z, atI (ws.map PV.str) i = some (.str z) ∧ Wd 8 z := by
  obtain ⟨p, e, hp⟩ := atI_in (xs := ws.map PV.str) h0 (by rw [List.length_map, h.len]; omega)
  obtain ⟨z, hz, rfl⟩ := List.mem_map.mp hp
  exact ⟨z, e, h.wd z hz⟩
theorem use_page {M0 M : PH} {a C w : Addr} {c : Nat} {ws : List Str} {Q : QE} {E} (F : Fm M0 M a C c) (hc : c + 130 ≤ 1000000000000) (W : W8 M a w ws)
    (h : ∀ (v : PV) (M' : PH), PgS v → Fm M0 M' a C (c + 130) → Fm M M' a C (c + 130) → Q v M') : p__law_page [.ref a, .ref w] M Q E :=
  pFg_use (w, ws) F rfl hc ⟨rfl, W⟩ fun r M' e F1 F2 => h r M' e F1 F2
def w__law_page : WS :=
  (wSeq (wSet 2 (wIxL (wDisp (wCons (wCall p__law_draw (wCons (wVar 0) (wCons (wC (.int 3)) wNil)) []) (wCons (wC (.int 0)) (wCons (wC (.int 99999)) (wCons (wCall p__law_draw (wCons (wVar 0) (wCons (wC (.int 100000)) wNil)) []) wNil))))) (wCall p__law_draw (wCons (wVar 0) (wCons (wC (.int 4)) wNil)) [])))
  (wSeq (wSet 3 (wIxL (wDisp (wCons (wCall p__law_draw (wCons (wVar 0) (wCons (wC (.int 2)) wNil)) []) (wCons (wC (.int 0)) (wCons (wC (.int 999)) (wCons (wCall p__law_draw (wCons (wVar 0) (wCons (wC (.int 1000)) wNil)) []) wNil))))) (wCall p__law_draw (wCons (wVar 0) (wCons (wC (.int 4)) wNil)) [])))
  (wSeq (wSet 4 (wIxL (wDisp (wCons (wC (.str "print")) (wCons (wC (.str "mend")) (wCons (wC (.str "turn")) (wCons (wC (.str "mix")) (wCons (wC (.str "cut")) (wCons (wC (.str "bind")) (wCons (wC (.str "seen")) (wCons (wC (.str "lot")) wNil))))))))) (wCall p__law_draw (wCons (wVar 0) (wCons (wC (.int 8)) wNil)) [])))
  (wSeq (wPar 5 6 (wCons (wOp rIxP (wVar 1) (wCall p__law_draw (wCons (wVar 0) (wCons (wC (.int 3)) wNil)) [])) (wCons (wOp rIxP (wVar 1) (wCall p__law_draw (wCons (wVar 0) (wCons (wC (.int 8)) wNil)) [])) wNil)))
  (wSeq (wSet 7 (wIxL (wDisp (wCons (wC (.int 1)) (wCons (wC (.int 2)) (wCons (wC (.int 10)) (wCons (wC (.int 9)) (wCons (wC (.int 40)) (wCons (wOp rPow (wC (.int 10)) (wC (.int 30))) wNil))))))) (wCall p__law_draw (wCons (wVar 0) (wCons (wC (.int 6)) wNil)) [])))
  (wSeq (wIf (wTest (wOp (rInG false) (wVar 4) (wTup (wCons (wC (.str "print")) (wCons (wC (.str "mix")) wNil))))) (wRet (wTup (wCons (wVar 2) (wCons (wVar 3) (wCons (wVar 4) (wCons (wVar 5) (wCons (wVar 7) wNil))))))) wNext)
  (wSeq (wIf (wTest (wOp (rInG false) (wVar 4) (wTup (wCons (wC (.str "mend")) (wCons (wC (.str "cut")) wNil))))) (wRet (wTup (wCons (wVar 2) (wCons (wVar 3) (wCons (wVar 4) (wCons (wVar 5) (wCons (wVar 6) wNil))))))) wNext)
  (wSeq (wIf (wTest (wOp (rInG false) (wVar 4) (wTup (wCons (wC (.str "turn")) (wCons (wC (.str "bind")) wNil))))) (wRet (wTup (wCons (wVar 2) (wCons (wVar 3) (wCons (wVar 4) (wCons (wIfE (wTest (wOp rEq (wVar 4) (wC (.str "turn")))) (wVar 5) (wVar 7)) wNil)))))) wNext)
  (wSeq (wIf (wTest (wOp rEq (wVar 4) (wC (.str "seen")))) (wRet (wTup (wCons (wVar 2) (wCons (wVar 3) (wCons (wVar 4) (wCons (wVar 5) (wCons (wCall p__law_seen (wCons (wVar 0) (wCons (wVar 1) wNil)) []) wNil))))))) wNext)
  (wSeq (wSet 8 (wNew (wCBL cList (wCons (wVar 1) wNil))))
  (wSeq (wSet 9 (wNew (wLc (iRg1 (wCons (wOp rAdd (wC (.int 1)) (wCall p__law_draw (wCons (wVar 0) (wCons (wC (.int 5)) wNil)) [])) wNil)) (.one 10) wYes (wBMt "list" mPopAt (wVar 8) (wCons (wCall p__law_draw (wCons (wVar 0) (wCons (wCB cLen (wCons (wVar 8) wNil)) wNil)) []) wNil)) [10])))
  (wRet (wTup (wCons (wVar 2) (wCons (wVar 3) (wCons (wVar 4) (wCons (wCall p__law_some (wCons (wVar 0) (wCons (wVar 1) (wCons (wC (.int 4)) wNil))) []) (wCons (wCB cTup (wCons (wVar 9) wNil)) wNil))))))))))))))))))
theorem spec__law_page : ∀ (args : List PV) (M : PH) (Q : QE) (E : PX1), args.length = 2 → p__law_page args M Q E → w__law_page (EDef E) (DDef Q) (startP 11 args) M := by
  rintro args M Q E - ⟨-, a, C, c, rest, ⟨w, ws⟩, rfl, F, hc, ⟨rfl, W⟩, q⟩
  dsimp only at W q
  have hl8 := W.len
  unfold w__law_page
  walk_at "ss"
  refine use_draw F (by omega) (by omega) (by omega) fun d1 M1 d10 d11 F1 _ => ?_
  walk_at "ss"
  refine use_draw F1 (by omega) (by omega) (by omega) fun d2 M2 d20 d21 F2 _ => ?_
  walk_at "ss"
  refine and_small (by simp) ?_
  walk_at "ss"
  refine use_draw F2 (by omega) (by omega) (by omega) fun d3 M3 d30 d31 F3 _ => ?_
  obtain ⟨d, ed, d0, d9⟩ : ∃ d : Int, atI [PV.int d1, .int 0, .int 99999, .int d2] d3 = some (.int d) ∧ 0 ≤ d ∧ d ≤ 99999 := by
    obtain ⟨p, e, hp⟩ := atI_in (xs := [PV.int d1, .int 0, .int 99999, .int d2]) d30 (by simpa using d31)
    simp only [List.mem_cons, List.not_mem_nil, or_false] at hp
    rcases hp with rfl | rfl | rfl | rfl
    · exact ⟨_, e, by omega, by omega⟩
    · exact ⟨_, e, by omega, by omega⟩
    · exact ⟨_, e, by omega, by omega⟩
    · exact ⟨_, e, by omega, by omega⟩
  refine qIxL_i ed ?_
  walk_at "ss"
  refine use_draw F3 (by omega) (by omega) (by omega) fun n1 M4 n10 n11 F4 _ => ?_
  walk_at "ss"
  refine use_draw F4 (by omega) (by omega) (by omega) fun n2 M5 n20 n21 F5 _ => ?_
  walk_at "ss"
  refine and_small (by simp) ?_
  walk_at "ss"
  refine use_draw F5 (by omega) (by omega) (by omega) fun n3 M6 n30 n31 F6 _ => ?_
  obtain ⟨n, en, n0, n9⟩ : ∃ d : Int, atI [PV.int n1, .int 0, .int 999, .int n2] n3 = some (.int d) ∧ 0 ≤ d ∧ d ≤ 999 := by
    obtain ⟨p, e, hp⟩ := atI_in (xs := [PV.int n1, .int 0, .int 999, .int n2]) n30 (by simpa using n31)
    simp only [List.mem_cons, List.not_mem_nil, or_false] at hp
    rcases hp with rfl | rfl | rfl | rfl
    · exact ⟨_, e, by omega, by omega⟩
    · exact ⟨_, e, by omega, by omega⟩
    · exact ⟨_, e, by omega, by omega⟩
    · exact ⟨_, e, by omega, by omega⟩
  refine qIxL_i en ?_
  walk_at "ss"
  refine and_small (by simp) ?_
  walk_at "ss"
  refine use_draw F6 (by omega) (by omega) (by omega) fun k1 M7 k10 k11 F7 _ => ?_
  obtain ⟨k, ek, hk⟩ : ∃ k : Str, atI [PV.str "print", .str "mend", .str "turn", .str "mix", .str "cut", .str "bind", .str "seen", .str "lot"] k1 = some (.str k) ∧ k ∈ kds := by
    obtain ⟨p, e, hp⟩ := atI_in (xs := kds.map PV.str) k10 (by simpa [kds] using k11)
    obtain ⟨z, hz, rfl⟩ := List.mem_map.mp hp
    exact ⟨z, e, hz⟩
  have hko := kds_ok k hk
  refine qIxL_i ek ?_
  walk_at "ss"
  refine use_draw F7 (by omega) (by omega) (by omega) fun i1 M8 i10 i11 F8 _ => ?_
  obtain ⟨w1, ew1, hw1⟩ := (W.on F8).word i10 (by omega)
  refine rIx_lst (W.on F8).at_ ew1 ?_
  walk_at "ss"
  refine use_draw F8 (by omega) (by omega) (by omega) fun i2 M9 i20 i21 F9 _ => ?_
  obtain ⟨w2, ew2, hw2⟩ := (W.on F9).word i20 i21
  refine rIx_lst (W.on F9).at_ ew2 ?_
  walk_at "ss"
  refine rPow_int ⟨by omega, by omega, by decide⟩ ?_
  walk_at "ss"
  refine and_small (by simp) ?_
  walk_at "ss"
  refine use_draw F9 (by omega) (by omega) (by omega) fun m1 M10 m10 m11 F10 _ => ?_
  obtain ⟨m, em, m0, m9⟩ : ∃ d : Int, atI [PV.int 1, .int 2, .int 10, .int 9, .int 40, .int ((10 : Int) ^ (30 : Int).toNat)] m1 = some (.int d) ∧ 0 < d ∧ d ≤ 1000000000000000000000000000000 := by
    obtain ⟨p, e, hp⟩ := atI_in (xs := [PV.int 1, .int 2, .int 10, .int 9, .int 40, .int ((10 : Int) ^ (30 : Int).toNat)]) m10 (by simpa using m11)
    simp only [List.mem_cons, List.not_mem_nil, or_false] at hp
    rcases hp with rfl | rfl | rfl | rfl | rfl | rfl
    · exact ⟨_, e, by omega, by omega⟩
    · exact ⟨_, e, by omega, by omega⟩
    · exact ⟨_, e, by omega, by omega⟩
    · exact ⟨_, e, by omega, by omega⟩
    · exact ⟨_, e, by omega, by omega⟩
    · exact ⟨_, e, by decide, by decide⟩
  refine qIxL_i em ?_
  walk_at "ss"
  have done : ∀ (rest : List PV) (M' : PH) (c' : Nat), Fm M M' a C c' → c' ≤ c + 130 → KR k rest → (∀ (w : Str) (m : Int), rest = [.str w, .int m] → m ≤ 1000000000000000000000000000000) → (DDef Q).rt (.tup (.int d :: .int n :: .str k :: rest)) M' := fun rest M' c' F' hc' h hs =>
    rt_here (q _ _ (F'.up hc') ⟨d, n, k, rest, rfl, d0, d9, n0, n9, h, hs⟩)
  have plk : pl (.str k) = true := pl_str hko
  have plks : ∀ ys : List Str, (∀ y ∈ ys, y ∈ kds) → ∀ y ∈ ys, pl (.str y) = true := fun ys h y hy => pl_str (kds_ok y (h y hy))
  refine and_small (by simp) ?_
  refine rIn_strs ["print", "mix"] plk (plks _ (by decide)) ?_
  walk_at "ss"
  refine ite_i (fun h => ?_) fun h1 => ?_
  · walk_at "ss"
    refine and_small (by simp) ?_
    exact done _ _ _ F10 (by omega) (.pm k (by simpa using of_decide_eq_true h) w1 hw1 m m0 (by omega)) fun _ _ e => by cases e; exact m9
  walk_at "ss"
  refine and_small (by simp) ?_
  refine rIn_strs ["mend", "cut"] plk (plks _ (by decide)) ?_
  walk_at "ss"
  refine ite_i (fun h => ?_) fun h2 => ?_
  · walk_at "ss"
    refine and_small (by simp) ?_
    exact done _ _ _ F10 (by omega) (.mc k (by simpa using of_decide_eq_true h) w1 w2 hw1 hw2) fun _ _ e => by cases e
  walk_at "ss"
  refine and_small (by simp) ?_
  refine rIn_strs ["turn", "bind"] plk (plks _ (by decide)) ?_
  walk_at "ss"
  refine ite_i (fun h => ?_) fun h3 => ?_
  · walk_at "ss"
    have h' : k = "turn" ∨ k = "bind" := by simpa using of_decide_eq_true h
    refine ite_i (fun ht => ?_) fun ht => ?_
    · have := of_decide_eq_true ht
      subst this
      walk_at "ss"
      refine and_small (by simp) ?_
      exact done _ _ _ F10 (by omega) (.turn w1 hw1) fun _ _ e => by cases e
    · have ht' := of_decide_eq_false ht
      have : k = "bind" := h'.resolve_left ht'
      subst this
      walk_at "ss"
      refine and_small (by simp) ?_
      exact done _ _ _ F10 (by omega) (.bind m m0 (by omega)) fun _ _ e => by cases e
  walk_at "ss"
  refine ite_i (fun h => ?_) fun h4 => ?_
  · have := of_decide_eq_true h
    subst this
    walk_at "ss"
    refine use_seen F10 (by omega) (W.on F10) fun v M11 hv F11 _ => ?_
    walk_at "ss"
    refine and_small (by simp) ?_
    exact done _ _ _ F11 (by omega) (.seen w1 hw1 v hv) fun _ _ e => by
      obtain ⟨ps, rfl, _⟩ := hv
      cases e
  have hlot : k = "lot" := by
    have a1 := of_decide_eq_false h1
    have a2 := of_decide_eq_false h2
    have a3 := of_decide_eq_false h3
    have a4 := of_decide_eq_false h4
    simp only [kds, List.mem_cons, List.not_mem_nil, or_false] at hk a1 a2 a3
    rcases hk with h | h | h | h | h | h | h | h
    · exact absurd (.inl h) a1
    · exact absurd (.inl h) a2
    · exact absurd (.inl h) a3
    · exact absurd (.inr h) a1
    · exact absurd (.inr h) a2
    · exact absurd (.inr h) a3
    · exact absurd h a4
    · exact h
  subst hlot
  walk_at "ss"
  refine cList_lst (W.on F10).at_ ⟨by rw [sizeLine_eq, List.length_map]; omega, fun D _ nD => ?_⟩
  have dD := F10.fresh0 nD
  have naD := (F10.fresh nD).2.1
  have F11 := F10.new (xs := ws.map PV.str) nD
  have eD : pupd M10 D (.lst (ws.map PV.str)) D = some (.lst (ws.map PV.str)) := pupd_same
  generalize pupd M10 D (.lst (ws.map PV.str)) = M11 at F11 eD ⊢
  walk_at "ss"
  refine use_draw F11 (by omega) (by omega) (by omega) fun mm M12 mm0 mm1 F12 F12' => ?_
  have eD12 := F12'.keep _ _ naD eD
  walk_at "ss"
  refine qRg_i (by omega) (by omega) ?_
  refine lcW_k (fun i acc M' => ∃ us rs : List Str, acc = us.map PV.str ∧ Fm M M' a C (c + 11 + i) ∧ M' D = some (.lst (rs.map PV.str)) ∧ us.length = i ∧ (us ++ rs).Perm ws) (by rw [sizeLine_eq]; simp; omega) ⟨[], ws, rfl, F12, eD12, rfl, .refl _⟩ (fun _ _ _ _ _ => trivial) ?_ ?_
  · rintro i x acc M13 T N hx ⟨us, rs, rfl, F13, eD13, hu, hp⟩ hT -
    have hin : i < 5 := by
      have := (List.getElem?_eq_some_iff.mp hx).1
      simp at this; omega
    have hlr := hp.length_eq
    rw [List.length_append] at hlr
    walk_at "ss"
    refine ⟨tyP_lst eD13, ?_⟩
    walk_at "ss"
    refine cLen_lst eD13 ?_
    refine use_draw F13 (by omega) (by simp; omega) (by simp; omega) fun r M14 r0 r1 F14 F14' => ?_
    have eD14 := F14'.keep _ _ naD eD13
    obtain ⟨j, rfl⟩ := Int.eq_ofNat_of_zero_le r0
    rw [List.length_map] at r1
    obtain ⟨z, hz⟩ : ∃ z, rs[j]? = some z := ⟨rs[j], List.getElem?_eq_getElem (by omega)⟩
    refine mPopAt_i eD14 (k := j) (p := .str z) (by rw [List.getElem?_map, hz]; rfl) (by simp; omega) ?_
    refine hT _ _ ⟨us ++ [z], rs.eraseIdx j, by simp, F14.set dD naD, ?_, by simp [hu], ?_⟩
    · rw [pupd_same, map_erase]
    · rw [List.append_assoc]
      exact .trans (List.Perm.append_left us (erase_perm rs j z hz)) hp
  rintro acc M13 ⟨us, rs, rfl, F13, eD13, hu, hp⟩ D2 - n2
  have hul : us.length ≤ 5 := by simp at hu; omega
  have F14 := F13.new (xs := us.map PV.str) n2
  have W14 := W.on F14
  have na2 := (F13.fresh n2).2.1
  have e2 : pupd M13 D2 (.lst (us.map PV.str)) D2 = some (.lst (us.map PV.str)) := pupd_same
  generalize pupd M13 D2 (.lst (us.map PV.str)) = M14 at F14 W14 e2 ⊢
  walk_at "ss"
  refine use_some (n := 4) F14 (by omega) W14 fun vs M15 hs hvl F15 F15' => ?_
  walk_at "ss"
  refine cTup_lst (F15'.keep _ _ na2 e2) ?_
  walk_at "ss"
  refine and_small (by simp) ?_
  refine done _ _ _ F15 (by omega) (.lot _ _ (s1_sub hs W.len W.wd) ⟨us, rfl, by omega, fun u hu' => ?_⟩) fun _ _ e => by cases e
  have := W.wd u (hp.mem_iff.mp (List.mem_append_left _ hu'))
  exact ⟨this.ok, this.2.1⟩

end PL
set_option autoImplicit false
namespace PL
open PySem PySem.Spec L2
open PyProof.Rows hiding St
set_option maxHeartbeats 4000000
local macro_rules | `(tactic| walk_at "s") => `(tactic| first
  | (with_reducible refine wSeq_i ?_) | ((with_reducible refine' wVar_i ?a ?_); (case a => rfl)) | (with_reducible refine wC_i ?_) | (with_reducible refine wOp_i ?_) | (with_reducible refine wCons_i ?_) | (with_reducible refine wNil_i ?_)
  | (with_reducible refine wSet_i ?_) | (with_reducible refine wDrop_i ?_) | (with_reducible refine wRet_i ?_) | (with_reducible refine wIf_i ?_) | (with_reducible refine wNext_i ?_) | (with_reducible refine wTup_i ?_) | (with_reducible refine wNew_i ?_) | (with_reducible refine wDisp_i ?_)
  | (with_reducible refine wTest_i ?_) | (with_reducible refine qBl_i ?_) | (with_reducible refine wTru_i ?_) | (with_reducible refine truV_bl ?_) | (with_reducible refine wAndT_i ?_) | (with_reducible refine wOrT_i ?_) | (with_reducible refine wNotT_i ?_) | (with_reducible refine wAndV_i ?_) | (with_reducible refine wOrV_i ?_) | (with_reducible refine qAnd_i ?_) | (with_reducible refine qOr_i ?_)
  | (with_reducible refine wNotV_i ?_) | (with_reducible refine qNot_i ?_) | (with_reducible refine wIfE_i ?_) | (with_reducible refine ite_t ?_) | (with_reducible refine ite_f ?_) | (with_reducible refine wCall_i ?_) | (with_reducible refine wCallK_i ?_) | (with_reducible refine wCB_i ?_) | (with_reducible refine wCBL_i ?_) | (with_reducible refine wBMt_i ?_) | (with_reducible refine wStL_i ?_) | (with_reducible refine wEqL_i ?_)
  | (with_reducible refine wSl_i ?_) | (with_reducible refine wNoP_i ?_) | (with_reducible refine wPt_i ?_) | (with_reducible refine qPt_i ?_)
  | (with_reducible refine rAdd_int ?_) | (with_reducible refine rSub_int ?_) | (with_reducible refine rLt_int ?_) | (with_reducible refine rLt_str ?_) | (with_reducible refine rLe_int ?_) | (with_reducible refine rGt_int ?_) | (with_reducible refine rGe_int ?_)
  | (with_reducible refine rEq_str ?_) | (with_reducible refine rNe_str ?_) | (with_reducible refine rEq_int ?_)
  | (with_reducible refine wFor_i ?_) | (with_reducible refine wLc_i ?_) | (with_reducible refine iAny_i ?_) | (with_reducible refine qIt_tup ?_) | (with_reducible refine iRg1_i ?_) | (with_reducible refine gNm_i ?_) | (with_reducible refine gTp_i ?_) | (with_reducible refine gAll_c ?_) | (with_reducible refine gAll_n ?_) | (with_reducible refine cOne_i ?_) | (with_reducible refine cMany2_i ?_) | (with_reducible refine cMany3_i ?_) | (with_reducible refine wYes_i ?_)
  | (with_reducible refine wJoinL_i ?_) | (with_reducible refine qJn_i ?_) | (with_reducible refine wCatEL_i ?_) | (with_reducible refine wIxL_i ?_) | (with_reducible refine cTupL_i ?_) | (with_reducible refine cLenL_i ?_)
  | (with_reducible refine iZp_i ?_) | (with_reducible refine qZip_tup ?_) | (with_reducible refine wKIx_i ?_) | (with_reducible refine wBack_i ?_) | (with_reducible refine qBack_tup ?_) | (with_reducible refine wAsg_i ?_) | (with_reducible refine wPar_i ?_) | (with_reducible refine qPar_i ?_) | (with_reducible refine rLtX_int ?_) | (with_reducible refine rLtX_str ?_) | (with_reducible refine cList_tup ?_)
  | (with_reducible refine rIsX_bl ?_) | (with_reducible refine rIsX_nn ?_) | (with_reducible refine rIsX_tup ?_) | (with_reducible refine rIsX_str ?_) | (with_reducible refine rIsX_bn ?_)
  | (with_reducible refine wSrtK_i ?_) | (with_reducible refine wRepL_i ?_) | (with_reducible refine rLeX_int ?_) | (with_reducible refine rLeX_pair ?_) | (with_reducible refine cMax2_i ?_) | (with_reducible refine cMin2_i ?_) | (with_reducible refine iNw_i ?_) | (with_reducible refine wNeg_i ?_) | (with_reducible refine qNeg_i ?_)
  | (with_reducible refine cLen_tup ?_) | (with_reducible refine cTup_tup ?_))
local macro_rules | `(tactic| walk_at "ss") => `(tactic| repeat walk_at "s")
def k_KINDS : PV := (.tup [(.str "print"), (.str "mend"), (.str "turn"), (.str "mix"), (.str "cut"), (.str "bind"), (.str "seen"), (.str "lot")])
def i_KINDS : List Str := ["print", "mend", "turn", "mix", "cut", "bind", "seen", "lot"]
theorem eqP_int {a b : Int} : eqP (.int a) (.int b) = decide (a = b) := by
  rw [Bool.eq_iff_iff, eqP_iff, decide_eq_true_iff]
  exact ⟨fun h => by cases h; rfl, fun h => by rw [h]⟩
theorem eqv_int {a b : Int} : PyData.eqv (.int a) (.int b) = decide (a = b) := by
  have := eqv_eqP (p := .int a) (q := .int b) (by rw [pl]) (by rw [pl])
  rw [dat, dat, eqP_int] at this
  exact this
theorem rNe_int {i j : Int} {M : PH} {Q : QE} (k : Q (.bl (!decide (i = j))) M) : rNe (.int i) (.int j) M Q := by
  refine rNe_pl (by rw [pl]) (by rw [pl]) (by rw [dpt]; omega; all_goals (intros; contradiction)) (by rw [dpt]; omega; all_goals (intros; contradiction)) ?_
  rw [eqP_int]; exact k
theorem kidx_ok : ∀ k ∈ kds, kds[kds.idxOf k]? = some k ∧ ∀ m, m < kds.idxOf k → kds[m]? ≠ some k := by decide
theorem kidx_inj {k l : Str} (hk : k ∈ kds) (hl : l ∈ kds) (e : kds.idxOf k = kds.idxOf l) : k = l := by
  have h1 := (kidx_ok k hk).1
  have h2 := (kidx_ok l hl).1
  rw [e, h2] at h1
  exact (Option.some.inj h1).symm
/-- what stands for a page in an order -/
def stV : PV → PV
  | .tup (.int d :: .int n :: .str k :: rest) => .tup [.int d, .int n, .int (kds.idxOf k : Nat), .tup rest]
  | p => p
def ahd (p q : PV) : Bool := ltD (dat (stV p)) (dat (stV q))
def typ (k : Str) : List Kd := if k = "print" ∨ k = "mix" then [.s, .i] else if k = "mend" ∨ k = "cut" then [.s, .s] else if k = "turn" then [.s] else if k = "bind" then [.i] else if k = "seen" then [.s, .t (.t (.t .s))] else [.t .s, .t .s]
inductive HasL : List Kd → List PV → Prop where
  | nil : HasL [] []
  | cons {k : Kd} {ks : List Kd} {x : PV} {xs : List PV} (h : HasK k x) (t : HasL ks xs) : HasL (k :: ks) (x :: xs)
theorem HasL.len : ∀ {ks : List Kd} {xs : List PV}, HasL ks xs → xs.length = ks.length
  | _, _, .nil => rfl
  | _, _, .cons _ t => by rw [List.length_cons, List.length_cons, t.len]
theorem HasL.get : ∀ {ks : List Kd} {xs ys : List PV}, HasL ks xs → HasL ks ys → ∀ (i : Nat) (x y : PV), xs[i]? = some x → ys[i]? = some y → ∃ k, HasK k x ∧ HasK k y
  | _, _, _, .nil, _, i, x, y, h, _ => by simp at h
  | _, _, _, .cons a t, .cons b u, 0, x, y, h, g => by simp at h g; subst h; subst g; exact ⟨_, a, b⟩
  | _, _, _, .cons a t, .cons b u, i + 1, x, y, h, g => HasL.get t u i x y (by simpa using h) (by simpa using g)
theorem HasL.cmp : ∀ {ks : List Kd} {xs ys : List PV}, HasL ks xs → HasL ks ys → cmpDs (dats xs) (dats ys) = true
  | _, _, _, .nil, .nil => by rw [dats, cmpDs]; intros; contradiction
  | _, _, _, .cons a t, .cons b u => by
    rw [dats, dats, cmpDs]
    split
    · exact t.cmp u
    · exact hasK_cmp _ _ _ a b
theorem s1_k {p : PV} (h : S1 p) : HasK (.t .s) p := by
  obtain ⟨us, rfl, _⟩ := h
  exact hasKs_all fun x hx => by obtain ⟨u, _, rfl⟩ := List.mem_map.mp hx; trivial
theorem s2_k {p : PV} (h : S2 p) : HasK (.t (.t .s)) p := by
  obtain ⟨ps, rfl, _, h⟩ := h
  exact hasKs_all fun x hx => s1_k (h x hx)
theorem s3_k {p : PV} (h : S3 p) : HasK (.t (.t (.t .s))) p := by
  obtain ⟨ps, rfl, _, h⟩ := h
  exact hasKs_all fun x hx => s2_k (h x hx)
/-- plain, of a depth, of a length of text -/
def Pl (n B : Nat) (p : PV) : Prop := pl p = true ∧ tl p = true ∧ dpt p ≤ n ∧ shn p ≤ B
theorem pl_tup {n B L : Nat} {ps : List PV} (h : ∀ x ∈ ps, Pl n B x) (hl : ps.length ≤ L) : Pl (n + 1) ((B + 2) * L + 3) (.tup ps) := by
  refine ⟨by rw [pl]; exact pls_all fun x hx => (h x hx).1, by rw [tl]; exact tls_all fun x hx => (h x hx).2.1, ?_, ?_⟩
  · rw [dpt]; have := dpts_all (n := n) fun x hx => (h x hx).2.2.1; omega
  · rw [shn]
    have h1 := shns_all (n := B) fun x hx => (h x hx).2.2.2
    have h2 := Nat.mul_le_mul_left (B + 2) hl
    omega
theorem Pl.up {n m B C : Nat} {p : PV} (h : Pl n B p) (e : n ≤ m) (f : B ≤ C) : Pl m C p := ⟨h.1, h.2.1, by have := h.2.2.1; omega, by have := h.2.2.2; omega⟩
theorem pl_word {u : Str} (h : PyData.strOk u = true) (l : u.length ≤ 8) : Pl 0 82 (.str u) := ⟨pl_str h, tl_str h, by rw [dpt]; exact Nat.le_refl _; all_goals (intros; contradiction), by rw [shn]; omega⟩
theorem s1_pl {p : PV} (h : S1 p) : Pl 1 675 p := by
  obtain ⟨us, rfl, hl, h⟩ := h
  exact pl_tup (L := 8) (fun x hx => by obtain ⟨u, hu, rfl⟩ := List.mem_map.mp hx; exact pl_word (h u hu).1 (h u hu).2) (by simpa using hl)
theorem s2_pl {p : PV} (h : S2 p) : Pl 2 2034 p := by
  obtain ⟨ps, rfl, hl, h⟩ := h
  exact pl_tup (L := 3) (fun x hx => s1_pl (h x hx)) hl
theorem s3_pl {p : PV} (h : S3 p) : Pl 3 6111 p := by
  obtain ⟨ps, rfl, hl, h⟩ := h
  exact pl_tup (L := 3) (fun x hx => s2_pl (h x hx)) hl
theorem pl_int {i : Int} (h : i.natAbs < 2 ^ 1920) : Pl 0 1921 (.int i) := by
  refine ⟨by rw [pl], ?_, by rw [dpt]; exact Nat.le_refl _; all_goals (intros; contradiction), by rw [shn]; exact Nat.le_refl _⟩
  rw [tl, decide_eq_true_iff]
  by_cases h0 : i.natAbs = 0
  · rw [h0]; decide
  · exact (Nat.log2_lt h0).mpr h
theorem pow_big {i : Int} (h0 : 0 ≤ i) (h1 : i ≤ 1000000000000000000000000000001) : i.natAbs < 2 ^ 1920 := by
  have : (2 : Nat) ^ 128 ≤ 2 ^ 1920 := Nat.pow_le_pow_right (by omega) (by omega)
  have e : (2 : Nat) ^ 128 = 340282366920938463463374607431768211456 := by decide
  omega
theorem KR.pl {k : Str} {rest : List PV} (h : KR k rest) : k ∈ kds ∧ HasL (typ k) rest ∧ rest.length ≤ 2 ∧ ∀ x ∈ rest, Pl 3 6111 x := by
  cases h with
  | pm _ hk w hw m h0 h1 =>
    refine ⟨?_, ?_, by simp, fun x hx => ?_⟩
    · rcases hk with rfl | rfl <;> decide
    · rw [typ, if_pos hk]; exact .cons trivial (.cons trivial .nil)
    · simp at hx
      rcases hx with rfl | rfl
      · exact (pl_word hw.ok hw.2.1).up (by omega) (by omega)
      · exact (pl_int (pow_big (by omega) h1)).up (by omega) (by omega)
  | mc _ hk w x hw hx =>
    refine ⟨?_, ?_, by simp, fun y hy => ?_⟩
    · rcases hk with rfl | rfl <;> decide
    · rw [typ, if_neg (by rcases hk with rfl | rfl <;> decide), if_pos hk]; exact .cons trivial (.cons trivial .nil)
    · simp at hy
      rcases hy with rfl | rfl
      · exact (pl_word hw.ok hw.2.1).up (by omega) (by omega)
      · exact (pl_word hx.ok hx.2.1).up (by omega) (by omega)
  | turn w hw => exact ⟨by decide, .cons trivial .nil, by simp, fun x hx => by rw [List.mem_singleton] at hx; subst hx; exact (pl_word hw.ok hw.2.1).up (by omega) (by omega)⟩
  | bind m h0 h1 => exact ⟨by decide, .cons trivial .nil, by simp, fun x hx => by rw [List.mem_singleton] at hx; subst hx; exact (pl_int (pow_big (by omega) h1)).up (by omega) (by omega)⟩
  | seen w hw v hv =>
    refine ⟨by decide, .cons trivial (.cons (s3_k hv) .nil), by simp, fun x hx => ?_⟩
    simp at hx
    rcases hx with rfl | rfl
    · exact (pl_word hw.ok hw.2.1).up (by omega) (by omega)
    · exact s3_pl hv
  | lot v x hv hx =>
    refine ⟨by decide, .cons (s1_k hv) (.cons (s1_k hx) .nil), by simp, fun y hy => ?_⟩
    simp at hy
    rcases hy with rfl | rfl
    · exact (s1_pl hv).up (by omega) (by omega)
    · exact (s1_pl hx).up (by omega) (by omega)
theorem pg_pl {p : PV} (h : Pg p) : Pl 4 30579 p := by
  obtain ⟨d, n, k, rest, rfl, d0, d1, n0, n1, hk⟩ := h
  obtain ⟨hk1, _, hl, hr⟩ := hk.pl
  have hs : k.length ≤ 8 := by
    have : ∀ k ∈ kds, k.length ≤ 8 := by decide
    exact this k hk1
  refine (pl_tup (n := 3) (B := 6111) (L := 5) (fun x hx => ?_) (by simp; omega)).up (by omega) (by omega)
  simp only [List.mem_cons] at hx
  rcases hx with rfl | rfl | rfl | hx
  · exact (pl_int (pow_big d0 (by omega))).up (by omega) (by omega)
  · exact (pl_int (pow_big n0 (by omega))).up (by omega) (by omega)
  · exact (pl_word (kds_ok k hk1) hs).up (by omega) (by omega)
  · exact hr x hx
theorem eqv_self {p : PV} (h : pl p = true) : PyData.eqv (dat p) (dat p) = true := by rw [eqv_eqP h h]; exact eqP_iff.mpr rfl
theorem ltDs_self : ∀ {xs : List PV}, (∀ x ∈ xs, pl x = true) → ltDs (dats xs) (dats xs) = false
  | [], _ => by rw [dats, ltDs]; rfl; intros; contradiction
  | x :: xs, h => by
    rw [dats, ltDs, if_pos (eqv_self (h x List.mem_cons_self))]
    exact ltDs_self fun y hy => h y (List.mem_cons_of_mem _ hy)
theorem ltDs_at : ∀ {xs ys : List PV} (i : Nat) (x y : PV), (∀ x ∈ xs, pl x = true) → (∀ j, j < i → xs[j]? = ys[j]?) → xs[i]? = some x → ys[i]? = some y → PyData.eqv (dat x) (dat y) = false → ltDs (dats xs) (dats ys) = ltD (dat x) (dat y)
  | [], _, i, x, y, _, _, h, _, _ => by simp at h
  | a :: xs, [], i, x, y, _, _, _, h, _ => by simp at h
  | a :: xs, b :: ys, 0, x, y, _, _, h1, h2, n => by
    simp at h1 h2; subst h1; subst h2
    rw [dats, dats, ltDs, n, if_neg Bool.false_ne_true]
  | a :: xs, b :: ys, i + 1, x, y, hp, h, h1, h2, n => by
    have h0 := h 0 (by omega)
    simp at h0; subst h0
    rw [dats, dats, ltDs, if_pos (eqv_self (hp a List.mem_cons_self))]
    exact ltDs_at i x y (fun z hz => hp z (List.mem_cons_of_mem _ hz)) (fun j hj => by have := h (j + 1) (by omega); simpa using this) (by simpa using h1) (by simpa using h2) n
theorem ahd_eq {d n d' n' : Int} {k k' : Str} {r r' : List PV} (h : KR k r) (h' : KR k' r') : ahd (.tup (.int d :: .int n :: .str k :: r)) (.tup (.int d' :: .int n' :: .str k' :: r')) =
    if d = d' then if n = n' then if k = k' then ltDs (dats r) (dats r') else decide ((kds.idxOf k : Int) < kds.idxOf k') else decide (n < n') else decide (d < d') := by
  obtain ⟨hk, _, _, hp⟩ := h.pl
  obtain ⟨hk', _, _, hp'⟩ := h'.pl
  unfold ahd
  rw [stV, stV, dat, dat, ltD]
  simp only [dats, dat, ltDs, eqv_int, ltD, decide_eq_true_eq]
  by_cases e1 : d = d'
  · rw [if_pos e1, if_pos e1]
    by_cases e2 : n = n'
    · rw [if_pos e2, if_pos e2]
      by_cases e3 : k = k'
      · subst e3
        rw [if_pos rfl, if_pos rfl]
        by_cases e4 : PyData.eqv (.tuple (dats r)) (.tuple (dats r')) = true
        · rw [if_pos e4]
          have pr : ∀ {r : List PV}, (∀ x ∈ r, Pl 3 6111 x) → pl (.tup r) = true := fun hp => by rw [pl]; exact pls_all fun x hx => (hp x hx).1
          have := eqv_eqP (p := .tup r) (q := .tup r') (pr hp) (pr hp')
          rw [dat, dat, e4] at this
          have e5 := eqP_iff.mp this.symm
          cases e5
          rw [ltDs_self fun x hx => (hp x hx).1]
          rfl
        · rw [if_neg e4]
      · have : ¬ ((kds.idxOf k : Nat) : Int) = (kds.idxOf k' : Nat) := fun e => e3 (kidx_inj hk hk' (by omega))
        rw [if_neg e3, if_neg this]
    · rw [if_neg e2, if_neg e2]
  · rw [if_neg e1, if_neg e1]
theorem cmp_st {p q : PV} (hp : Pg p) (hq : Pg q) : cmpD (dat (stV p)) (dat (stV q)) = true := by
  obtain ⟨d, n, k, r, rfl, _, _, _, _, h⟩ := hp
  obtain ⟨d', n', k', r', rfl, _, _, _, _, h'⟩ := hq
  obtain ⟨hk, hl, _, _⟩ := h.pl
  obtain ⟨hk', hl', _, _⟩ := h'.pl
  rw [stV, stV, dat, dat, cmpD]
  simp only [dats, dat, cmpDs, cmpD, eqv_int, decide_eq_true_eq]
  split
  · split
    · split
      · rename_i e
        have : k = k' := kidx_inj hk hk' (by omega)
        subst this
        split
        · rfl
        · exact hl.cmp hl'
      · rfl
    · rfl
  · rfl
def p_standing : PSp := pN 1 fun args M Q _ => ∃ p, args = [p] ∧ Pg p ∧ Q (stV p) M
theorem mono_standing : MonoP p_standing := pN_mono fun ps M Q Q' E E' k _ ⟨p, h1, h2, h3⟩ => ⟨p, h1, h2, k _ _ h3⟩
theorem len_standing : LenP p_standing 1 := pN_len
def p_stands_ahead : PSp := pN 2 fun args M Q _ => ∃ p q, args = [p, q] ∧ Pg p ∧ Pg q ∧ Q (.bl (ahd p q)) M
theorem mono_stands_ahead : MonoP p_stands_ahead := pN_mono fun ps M Q Q' E E' k _ ⟨p, q, h1, h2, h3, h4⟩ => ⟨p, q, h1, h2, h3, k _ _ h4⟩
theorem len_stands_ahead : LenP p_stands_ahead 2 := pN_len
def p__law_is_ahead : PSp := pN 2 fun args M Q _ => ∃ p q, args = [p, q] ∧ Pg p ∧ Pg q ∧ NR M ∧ Q (.bl (ahd p q)) M
theorem mono__law_is_ahead : MonoP p__law_is_ahead := pN_mono fun ps M Q Q' E E' k _ ⟨p, q, h1, h2, h3, h4, h5⟩ => ⟨p, q, h1, h2, h3, h4, k _ _ h5⟩
theorem len__law_is_ahead : LenP p__law_is_ahead 2 := pN_len
theorem mLIndex_strs {M : PH} {Q : QE} {a : Addr} {ys : List Str} {z : Str} {j : Nat} (e : M a = some (.lst (ys.map PV.str))) (hy : ∀ y ∈ ys, PyData.strOk y = true) (h1 : ys[j]? = some z) (h2 : ∀ m, m < j → ys[m]? ≠ some z) (k : Q (.int (j : Nat)) M) : mLIndex (.ref a) [.str z] M Q := by
  have pz : pl (.str z) = true := pl_str (hy z (List.mem_of_getElem? h1))
  have py : pls (ys.map PV.str) = true := pls_all fun x hx => by obtain ⟨y, hy', rfl⟩ := List.mem_map.mp hx; exact pl_str (hy y hy')
  have dz : dpt (.str z) = 0 := by rw [dpt]; all_goals (intros; contradiction)
  have dy : dpts (ys.map PV.str) ≤ 0 := dpts_all fun x hx => by obtain ⟨y, hy', rfl⟩ := List.mem_map.mp hx; rw [dpt]; exact Nat.le_refl _; all_goals (intros; contradiction)
  refine ⟨_, j, .str z, e, pls_purs _ py, pl_pur _ pz, shp_list py (by omega), shp_pl pz (by omega), by rw [List.getElem?_map, h1]; rfl, eqv_self pz, fun m z' hm hz' => ?_, k⟩
  rw [List.getElem?_map] at hz'
  obtain ⟨y, hy1, rfl⟩ := Option.map_eq_some_iff.mp hz'
  rw [eqv_eqP (pl_str (hy y (List.mem_of_getElem? hy1))) pz, eqP_str, decide_eq_false_iff_not]
  intro e'
  subst e'
  exact h2 m hm hy1
theorem rLtX_k {k : Kd} {x y : PV} {M : PH} {Q : QE} (hx : HasK k x) (hy : HasK k y) (px : Pl 3 6111 x) (py : Pl 3 6111 y) (h : Q (.bl (ltD (dat x) (dat y))) M) : rLtX x y M Q := by
  cases k with
  | i =>
    cases x <;> try exact hx.elim
    cases y <;> try exact hy.elim
    rw [dat, dat, ltD] at h
    exact rLtX_int h
  | s =>
    cases x <;> try exact hx.elim
    cases y <;> try exact hy.elim
    rw [dat, dat, ltD] at h
    exact rLtX_str h
  | t k =>
    cases x <;> try exact hx.elim
    cases y <;> try exact hy.elim
    exact ⟨pl_pur _ px.1, pl_pur _ py.1, shp_pl px.1 (by have := px.2.2.1; omega), shp_pl py.1 (by have := py.2.2.1; omega), hasK_cmp (.t k) _ _ hx hy, h⟩
def w_standing : WS :=
  (wRet (wTup (wCons (wOp rIxP (wVar 0) (wC (.int 0))) (wCons (wOp rIxP (wVar 0) (wC (.int 1))) (wCons (wKIx i_KINDS (wOp rIxP (wVar 0) (wC (.int 2)))) (wCons (wSl (wVar 0) (wPt (wC (.int 3))) wNoP) wNil))))))
def w_stands_ahead : WS :=
  (wRet (wOp rLtX (wCall p_standing (wCons (wVar 0) wNil) []) (wCall p_standing (wCons (wVar 1) wNil) [])))
def w__law_is_ahead : WS :=
  (wSeq (wSet 2 (wNew (wDisp (wCons (wC (.str "print")) (wCons (wC (.str "mend")) (wCons (wC (.str "turn")) (wCons (wC (.str "mix")) (wCons (wC (.str "cut")) (wCons (wC (.str "bind")) (wCons (wC (.str "seen")) (wCons (wC (.str "lot")) wNil)))))))))))
  (wSeq (wFor (iAny (wTup (wCons (wC (.int 0)) (wCons (wC (.int 1)) wNil)))) (gNm 3) (wIf (wTest (wOp rNe (wOp rIxP (wVar 0) (wVar 3)) (wOp rIxP (wVar 1) (wVar 3)))) (wRet (wOp rLtX (wOp rIxP (wVar 0) (wVar 3)) (wOp rIxP (wVar 1) (wVar 3)))) wNext))
  (wSeq (wIf (wTest (wOp rNe (wOp rIxP (wVar 0) (wC (.int 2))) (wOp rIxP (wVar 1) (wC (.int 2))))) (wRet (wOp rLtX (wBMt "list" mLIndex (wVar 2) (wCons (wOp rIxP (wVar 0) (wC (.int 2))) wNil)) (wBMt "list" mLIndex (wVar 2) (wCons (wOp rIxP (wVar 1) (wC (.int 2))) wNil)))) wNext)
  (wSeq (wFor (iZp (wCons (wSl (wVar 0) (wPt (wC (.int 3))) wNoP) (wCons (wSl (wVar 1) (wPt (wC (.int 3))) wNoP) wNil))) (gTp [gNm 4, gNm 5]) (wIf (wTest (wOp rNe (wVar 4) (wVar 5))) (wRet (wOp rLtX (wVar 4) (wVar 5))) wNext))
  (wRet (wC (.bl false)))))))
theorem spec_standing : ∀ (args : List PV) (M : PH) (Q : QE) (E : PX1), args.length = 1 → p_standing args M Q E → w_standing (EDef E) (DDef Q) (startP 1 args) M := by
  rintro args M Q E - ⟨-, p, rfl, ⟨d, n, k, rest, rfl, d0, d9, n0, n9, hk⟩, q⟩
  obtain ⟨hk1, _, hl, hr⟩ := hk.pl
  obtain ⟨i1, i2⟩ := kidx_ok k hk1
  unfold w_standing
  walk_at "ss"
  refine rIx_tup (xs := .int d :: .int n :: .str k :: rest) (p := .int d) atI0 ?_
  walk_at "ss"
  refine rIx_tup (xs := .int d :: .int n :: .str k :: rest) (p := .int n) atI1 ?_
  walk_at "ss"
  refine rIx_tup (xs := .int d :: .int n :: .str k :: rest) (p := .str k) atI2 ?_
  refine qKIx_i (kds.idxOf k) i1 i2 ?_
  walk_at "ss"
  refine rSl_from (k := 3) ?_
  walk_at "ss"
  refine and_small (by simp) ?_
  exact rt_here q
theorem spec_stands_ahead : ∀ (args : List PV) (M : PH) (Q : QE) (E : PX1), args.length = 2 → p_stands_ahead args M Q E → w_stands_ahead (EDef E) (DDef Q) (startP 2 args) M := by
  rintro args M Q E - ⟨-, p, q', rfl, hp, hq, q⟩
  unfold w_stands_ahead
  walk_at "ss"
  refine ⟨rfl, p, rfl, hp, ?_⟩
  walk_at "ss"
  refine ⟨rfl, q', rfl, hq, ?_⟩
  have st_pl : ∀ {p : PV}, Pg p → ∃ xs, stV p = .tup xs ∧ Pl 8 100000 (.tup xs) := by
    rintro p ⟨d, n, k, r, rfl, d0, d9, n0, n9, h⟩
    obtain ⟨hk, hl, hlen, hr⟩ := h.pl
    refine ⟨_, rfl, (pl_tup (n := 4) (B := 20000) (L := 4) (fun x hx => ?_) (by simp)).up (by omega) (by omega)⟩
    simp only [List.mem_cons, List.not_mem_nil, or_false] at hx
    have hix : kds.idxOf k ≤ 8 := List.idxOf_le_length
    rcases hx with rfl | rfl | rfl | rfl
    · exact (pl_int (pow_big d0 (by omega))).up (by omega) (by omega)
    · exact (pl_int (pow_big n0 (by omega))).up (by omega) (by omega)
    · exact (pl_int (pow_big (by omega) (by omega))).up (by omega) (by omega)
    · exact (pl_tup (n := 3) (B := 6111) (L := 2) hr hlen).up (by omega) (by omega)
  obtain ⟨xs, e1, p1⟩ := st_pl hp
  obtain ⟨ys, e2, p2⟩ := st_pl hq
  have hc := cmp_st hp hq
  unfold ahd at q
  rw [e1, e2] at q hc ⊢
  exact ⟨pl_pur _ p1.1, pl_pur _ p2.1, shp_pl p1.1 (by have := p1.2.2.1; omega), shp_pl p2.1 (by have := p2.2.2.1; omega), hc, rt_here q⟩
theorem spec__law_is_ahead : ∀ (args : List PV) (M : PH) (Q : QE) (E : PX1), args.length = 2 → p__law_is_ahead args M Q E → w__law_is_ahead (EDef E) (DDef Q) (startP 6 args) M := by
  rintro args M Q E - ⟨-, p, q', rfl, ⟨d, n, k, r, rfl, d0, d9, n0, n9, h⟩, ⟨d', n', k', r', rfl, d0', d9', n0', n9', h'⟩, nr, q⟩
  obtain ⟨hk, hl, hlen, hr⟩ := h.pl
  obtain ⟨hk', hl', hlen', hr'⟩ := h'.pl
  rw [ahd_eq h h'] at q
  unfold w__law_is_ahead
  walk_at "ss"
  refine and_small (by simp) fun D _ nD => ?_
  have dD := nr.none nD
  generalize hM1 : pupd M D (.lst _) = M1
  have le : PLe M M1 := fun b o e => by rw [← hM1, pupd_ne (fun h => by subst h; rw [dD] at e; cases e)]; exact e
  have eD : M1 D = some (.lst (kds.map PV.str)) := by rw [← hM1]; exact pupd_same
  clear hM1
  have ret : ∀ b : Bool, Q (.bl b) M → (DDef Q).rt (.bl b) M1 := fun b z => ⟨M, le, z⟩
  walk_at "ss"
  refine and_small (by simp) ?_
  walk_at "ss"
  refine forW_k (xs := [.int 0, .int 1]) (fun i s M' => M' = M1 ∧ ∃ z3 : Option PV, s = [some (.tup (.int d :: .int n :: .str k :: r)), some (.tup (.int d' :: .int n' :: .str k' :: r')), some (.ref D), z3, none, none] ∧ (1 ≤ i → d = d') ∧ (2 ≤ i → n = n'))
    ⟨rfl, none, rfl, by omega, by omega⟩ (fun _ _ _ _ _ => trivial) ?_ ?_
  · rintro i x s M2 N hx ⟨rfl, z3, rfl, h1, h2⟩ hN
    have hi : i = 0 ∨ i = 1 := by
      have := (List.getElem?_eq_some_iff.mp hx).1
      simp at this; omega
    rcases hi with rfl | rfl
    · cases hx
      walk_at "ss"
      refine rIx_tup (p := .int d) atI0 ?_
      walk_at "ss"
      refine rIx_tup (p := .int d') atI0 ?_
      refine rNe_int ?_
      walk_at "ss"
      refine ite_i (fun hb => ?_) fun hb => ?_
      · have hne : ¬ d = d' := by simpa using hb
        walk_at "ss"
        refine rIx_tup (p := .int d) atI0 ?_
        walk_at "ss"
        refine rIx_tup (p := .int d') atI0 ?_
        refine rLtX_int (ret _ ?_)
        rwa [if_neg hne] at q
      · exact hN _ _ ⟨rfl, _, rfl, fun _ => by simpa using hb, by omega⟩
    · cases hx
      have e1 := h1 (by omega)
      walk_at "ss"
      refine rIx_tup (p := .int n) atI1 ?_
      walk_at "ss"
      refine rIx_tup (p := .int n') atI1 ?_
      refine rNe_int ?_
      walk_at "ss"
      refine ite_i (fun hb => ?_) fun hb => ?_
      · have hne : ¬ n = n' := by simpa using hb
        walk_at "ss"
        refine rIx_tup (p := .int n) atI1 ?_
        walk_at "ss"
        refine rIx_tup (p := .int n') atI1 ?_
        refine rLtX_int (ret _ ?_)
        rwa [if_pos e1, if_neg hne] at q
      · exact hN _ _ ⟨rfl, _, rfl, fun _ => e1, fun _ => by simpa using hb⟩
  rintro s M2 ⟨rfl, z3, rfl, h1, h2⟩
  have e1 := h1 (by simp)
  have e2 := h2 (by simp)
  rw [if_pos e1, if_pos e2] at q
  walk_at "ss"
  refine rIx_tup (p := .str k) atI2 ?_
  walk_at "ss"
  refine rIx_tup (p := .str k') atI2 ?_
  refine rNe_str ?_
  walk_at "ss"
  refine ite_i (fun hb => ?_) fun hb => ?_
  · have hne : ¬ k = k' := by simpa using hb
    obtain ⟨i1, i2⟩ := kidx_ok k hk
    obtain ⟨i3, i4⟩ := kidx_ok k' hk'
    walk_at "ss"
    refine ⟨tyP_lst eD, ?_⟩
    walk_at "ss"
    refine rIx_tup (p := .str k) atI2 ?_
    walk_at "ss"
    refine mLIndex_strs eD kds_ok i1 i2 ?_
    walk_at "ss"
    refine ⟨tyP_lst eD, ?_⟩
    walk_at "ss"
    refine rIx_tup (p := .str k') atI2 ?_
    walk_at "ss"
    refine mLIndex_strs eD kds_ok i3 i4 ?_
    refine rLtX_int (ret _ ?_)
    rwa [if_neg hne] at q
  have e3 : k = k' := by simpa using hb
  subst e3
  rw [if_pos rfl] at q
  walk_at "ss"
  refine rSl_from (k := 3) ?_
  walk_at "ss"
  refine rSl_from (k := 3) ?_
  walk_at "ss"
  refine forW_k (xs := List.zipWith pairP r r') (fun i s M' => M' = M2 ∧ ∃ z3 z4 z5 : Option PV, s = [some (.tup (.int d :: .int n :: .str k :: r)), some (.tup (.int d' :: .int n' :: .str k :: r')), some (.ref D), z3, z4, z5] ∧ ∀ j, j < i → r[j]? = r'[j]?)
    ⟨rfl, _, none, none, rfl, by omega⟩ (fun _ _ _ _ _ => trivial) ?_ ?_
  · rintro i x s M3 N hx ⟨rfl, z3, z4, z5, rfl, hall⟩ hN
    obtain ⟨u, v, hu, hv, rfl⟩ := zip_at hx
    have pu := hr u (List.mem_of_getElem? hu)
    have pv := hr' v (List.mem_of_getElem? hv)
    obtain ⟨kk, ku, kv⟩ := hl.get hl' i u v hu hv
    unfold pairP
    walk_at "ss"
    refine rNe_pl pu.1 pv.1 (by have := pu.2.2.1; omega) (by have := pv.2.2.1; omega) ?_
    walk_at "ss"
    refine ite_i (fun hb => ?_) fun hb => ?_
    · have hne : eqP u v = false := by simpa using hb
      walk_at "ss"
      refine rLtX_k ku kv pu pv (ret _ ?_)
      rwa [ltDs_at i u v (fun x hx => (hr x hx).1) hall hu hv (by rw [eqv_eqP pu.1 pv.1]; exact hne)] at q
    · have he : u = v := eqP_iff.mp (by simpa using hb)
      refine hN _ _ ⟨rfl, _, _, _, rfl, fun j hj => ?_⟩
      rcases Nat.lt_succ_iff_lt_or_eq.mp hj with h | h
      · exact hall j h
      · rw [h, hu, hv, he]
  rintro s M3 ⟨rfl, z3, z4, z5, rfl, hall⟩
  have hll : r.length = r'.length := by rw [hl.len, hl'.len]
  have er : r = r' := List.ext_getElem? fun j => by
    by_cases hj : j < r.length
    · exact hall j (by rw [List.length_zipWith]; omega)
    · rw [List.getElem?_eq_none (by omega), List.getElem?_eq_none (by omega)]
  subst er
  rw [ltDs_self fun x hx => (hr x hx).1] at q
  walk_at "ss"
  exact ret _ q

end PL
set_option autoImplicit false
namespace PL
open PySem PySem.Spec L2
open PyProof.Rows hiding St
set_option maxHeartbeats 4000000
local macro_rules | `(tactic| walk_at "s") => `(tactic| first
  | (with_reducible refine wSeq_i ?_) | ((with_reducible refine' wVar_i ?a ?_); (case a => rfl)) | (with_reducible refine wC_i ?_) | (with_reducible refine wOp_i ?_) | (with_reducible refine wCons_i ?_) | (with_reducible refine wNil_i ?_)
  | (with_reducible refine wSet_i ?_) | (with_reducible refine wDrop_i ?_) | (with_reducible refine wRet_i ?_) | (with_reducible refine wIf_i ?_) | (with_reducible refine wNext_i ?_) | (with_reducible refine wTup_i ?_) | (with_reducible refine wNew_i ?_) | (with_reducible refine wDisp_i ?_)
  | (with_reducible refine wTest_i ?_) | (with_reducible refine qBl_i ?_) | (with_reducible refine wTru_i ?_) | (with_reducible refine truV_bl ?_) | (with_reducible refine wAndT_i ?_) | (with_reducible refine wOrT_i ?_) | (with_reducible refine wNotT_i ?_) | (with_reducible refine wAndV_i ?_) | (with_reducible refine wOrV_i ?_) | (with_reducible refine qAnd_i ?_) | (with_reducible refine qOr_i ?_)
  | (with_reducible refine wNotV_i ?_) | (with_reducible refine qNot_i ?_) | (with_reducible refine wIfE_i ?_) | (with_reducible refine ite_t ?_) | (with_reducible refine ite_f ?_) | (with_reducible refine wCall_i ?_) | (with_reducible refine wCallK_i ?_) | (with_reducible refine wCB_i ?_) | (with_reducible refine wCBL_i ?_) | (with_reducible refine wBMt_i ?_) | (with_reducible refine wStL_i ?_) | (with_reducible refine wEqL_i ?_)
  | (with_reducible refine wSl_i ?_) | (with_reducible refine wNoP_i ?_) | (with_reducible refine wPt_i ?_) | (with_reducible refine qPt_i ?_)
  | (with_reducible refine rAdd_int ?_) | (with_reducible refine rSub_int ?_) | (with_reducible refine rLt_int ?_) | (with_reducible refine rLt_str ?_) | (with_reducible refine rLe_int ?_) | (with_reducible refine rGt_int ?_) | (with_reducible refine rGe_int ?_)
  | (with_reducible refine rEq_str ?_) | (with_reducible refine rNe_str ?_) | (with_reducible refine rEq_int ?_)
  | (with_reducible refine wFor_i ?_) | (with_reducible refine wLc_i ?_) | (with_reducible refine iAny_i ?_) | (with_reducible refine qIt_tup ?_) | (with_reducible refine iRg1_i ?_) | (with_reducible refine gNm_i ?_) | (with_reducible refine gTp_i ?_) | (with_reducible refine gAll_c ?_) | (with_reducible refine gAll_n ?_) | (with_reducible refine cOne_i ?_) | (with_reducible refine cMany2_i ?_) | (with_reducible refine cMany3_i ?_) | (with_reducible refine wYes_i ?_)
  | (with_reducible refine wJoinL_i ?_) | (with_reducible refine qJn_i ?_) | (with_reducible refine wCatEL_i ?_) | (with_reducible refine wIxL_i ?_) | (with_reducible refine cTupL_i ?_) | (with_reducible refine cLenL_i ?_)
  | (with_reducible refine iZp_i ?_) | (with_reducible refine qZip_tup ?_) | (with_reducible refine wKIx_i ?_) | (with_reducible refine wBack_i ?_) | (with_reducible refine qBack_tup ?_) | (with_reducible refine wAsg_i ?_) | (with_reducible refine wPar_i ?_) | (with_reducible refine qPar_i ?_) | (with_reducible refine rLtX_int ?_) | (with_reducible refine rLtX_str ?_) | (with_reducible refine cList_tup ?_)
  | (with_reducible refine rIsX_bl ?_) | (with_reducible refine rIsX_nn ?_) | (with_reducible refine rIsX_tup ?_) | (with_reducible refine rIsX_str ?_) | (with_reducible refine rIsX_bn ?_)
  | (with_reducible refine wSrtK_i ?_) | (with_reducible refine wRepL_i ?_) | (with_reducible refine rLeX_int ?_) | (with_reducible refine rLeX_pair ?_) | (with_reducible refine cMax2_i ?_) | (with_reducible refine cMin2_i ?_) | (with_reducible refine iNw_i ?_) | (with_reducible refine wNeg_i ?_) | (with_reducible refine qNeg_i ?_)
  | (with_reducible refine cLen_tup ?_) | (with_reducible refine cTup_tup ?_))
local macro_rules | `(tactic| walk_at "ss") => `(tactic| repeat walk_at "s")
/-! ## lists that rise strictly -/
section
variable {α : Type} {lt : α → α → Bool} {P : α → Prop}
structure StrictOn (lt : α → α → Bool) (P : α → Prop) : Prop where
  irr : ∀ a, P a → lt a a = false
  tr : ∀ a b c, P a → P b → P c → lt a b = true → lt b c = true → lt a c = true
  tot : ∀ a b, P a → P b → a ≠ b → lt a b = true ∨ lt b a = true
def Rises (lt : α → α → Bool) (xs : List α) : Prop := xs.Pairwise fun a b => lt a b = true
theorem rises_unique (O : StrictOn lt P) : ∀ (xs ys : List α), (∀ x ∈ xs, P x) → (∀ y ∈ ys, P y) → Rises lt xs → Rises lt ys → (∀ x, x ∈ xs ↔ x ∈ ys) → xs = ys
  | [], [], _, _, _, _, _ => rfl
  | [], y :: ys, _, _, _, _, h => by have := (h y).mpr List.mem_cons_self; simp at this
  | x :: xs, [], _, _, _, _, h => by have := (h x).mp List.mem_cons_self; simp at this
  | x :: xs, y :: ys, hx, hy, rx, ry, h => by
    obtain ⟨r1, r2⟩ := List.pairwise_cons.mp rx
    obtain ⟨s1, s2⟩ := List.pairwise_cons.mp ry
    have px := hx x List.mem_cons_self
    have py := hy y List.mem_cons_self
    have exy : x = y := by
      rcases List.mem_cons.mp ((h x).mp List.mem_cons_self) with e | e
      · exact e
      · rcases List.mem_cons.mp ((h y).mpr List.mem_cons_self) with e' | e'
        · exact e'.symm
        · have a := s1 x e
          have b := r1 y e'
          have := O.tr x y x px py px b a
          rw [O.irr x px] at this; cases this
    subst exy
    rw [rises_unique O xs ys (fun z hz => hx z (List.mem_cons_of_mem _ hz)) (fun z hz => hy z (List.mem_cons_of_mem _ hz)) r2 s2 fun z => ?_]
    constructor
    · intro hz
      rcases List.mem_cons.mp ((h z).mp (List.mem_cons_of_mem _ hz)) with e | e
      · subst e
        have := r1 z hz
        rw [O.irr z px] at this; cases this
      · exact e
    · intro hz
      rcases List.mem_cons.mp ((h z).mpr (List.mem_cons_of_mem _ hz)) with e | e
      · subst e
        have := s1 z hz
        rw [O.irr z px] at this; cases this
      · exact e
theorem rises_split (O : StrictOn lt P) (p : α) (hp : P p) : ∀ (xs : List α), (∀ x ∈ xs, P x) → Rises lt xs → (∀ y ∈ xs.take (xs.filter (lt · p)).length, lt y p = true) ∧ ∀ y ∈ xs.drop (xs.filter (lt · p)).length, lt y p = false
  | [], _, _ => ⟨by simp, by simp⟩
  | x :: xs, hx, r => by
    obtain ⟨r1, r2⟩ := List.pairwise_cons.mp r
    have ih := rises_split O p hp xs (fun z hz => hx z (List.mem_cons_of_mem _ hz)) r2
    cases e : lt x p with
    | true =>
      rw [List.filter_cons_of_pos (by simpa using e), List.length_cons, List.take_succ_cons, List.drop_succ_cons]
      refine ⟨fun y hy => ?_, ih.2⟩
      rcases List.mem_cons.mp hy with h | h
      · subst h; exact e
      · exact ih.1 y h
    | false =>
      have none : ∀ y ∈ xs, lt y p = false := fun y hy => by
        cases e2 : lt y p with
        | false => rfl
        | true =>
          have := O.tr x y p (hx x List.mem_cons_self) (hx y (List.mem_cons_of_mem _ hy)) hp (r1 y hy) e2
          rw [e] at this; cases this
      have ef : (x :: xs).filter (lt · p) = [] := by
        rw [List.filter_eq_nil_iff]
        intro y hy
        rcases List.mem_cons.mp hy with h | h
        · subst h; simp [e]
        · simp [none y h]
      rw [ef]
      refine ⟨by simp, fun y hy => ?_⟩
      rcases List.mem_cons.mp (by simpa using hy) with h | h
      · subst h; exact e
      · exact none y h
theorem rises_insert (O : StrictOn lt P) {p : α} (hp : P p) {xs : List α} (hx : ∀ x ∈ xs, P x) (r : Rises lt xs) (hn : p ∉ xs) : Rises lt (xs.take (xs.filter (lt · p)).length ++ [p] ++ xs.drop (xs.filter (lt · p)).length) := by
  obtain ⟨h1, h2⟩ := rises_split O p hp xs hx r
  have hd : ∀ y ∈ xs.drop (xs.filter (lt · p)).length, lt p y = true := fun y hy => by
    have hm := List.mem_of_mem_drop hy
    rcases O.tot p y hp (hx y hm) (fun e => hn (e ▸ hm)) with h | h
    · exact h
    · rw [h2 y hy] at h; cases h
  unfold Rises at r ⊢
  rw [← List.take_append_drop (xs.filter (lt · p)).length xs] at r
  obtain ⟨r1, r2, r3⟩ := List.pairwise_append.mp r
  rw [List.append_assoc, List.pairwise_append]
  refine ⟨by simpa using r1, ?_, fun a ha b hb => ?_⟩
  · rw [List.singleton_append, List.pairwise_cons]
    exact ⟨fun y hy => hd y (by simpa using hy), by simpa using r2⟩
  · rw [List.singleton_append] at hb
    rcases List.mem_cons.mp hb with h | h
    · subst h; exact h1 a (by simpa using ha)
    · exact r3 a (by simpa using ha) b (by simpa using h)
theorem insert_mem {p : α} {xs : List α} {n : Nat} {x : α} : x ∈ xs.take n ++ [p] ++ xs.drop n ↔ x ∈ xs ∨ x = p := by
  have : x ∈ xs ↔ x ∈ xs.take n ∨ x ∈ xs.drop n := by
    conv => lhs; rw [← List.take_append_drop n xs]
    exact List.mem_append
  rw [this, List.mem_append, List.mem_append, List.mem_singleton]
  constructor
  · rintro ((h | h) | h)
    · exact .inl (.inl h)
    · exact .inr h
    · exact .inl (.inr h)
  · rintro ((h | h) | h)
    · exact .inl (.inl h)
    · exact .inr h
    · exact .inl (.inr h)
end
/-! ## pages in their order -/
section
open PySem.W
abbrev TS (p : PV) : List (Int ⊕ List Nat) := TK (stV p)
theorem st_pl {p : PV} (h : Pg p) : ∃ (n : Int) (r : List PV), stV p = .tup (.int n :: r) ∧ Pl 8 100000 (stV p) := by
  obtain ⟨d, n, k, r, rfl, d0, d9, n0, n9, h⟩ := h
  obtain ⟨hk, hl, hlen, hr⟩ := h.pl
  refine ⟨_, _, rfl, (pl_tup (n := 4) (B := 20000) (L := 4) (fun x hx => ?_) (by simp)).up (by omega) (by omega)⟩
  simp only [List.mem_cons, List.not_mem_nil, or_false] at hx
  have hix : kds.idxOf k ≤ 8 := List.idxOf_le_length
  rcases hx with rfl | rfl | rfl | rfl
  · exact (pl_int (pow_big d0 (by omega))).up (by omega) (by omega)
  · exact (pl_int (pow_big n0 (by omega))).up (by omega) (by omega)
  · exact (pl_int (pow_big (by omega) (by omega))).up (by omega) (by omega)
  · exact (pl_tup (n := 3) (B := 6111) (L := 2) hr hlen).up (by omega) (by omega)
theorem st_inj {p q : PV} (hp : Pg p) (hq : Pg q) (e : stV p = stV q) : p = q := by
  obtain ⟨d, n, k, r, rfl, _, _, _, _, h⟩ := hp
  obtain ⟨d', n', k', r', rfl, _, _, _, _, h'⟩ := hq
  rw [stV, stV] at e
  have e := PV.tup.inj e
  simp only [List.cons.injEq, PV.int.injEq, PV.tup.injEq, and_true] at e
  obtain ⟨rfl, rfl, e3, rfl⟩ := e
  rw [kidx_inj h.pl.1 h'.pl.1 (by omega)]
theorem ahd_lx {p q : PV} (hp : Pg p) (hq : Pg q) : ahd p q = lx (TS p) (TS q) := by
  obtain ⟨_, _, _, p1⟩ := st_pl hp
  obtain ⟨_, _, _, q1⟩ := st_pl hq
  exact (tk_cmp (stV p) (stV q) p1.1 q1.1 (cmp_st hp hq)).2
theorem ts_inj {p q : PV} (hp : Pg p) (hq : Pg q) (e : TS p = TS q) : p = q := by
  apply Classical.byContradiction
  intro ne
  obtain ⟨_, _, _, p1⟩ := st_pl hp
  obtain ⟨_, _, _, q1⟩ := st_pl hq
  have h := (tk_cmp (stV p) (stV q) p1.1 q1.1 (cmp_st hp hq)).1 (fun z => ne (st_inj hp hq z)) [] [.inl 0]
  have e' : TK (stV p) = TK (stV q) := e
  rw [e', List.append_nil] at h
  have h1 : lx (TK (stV q)) (TK (stV q) ++ [.inl 0]) = lx ([] : List (Int ⊕ List Nat)) [.inl 0] := by
    have := lex_pre (TK (stV q)) [] [.inl 0]
    rwa [List.append_nil] at this
  rw [h1, show lx (TK (stV q)) (TK (stV q)) = false from lex_irrefl _] at h
  exact absurd h (by decide)
theorem pg_strict : StrictOn ahd Pg where
  irr a ha := by rw [ahd_lx ha ha]; exact lex_irrefl _
  tr a b c ha hb hc h1 h2 := by
    rw [ahd_lx ha hb] at h1
    rw [ahd_lx hb hc] at h2
    rw [ahd_lx ha hc]
    exact (listOrd itemOrd).trans _ _ _ h1 h2
  tot a b ha hb ne := by
    rw [ahd_lx ha hb, ahd_lx hb ha]
    cases h1 : lx (TS a) (TS b) with
    | true => exact .inl rfl
    | false =>
      cases h2 : lx (TS b) (TS a) with
      | true => exact .inr rfl
      | false => exact absurd (ts_inj ha hb ((listOrd itemOrd).total _ _ h1 h2)) ne
/-- the pages sorted by what stands for them -/
theorem sort_pages (ps : List PV) (hp : ∀ p ∈ ps, Pg p) : (sortK ps (ps.map stV)).Perm ps ∧ (sortK ps (ps.map stV)).Pairwise fun a b => ahd b a = false := by
  have e : sortK ps (ps.map stV) = ps.mergeSort (dataLe false fun p => dat (stV p)) := by
    unfold sortK
    have z : ps.zip (ps.map stV) = ps.map fun p => (p, stV p) := by
      clear hp
      induction ps with
      | nil => rfl
      | cons p r ih => rw [List.map_cons, List.map_cons, List.zip_cons_cons, ih]
    have ms := List.map_mergeSort (r := dataLe false fun p => dat (stV p)) (s := dataLe false fun p : PV × PV => dat p.2) (f := fun p => (p, stV p)) (l := ps) (fun _ _ _ _ => rfl)
    rw [z, ← ms, List.map_map]
    exact List.map_id _
  have perm : (ps.mergeSort (dataLe false fun p => dat (stV p))).Perm ps := List.mergeSort_perm _ _
  rw [e]
  refine ⟨perm, ?_⟩
  have le : ∀ a b : PV, dataLe false (fun p => dat (stV p)) a b = !lx (TS b) (TS a) := fun _ _ => rfl
  have sorted := List.pairwise_mergeSort (le := dataLe false fun p => dat (stV p)) (fun a b c h1 h2 => by
    rw [le] at h1 h2 ⊢
    cases h : lx (TS c) (TS a) with
    | false => rfl
    | true =>
      rcases (listOrd itemOrd).negTrans _ (TS b) _ h with z | z
      · rw [show lx (TS c) (TS b) = true from z] at h2; cases h2
      · rw [show lx (TS b) (TS a) = true from z] at h1; cases h1) (fun a b => by
    rw [le, le]
    cases h : lx (TS b) (TS a) with
    | false => rfl
    | true =>
      cases h2 : lx (TS a) (TS b) with
      | false => rfl
      | true =>
        have := (listOrd itemOrd).trans _ _ _ h h2
        rw [(listOrd itemOrd).irrefl] at this; cases this) ps
  refine sorted.imp_of_mem fun {a b} ha hb h => ?_
  rw [ahd_lx (hp b (perm.mem_iff.mp hb)) (hp a (perm.mem_iff.mp ha))]
  rw [le] at h
  simpa using h
theorem page_keys (ps : List PV) (hp : ∀ p ∈ ps, Pg p) : Keys (ps.map stV) where
  pl k hk := by obtain ⟨p, h, rfl⟩ := List.mem_map.mp hk; obtain ⟨_, _, _, z⟩ := st_pl (hp p h); exact z.1
  tup k hk := by obtain ⟨p, h, rfl⟩ := List.mem_map.mp hk; obtain ⟨n, r, e, _⟩ := st_pl (hp p h); exact ⟨n, r, e⟩
  cmp k hk l hl := by
    obtain ⟨p, h, rfl⟩ := List.mem_map.mp hk
    obtain ⟨q, g, rfl⟩ := List.mem_map.mp hl
    exact cmp_st (hp p h) (hp q g)
  dep k hk := by obtain ⟨p, h, rfl⟩ := List.mem_map.mp hk; obtain ⟨_, _, _, z⟩ := st_pl (hp p h); have := z.2.2.1; omega
end
def w_page_moment : WS :=
  (wRet (wSl (wVar 0) wNoP (wPt (wC (.int 2)))))
def p_page_moment : PSp := pN 1 fun args M Q _ => ∃ (d n : Int) (r : List PV), args = [.tup (.int d :: .int n :: r)] ∧ Q (.tup [.int d, .int n]) M
theorem mono_page_moment : MonoP p_page_moment := pN_mono fun ps M Q Q' E E' k _ ⟨d, n, r, h1, h2⟩ => ⟨d, n, r, h1, k _ _ h2⟩
theorem len_page_moment : LenP p_page_moment 1 := pN_len
theorem spec_page_moment : ∀ (args : List PV) (M : PH) (Q : QE) (E : PX1), args.length = 1 → p_page_moment args M Q E → w_page_moment (EDef E) (DDef Q) (startP 1 args) M := by
  rintro args M Q E - ⟨-, d, n, r, rfl, q⟩
  unfold w_page_moment
  walk_at "ss"
  refine rSl_to (k := 2) ?_
  exact rt_here q

end PL
set_option autoImplicit false
namespace PL
open PySem PySem.Spec L2
open PyProof.Rows hiding St
set_option maxHeartbeats 4000000
local macro_rules | `(tactic| walk_at "s") => `(tactic| first
  | (with_reducible refine wSeq_i ?_) | ((with_reducible refine' wVar_i ?a ?_); (case a => rfl)) | (with_reducible refine wC_i ?_) | (with_reducible refine wOp_i ?_) | (with_reducible refine wCons_i ?_) | (with_reducible refine wNil_i ?_)
  | (with_reducible refine wSet_i ?_) | (with_reducible refine wDrop_i ?_) | (with_reducible refine wRet_i ?_) | (with_reducible refine wIf_i ?_) | (with_reducible refine wNext_i ?_) | (with_reducible refine wTup_i ?_) | (with_reducible refine wNew_i ?_) | (with_reducible refine wDisp_i ?_)
  | (with_reducible refine wTest_i ?_) | (with_reducible refine qBl_i ?_) | (with_reducible refine wTru_i ?_) | (with_reducible refine truV_bl ?_) | (with_reducible refine wAndT_i ?_) | (with_reducible refine wOrT_i ?_) | (with_reducible refine wNotT_i ?_) | (with_reducible refine wAndV_i ?_) | (with_reducible refine wOrV_i ?_) | (with_reducible refine qAnd_i ?_) | (with_reducible refine qOr_i ?_)
  | (with_reducible refine wNotV_i ?_) | (with_reducible refine qNot_i ?_) | (with_reducible refine wIfE_i ?_) | (with_reducible refine ite_t ?_) | (with_reducible refine ite_f ?_) | (with_reducible refine wCall_i ?_) | (with_reducible refine wCallK_i ?_) | (with_reducible refine wCB_i ?_) | (with_reducible refine wCBL_i ?_) | (with_reducible refine wBMt_i ?_) | (with_reducible refine wStL_i ?_) | (with_reducible refine wEqL_i ?_)
  | (with_reducible refine wSl_i ?_) | (with_reducible refine wNoP_i ?_) | (with_reducible refine wPt_i ?_) | (with_reducible refine qPt_i ?_)
  | (with_reducible refine rAdd_int ?_) | (with_reducible refine rSub_int ?_) | (with_reducible refine rLt_int ?_) | (with_reducible refine rLt_str ?_) | (with_reducible refine rLe_int ?_) | (with_reducible refine rGt_int ?_) | (with_reducible refine rGe_int ?_)
  | (with_reducible refine rEq_str ?_) | (with_reducible refine rNe_str ?_) | (with_reducible refine rEq_int ?_)
  | (with_reducible refine wFor_i ?_) | (with_reducible refine wLc_i ?_) | (with_reducible refine iAny_i ?_) | (with_reducible refine qIt_tup ?_) | (with_reducible refine iRg1_i ?_) | (with_reducible refine gNm_i ?_) | (with_reducible refine gTp_i ?_) | (with_reducible refine gAll_c ?_) | (with_reducible refine gAll_n ?_) | (with_reducible refine cOne_i ?_) | (with_reducible refine cMany2_i ?_) | (with_reducible refine cMany3_i ?_) | (with_reducible refine wYes_i ?_)
  | (with_reducible refine wJoinL_i ?_) | (with_reducible refine qJn_i ?_) | (with_reducible refine wCatEL_i ?_) | (with_reducible refine wIxL_i ?_) | (with_reducible refine cTupL_i ?_) | (with_reducible refine cLenL_i ?_)
  | (with_reducible refine iZp_i ?_) | (with_reducible refine qZip_tup ?_) | (with_reducible refine wKIx_i ?_) | (with_reducible refine wBack_i ?_) | (with_reducible refine qBack_tup ?_) | (with_reducible refine wAsg_i ?_) | (with_reducible refine wPar_i ?_) | (with_reducible refine qPar_i ?_) | (with_reducible refine rLtX_int ?_) | (with_reducible refine rLtX_str ?_) | (with_reducible refine cList_tup ?_)
  | (with_reducible refine rIsX_bl ?_) | (with_reducible refine rIsX_nn ?_) | (with_reducible refine rIsX_tup ?_) | (with_reducible refine rIsX_str ?_) | (with_reducible refine rIsX_bn ?_)
  | (with_reducible refine wSrtK_i ?_) | (with_reducible refine wRepL_i ?_) | (with_reducible refine rLeX_int ?_) | (with_reducible refine rLeX_pair ?_) | (with_reducible refine cMax2_i ?_) | (with_reducible refine cMin2_i ?_) | (with_reducible refine iNw_i ?_) | (with_reducible refine wNeg_i ?_) | (with_reducible refine qNeg_i ?_)
  | (with_reducible refine cLen_tup ?_) | (with_reducible refine cTup_tup ?_))
local macro_rules | `(tactic| walk_at "ss") => `(tactic| repeat walk_at "s")
def IsBook (ps b : List PV) : Prop := Rises ahd b ∧ ∀ x, x ∈ b ↔ x ∈ ps
theorem IsBook.eq {ps b c : List PV} (hp : ∀ x ∈ ps, Pg x) (h : IsBook ps b) (g : IsBook ps c) : b = c :=
  rises_unique pg_strict b c (fun x hx => hp x ((h.2 x).mp hx)) (fun x hx => hp x ((g.2 x).mp hx)) h.1 g.1 fun x => (h.2 x).trans (g.2 x).symm
def p_in_order : PSp := pN 1 fun args M Q _ => ∃ (p : PV) (ps : List PV), args = [p] ∧ seqAt M p = some ps ∧ (∀ x ∈ ps, Pg x) ∧ ps.length ≤ 1000 ∧ NR M ∧ ∀ b, IsBook ps b → b.length ≤ ps.length → Q (.tup b) M
theorem mono_in_order : MonoP p_in_order := pN_mono fun ps M Q Q' E E' k _ ⟨p, xs, h1, h2, h3, h4, h5, h6⟩ => ⟨p, xs, h1, h2, h3, h4, h5, fun b a c => k _ _ (h6 b a c)⟩
theorem len_in_order : LenP p_in_order 1 := pN_len
def p__law_book : PSp := pN 1 fun args M Q _ => ∃ (a : Addr) (ps : List PV), args = [.ref a] ∧ M a = some (.lst ps) ∧ (∀ x ∈ ps, Pg x) ∧ ps.length ≤ 1000 ∧ NR M ∧ ∀ b, IsBook ps b → b.length ≤ ps.length → Q (.tup b) M
theorem mono__law_book : MonoP p__law_book := pN_mono fun ps M Q Q' E E' k _ ⟨p, xs, h1, h2, h3, h4, h5, h6⟩ => ⟨p, xs, h1, h2, h3, h4, h5, fun b a c => k _ _ (h6 b a c)⟩
theorem len__law_book : LenP p__law_book 1 := pN_len
theorem pgs_pl {xs : List PV} (h : ∀ x ∈ xs, Pg x) : pls xs = true ∧ dpts xs ≤ 4 := ⟨pls_all fun x hx => (pg_pl (h x hx)).1, dpts_all fun x hx => (pg_pl (h x hx)).2.2.1⟩
theorem any_yes {xs : List PV} {p : PV} (h : p ∈ xs) : (xs.any fun z => eqP z p) = true := List.any_eq_true.mpr ⟨p, h, eqP_iff.mpr rfl⟩
theorem any_no {xs : List PV} {p : PV} (h : p ∉ xs) : (xs.any fun z => eqP z p) = false := List.any_eq_false.mpr fun z hz e => h (eqP_iff.mp e ▸ hz)
theorem rIn_lst {neg : Bool} {p : PV} {a : Addr} {xs : List PV} {M : PH} {Q : QE} (e : M a = some (.lst xs)) (h : pl p = true) (g : pls xs = true) (d1 : dpt p ≤ 64) (d2 : dpts xs ≤ 63) (k : Q (.bl (if neg then !(xs.any fun z => eqP z p) else xs.any fun z => eqP z p)) M) : rInG neg p (.ref a) M Q := by
  unfold rInG
  dsimp only
  rw [e]
  dsimp only
  rw [datM_pl h, datM_lst e (pls_purs xs g)]
  dsimp only
  refine ⟨shp_pl h d1, shp_list g d2, ?_⟩
  rw [any_eqv h xs g]; exact k
theorem atI_last {α : Type} {xs : List α} {z : α} : atI (xs ++ [z]) (-1) = some z := by
  unfold atI ixN
  simp
  have h1 : (1 : Int) ≤ (xs.length : Int) + 1 := by omega
  have h2 : (-1 + ((xs.length : Int) + 1)).toNat = xs.length := by omega
  rw [if_pos h1, h2]
  simp
theorem rises_snoc {fs : List PV} {x : PV} (hf : ∀ f ∈ fs, Pg f) (hx : Pg x) (r : Rises ahd fs) (h : ∀ f ∈ fs, ahd x f = false) (n : x ∉ fs) : Rises ahd (fs ++ [x]) := by
  unfold Rises at r ⊢
  rw [List.pairwise_append]
  refine ⟨r, by simp, fun a ha b hb => ?_⟩
  rw [List.mem_singleton] at hb; subst hb
  rcases pg_strict.tot a b (hf a ha) hx (fun e => n (e ▸ ha)) with z | z
  · exact z
  · rw [h a ha] at z; cases z
theorem rises_last {fs : List PV} {x z : PV} (r : Rises ahd (fs ++ [z])) (h : x ∈ fs) : ahd x z = true := by
  unfold Rises at r
  exact (List.pairwise_append.mp r).2.2 x h z (by simp)
/-- what stands until a moment -/
def isBy (d n : Int) (p : PV) : Bool := match p with
  | .tup (.int a :: .int b :: _) => decide (a < d ∨ (a = d ∧ b ≤ n))
  | _ => false
def p_up_to : PSp := pN 2 fun args M Q _ => ∃ (b : List PV) (u : PV), args = [.tup b, u] ∧ (∀ x ∈ b, Pg x) ∧ b.length ≤ 1000 ∧ ((u = .non ∧ Q (.tup b) M) ∨ ∃ d n : Int, u = .tup [.int d, .int n] ∧ Q (.tup (b.filter (isBy d n))) M)
theorem mono_up_to : MonoP p_up_to := pN_mono fun ps M Q Q' E E' k _ ⟨b, u, h1, h2, h3, h4⟩ => ⟨b, u, h1, h2, h3, h4.elim (fun ⟨a, c⟩ => .inl ⟨a, k _ _ c⟩) fun ⟨d, n, a, c⟩ => .inr ⟨d, n, a, k _ _ c⟩⟩
theorem len_up_to : LenP p_up_to 2 := pN_len
def w_in_order : WS :=
  (wSeq (wSet 1 (wNew (wDisp wNil)))
  (wSeq (wFor (iNw (wSrtK p_standing (wVar 0))) (gNm 2) (wIf (wOrT (wTest (wEqL false (wVar 1) (wDisp wNil))) (wTest (wOp rNe (wOp rIxP (wVar 1) (wNeg (wC (.int 1)))) (wVar 2)))) (wDrop (wBMt "list" mAppend (wVar 1) (wCons (wVar 2) wNil))) wNext))
  (wRet (wCB cTup (wCons (wVar 1) wNil)))))
def w__law_book : WS :=
  (wSeq (wSet 1 (wNew (wDisp wNil)))
  (wSeq (wFor (iAny (wVar 0)) (gNm 2) (wIf (wTest (wOp (rInG true) (wVar 2) (wVar 1))) (wSeq (wSet 3 (wCB cLenL (wLc (iAny (wVar 1)) (.one 4) (wTru (wCall p__law_is_ahead (wCons (wVar 4) (wCons (wVar 2) wNil)) [])) (wVar 4) [4])))
  (wDrop (wBMt "list" mInsert (wVar 1) (wCons (wVar 3) (wCons (wVar 2) wNil))))) wNext))
  (wRet (wCB cTup (wCons (wVar 1) wNil)))))
def w_up_to : WS :=
  (wRet (wCB cTupL (wLc (iAny (wVar 0)) (.one 2) (wOrT (wTest (wOp (rIsX false) (wVar 1) (wC .non))) (wTest (wOp rLeX (wCall p_page_moment (wCons (wVar 2) wNil) []) (wVar 1)))) (wVar 2) [2])))
theorem spec_in_order : ∀ (args : List PV) (M : PH) (Q : QE) (E : PX1), args.length = 1 → p_in_order args M Q E → w_in_order (EDef E) (DDef Q) (startP 3 args) M := by
  rintro args M Q E - ⟨-, p, ps, rfl, hs, hp, hl, nr, q⟩
  unfold w_in_order
  walk_at "ss"
  refine and_small (by simp) fun D _ nD => ?_
  have dD := nr.none nD
  have le0 : PLe M (pupd M D (.lst [])) := fun b o e => by rw [pupd_ne (fun h => by subst h; rw [dD] at e; cases e)]; exact e
  have eD : pupd M D (.lst []) D = some (.lst []) := pupd_same
  have hs1 : seqAt (pupd M D (.lst [])) p = some ps := by
    cases p with
    | tup xs => exact hs
    | ref a =>
      have : a ≠ D := fun h => by
        subst h
        unfold seqAt listAt at hs
        dsimp only at hs
        rw [dD] at hs; cases hs
      unfold seqAt listAt at hs ⊢
      dsimp only at hs ⊢
      rw [pupd_ne this]; exact hs
    | _ => cases hs
  generalize pupd M D (.lst []) = M1 at le0 eD hs1 ⊢
  walk_at "ss"
  refine ⟨ps, ps.map stV, hs1, by simp, page_keys ps hp, fun i y key hy hk => ?_, ?_⟩
  · rw [List.getElem?_map, hy] at hk
    cases hk
    exact ⟨rfl, y, rfl, hp y (List.mem_of_getElem? hy), rfl, rfl⟩
  obtain ⟨perm, srt⟩ := sort_pages ps hp
  generalize sortK ps (ps.map stV) = S at perm srt ⊢
  have hS : ∀ x ∈ S, Pg x := fun x hx => hp x (perm.mem_iff.mp hx)
  have hSl := perm.length_eq
  refine forW_k (xs := S) (fun i s M' => ∃ (z2 : Option PV) (fs : List PV), s = [some p, some (.ref D), z2] ∧ M' D = some (.lst fs) ∧ PLe M M' ∧ Rises ahd fs ∧ (∀ x, x ∈ fs ↔ x ∈ S.take i) ∧ fs.length ≤ i)
    ⟨none, [], rfl, eD, le0, List.Pairwise.nil, by simp, by simp⟩ (fun _ _ _ _ _ => trivial) ?_ ?_
  · rintro i x s M2 N hx ⟨z2, fs, rfl, e2, le2, r, hm, hfl⟩ hN
    have px := hS x (List.mem_of_getElem? hx)
    have hi := (List.getElem?_eq_some_iff.mp hx).1
    have pf : ∀ f ∈ fs, Pg f := fun f hf => hS f (List.mem_of_mem_take ((hm f).mp hf))
    obtain ⟨f1, f2⟩ := pgs_pl pf
    have gx := pg_pl px
    have et : S.take (i + 1) = S.take i ++ [x] := by rw [List.take_add_one, hx]; rfl
    have hxf : ∀ f ∈ fs, ahd x f = false := fun f hf => by
      obtain ⟨j, hj, ej⟩ := List.getElem_of_mem ((hm f).mp hf)
      have hj2 : j < i := by rw [List.length_take] at hj; omega
      have := List.pairwise_iff_getElem.mp srt j i (by omega) hi hj2
      rw [List.getElem_take] at ej
      rw [ej, (List.getElem?_eq_some_iff.mp hx).2] at this
      exact this
    have add : x ∉ fs → N [some p, some (.ref D), some x] (pupd M2 D (.lst (fs ++ [x]))) := fun n => by
      refine hN _ _ ⟨_, fs ++ [x], rfl, pupd_same, fun b o e => ?_, rises_snoc pf px r hxf n, fun y => ?_, by simp; omega⟩
      · rw [pupd_ne (fun h => by subst h; rw [dD] at e; cases e)]; exact le2 b o e
      · rw [et, List.mem_append, List.mem_append, hm y]
    have keep : x ∈ fs → N [some p, some (.ref D), some x] M2 := fun h => by
      refine hN _ _ ⟨_, fs, rfl, e2, le2, r, fun y => ?_, by omega⟩
      rw [et, List.mem_append, ← hm y, List.mem_singleton]
      exact ⟨.inl, fun h' => h'.elim id fun e => e ▸ h⟩
    have app : x ∉ fs → wDrop (wBMt "list" mAppend (wVar 1) (wCons (wVar 2) wNil)) (EDef E) { nx := N, rt := (DDef Q).rt, bk := (DDef Q).bk, ct := N } [some p, some (.ref D), some x] M2 := fun n => by
      walk_at "ss"
      refine ⟨tyP_lst e2, ?_⟩
      walk_at "ss"
      exact mAppend_i e2 (by rw [sizeLine_eq]; omega) (add n)
    walk_at "ss"
    refine and_small (by simp) (eqL_i e2 f1 (by rw [pls]) (by omega) (by rw [dpts]; omega) ?_)
    walk_at "ss"
    rcases List.eq_nil_or_concat fs with h0 | ⟨gs, z, h0⟩
    · have : eqP (.tup fs) (.tup []) = true := eqP_iff.mpr (by rw [h0])
      rw [this]
      exact ite_t (app (by rw [h0]; simp))
    · rw [List.concat_eq_append] at h0
      have : eqP (.tup fs) (.tup []) = false := by
        cases e : eqP (.tup fs) (.tup []) with
        | false => rfl
        | true => have := PV.tup.inj (eqP_iff.mp e); rw [h0] at this; simp at this
      rw [this]
      refine ite_i (fun h => by simp at h) fun _ => ?_
      walk_at "ss"
      have hz : Pg z := pf z (by rw [h0]; simp)
      have gz := pg_pl hz
      refine rIx_lst e2 (p := z) (by rw [h0]; exact atI_last) ?_
      walk_at "ss"
      refine rNe_pl gz.1 gx.1 (by have := gz.2.2.1; omega) (by have := gx.2.2.1; omega) ?_
      walk_at "ss"
      refine ite_i (fun hb => ?_) fun hb => ?_
      · have hne : ¬ z = x := fun e => by
          have : eqP z x = true := eqP_iff.mpr e
          rw [this] at hb; cases hb
        refine app fun hxm => ?_
        rw [h0] at hxm r hxf
        rcases List.mem_append.mp hxm with h | h
        · have := rises_last r h
          rw [hxf z (by simp)] at this; cases this
        · rw [List.mem_singleton] at h; exact hne h.symm
      · have he : z = x := eqP_iff.mp (by simpa using hb)
        exact keep (by rw [h0, ← he]; simp)
  rintro s M2 ⟨z2, fs, rfl, e2, le2, r, hm, hfl⟩
  walk_at "ss"
  refine cTup_lst e2 ⟨M, le2, q fs ⟨r, fun x => ?_⟩ (by omega)⟩
  rw [hm x, List.take_of_length_le (Nat.le_refl _)]
  exact perm.mem_iff
theorem filter_fm {α : Type} (t : α → Bool) : ∀ xs : List α, xs.filterMap (fun o => if t o = true then some o else none) = xs.filter t
  | [] => rfl
  | x :: xs => by
    have ih := filter_fm t xs
    cases h : t x with
    | true => rw [List.filter_cons_of_pos h, List.filterMap_cons_some (b := x) (by simp [h]), ih]
    | false => rw [List.filter_cons_of_neg (by simp [h]), List.filterMap_cons_none (by simp [h]), ih]
theorem spec__law_book : ∀ (args : List PV) (M : PH) (Q : QE) (E : PX1), args.length = 1 → p__law_book args M Q E → w__law_book (EDef E) (DDef Q) (startP 5 args) M := by
  rintro args M Q E - ⟨-, a, ps, rfl, ha, hp, hl, nr, q⟩
  unfold w__law_book
  walk_at "ss"
  refine and_small (by simp) fun D _ nD => ?_
  have dD := nr.none nD
  have le0 : PLe M (pupd M D (.lst [])) := fun b o e => by rw [pupd_ne (fun h => by subst h; rw [dD] at e; cases e)]; exact e
  have eD : pupd M D (.lst []) D = some (.lst []) := pupd_same
  have nr1 : NR (pupd M D (.lst [])) := nr.upd
  generalize pupd M D (.lst []) = M1 at le0 eD nr1 ⊢
  walk_at "ss"
  refine qIt_lst (le0 _ _ ha) ?_
  refine forW_k (xs := ps) (fun i s M' => ∃ (z2 z3 z4 : Option PV) (fs : List PV), s = [some (.ref a), some (.ref D), z2, z3, z4] ∧ M' D = some (.lst fs) ∧ PLe M M' ∧ NR M' ∧ Rises ahd fs ∧ (∀ x, x ∈ fs ↔ x ∈ ps.take i) ∧ fs.length ≤ i)
    ⟨none, none, none, [], rfl, eD, le0, nr1, List.Pairwise.nil, by simp, by simp⟩ (fun i s M' _ ⟨_, _, _, _, _, _, le, _⟩ => listAt_lst (le _ _ ha)) ?_ ?_
  · rintro i x s M2 N hx ⟨z2, z3, z4, fs, rfl, e2, le2, nr2, r, hm, hfl⟩ hN
    have px := hp x (List.mem_of_getElem? hx)
    have hi := (List.getElem?_eq_some_iff.mp hx).1
    have pf : ∀ f ∈ fs, Pg f := fun f hf => hp f (List.mem_of_mem_take ((hm f).mp hf))
    obtain ⟨f1, f2⟩ := pgs_pl pf
    have gx := pg_pl px
    have et : ps.take (i + 1) = ps.take i ++ [x] := by rw [List.take_add_one, hx]; rfl
    walk_at "ss"
    refine rIn_lst e2 gx.1 f1 (by have := gx.2.2.1; omega) (by omega) ?_
    by_cases hmem : x ∈ fs
    · rw [any_yes hmem]
      walk_at "ss"
      refine ite_i (fun h => by simp at h) fun _ => ?_
      refine hN _ _ ⟨_, _, _, fs, rfl, e2, le2, nr2, r, fun y => ?_, by omega⟩
      rw [et, List.mem_append, ← hm y, List.mem_singleton]
      exact ⟨.inl, fun h' => h'.elim id fun e => e ▸ hmem⟩
    · rw [any_no hmem]
      walk_at "ss"
      refine ite_i (fun _ => ?_) fun h => by simp at h
      walk_at "ss"
      refine qIt_lst e2 ?_
      refine lcW_p (xs := fs) (fun o => if ahd o x = true then some o else none) (by rw [sizeLine_eq]; omega) (listAt_lst e2) ?_ ?_
      · rintro o T F ho hT hF
        walk_at "ss"
        refine ⟨rfl, o, x, rfl, pf o ho, px, nr2, ?_⟩
        walk_at "ss"
        refine ite_i (fun h => ?_) fun h => ?_
        · walk_at "ss"
          exact hT _ (by simp [h])
        · exact hF (by simp [h])
      rw [filter_fm (fun o => ahd o x)]
      walk_at "ss"
      refine ⟨tyP_lst e2, ?_⟩
      walk_at "ss"
      have hfl2 : (fs.filter (ahd · x)).length ≤ fs.length := List.length_filter_le _ _
      refine mInsert_i e2 (by rw [sizeLine_eq]; omega) (by omega) ?_
      refine hN _ _ ⟨_, _, _, _, rfl, pupd_same, fun b o e => ?_, nr2.upd, rises_insert pg_strict px pf r hmem, fun y => ?_, ?_⟩
      · rw [pupd_ne (fun h => by subst h; rw [dD] at e; cases e)]; exact le2 b o e
      · rw [insert_mem, et, List.mem_append, ← hm y, List.mem_singleton]
      · simp; omega
  rintro s M2 ⟨z2, z3, z4, fs, rfl, e2, le2, nr2, r, hm, hfl⟩
  walk_at "ss"
  refine cTup_lst e2 ⟨M, le2, q fs ⟨r, fun x => ?_⟩ (by omega)⟩
  rw [hm x, List.take_of_length_le (Nat.le_refl _)]
theorem spec_up_to : ∀ (args : List PV) (M : PH) (Q : QE) (E : PX1), args.length = 2 → p_up_to args M Q E → w_up_to (EDef E) (DDef Q) (startP 3 args) M := by
  rintro args M Q E - ⟨-, b, u, rfl, hb, hl, q⟩
  unfold w_up_to
  walk_at "ss"
  rcases q with ⟨rfl, q⟩ | ⟨d, n, rfl, q⟩
  · refine lcW_p (xs := b) (fun o => some o) (by rw [sizeLine_eq]; omega) trivial ?_ ?_
    · rintro o T F ho hT hF
      walk_at "ss"
      refine ite_i (fun _ => ?_) fun h => by simp at h
      walk_at "ss"
      exact hT _ rfl
    · have : b.filterMap (fun o => some o) = b := List.filterMap_some
      rw [this]
      exact rt_here q
  · refine lcW_p (xs := b) (fun o => if isBy d n o = true then some o else none) (by rw [sizeLine_eq]; omega) trivial ?_ ?_
    · rintro o T F ho hT hF
      obtain ⟨d', n', k', r', rfl, _⟩ := hb o ho
      have ei : isBy d n (.tup (.int d' :: .int n' :: .str k' :: r')) = decide (d' < d ∨ (d' = d ∧ n' ≤ n)) := rfl
      walk_at "ss"
      refine ⟨rfl, d', n', _, rfl, ?_⟩
      walk_at "ss"
      refine ite_i (fun h => ?_) fun h => ?_
      · walk_at "ss"
        exact hT _ (by rw [ei, h]; rfl)
      · exact hF (by rw [ei, h]; rfl)
    · rw [filter_fm]
      exact rt_here q

end PL
set_option autoImplicit false
namespace PL
open PySem PySem.Spec L2
open PyProof.Rows hiding St
set_option maxHeartbeats 4000000
local macro_rules | `(tactic| walk_at "s") => `(tactic| first
  | (with_reducible refine wSeq_i ?_) | ((with_reducible refine' wVar_i ?a ?_); (case a => rfl)) | (with_reducible refine wC_i ?_) | (with_reducible refine wOp_i ?_) | (with_reducible refine wCons_i ?_) | (with_reducible refine wNil_i ?_)
  | (with_reducible refine wSet_i ?_) | (with_reducible refine wDrop_i ?_) | (with_reducible refine wRet_i ?_) | (with_reducible refine wIf_i ?_) | (with_reducible refine wNext_i ?_) | (with_reducible refine wTup_i ?_) | (with_reducible refine wNew_i ?_) | (with_reducible refine wDisp_i ?_)
  | (with_reducible refine wTest_i ?_) | (with_reducible refine qBl_i ?_) | (with_reducible refine wTru_i ?_) | (with_reducible refine truV_bl ?_) | (with_reducible refine wAndT_i ?_) | (with_reducible refine wOrT_i ?_) | (with_reducible refine wNotT_i ?_) | (with_reducible refine wAndV_i ?_) | (with_reducible refine wOrV_i ?_) | (with_reducible refine qAnd_i ?_) | (with_reducible refine qOr_i ?_)
  | (with_reducible refine wNotV_i ?_) | (with_reducible refine qNot_i ?_) | (with_reducible refine wIfE_i ?_) | (with_reducible refine ite_t ?_) | (with_reducible refine ite_f ?_) | (with_reducible refine wCall_i ?_) | (with_reducible refine wCallK_i ?_) | (with_reducible refine wCB_i ?_) | (with_reducible refine wCBL_i ?_) | (with_reducible refine wBMt_i ?_) | (with_reducible refine wStL_i ?_) | (with_reducible refine wEqL_i ?_)
  | (with_reducible refine wSl_i ?_) | (with_reducible refine wNoP_i ?_) | (with_reducible refine wPt_i ?_) | (with_reducible refine qPt_i ?_)
  | (with_reducible refine rAdd_int ?_) | (with_reducible refine rSub_int ?_) | (with_reducible refine rLt_int ?_) | (with_reducible refine rLt_str ?_) | (with_reducible refine rLe_int ?_) | (with_reducible refine rGt_int ?_) | (with_reducible refine rGe_int ?_)
  | (with_reducible refine rEq_str ?_) | (with_reducible refine rNe_str ?_) | (with_reducible refine rEq_int ?_)
  | (with_reducible refine wFor_i ?_) | (with_reducible refine wLc_i ?_) | (with_reducible refine iAny_i ?_) | (with_reducible refine qIt_tup ?_) | (with_reducible refine iRg1_i ?_) | (with_reducible refine gNm_i ?_) | (with_reducible refine gTp_i ?_) | (with_reducible refine gAll_c ?_) | (with_reducible refine gAll_n ?_) | (with_reducible refine cOne_i ?_) | (with_reducible refine cMany2_i ?_) | (with_reducible refine cMany3_i ?_) | (with_reducible refine wYes_i ?_)
  | (with_reducible refine wJoinL_i ?_) | (with_reducible refine qJn_i ?_) | (with_reducible refine wCatEL_i ?_) | (with_reducible refine wIxL_i ?_) | (with_reducible refine cTupL_i ?_) | (with_reducible refine cLenL_i ?_)
  | (with_reducible refine iZp_i ?_) | (with_reducible refine qZip_tup ?_) | (with_reducible refine wKIx_i ?_) | (with_reducible refine wBack_i ?_) | (with_reducible refine qBack_tup ?_) | (with_reducible refine wAsg_i ?_) | (with_reducible refine wPar_i ?_) | (with_reducible refine qPar_i ?_) | (with_reducible refine rLtX_int ?_) | (with_reducible refine rLtX_str ?_) | (with_reducible refine cList_tup ?_)
  | (with_reducible refine rIsX_bl ?_) | (with_reducible refine rIsX_nn ?_) | (with_reducible refine rIsX_tup ?_) | (with_reducible refine rIsX_str ?_) | (with_reducible refine rIsX_bn ?_)
  | (with_reducible refine wSrtK_i ?_) | (with_reducible refine wRepL_i ?_) | (with_reducible refine rLeX_int ?_) | (with_reducible refine rLeX_pair ?_) | (with_reducible refine cMax2_i ?_) | (with_reducible refine cMin2_i ?_) | (with_reducible refine iNw_i ?_) | (with_reducible refine wNeg_i ?_) | (with_reducible refine qNeg_i ?_)
  | (with_reducible refine cLen_tup ?_) | (with_reducible refine cTup_tup ?_))
local macro_rules | `(tactic| walk_at "ss") => `(tactic| repeat walk_at "s")
theorem rAdd_lst {a b : Addr} {xs ys : List PV} {M : PH} {Q : QE} (ea : M a = some (.lst xs)) (eb : M b = some (.lst ys)) (hz : xs.length + ys.length ≤ sizeLine) (h : ∀ D, ¬ Wr M D → Q (.ref D) (pupd M D (.lst (xs ++ ys)))) : rAdd (.ref a) (.ref b) M Q := ⟨xs, ys, ea, eb, hz, h⟩
theorem use_words {M0 M : PH} {a C : Addr} {c : Nat} {Q : QE} {E} (F : Fm M0 M a C c) (hc : c + 24 ≤ 1000000000000)
    (h : ∀ (D : Addr) (ws : List Str) (M' : PH), W8 M' a D ws → M D = none → Fm M0 M' a C (c + 24) → Fm M M' a C (c + 24) → Q (.ref D) M') : p__law_words [.ref a] M Q E :=
  pFg_use () F rfl hc rfl fun r M' ⟨D, ws, e, h1, h2, h3, h4⟩ F1 F2 => by
    subst e
    exact h D ws M' ⟨h2, fun e => by subst e; exact F.at_a h1, h3, h4⟩ h1 F1 F2
theorem pgs_tl {b : List PV} (h : ∀ x ∈ b, Pg x) (hl : b.length ≤ 14) : Pl 5 428137 (.tup b) := pl_tup (n := 4) (B := 30579) (L := 14) (fun x hx => pg_pl (h x hx)) hl
theorem repr_pages {b : List PV} (h : ∀ x ∈ b, Pg x) (hl : b.length ≤ 14) {M : PH} {Q : QE} (k : Q (.str (txt (.tup b))) M) : cRepr [.tup b] M Q := by
  have g := pgs_tl h hl
  exact cRepr_tl g.2.1 (by have := g.2.2.1; omega) (by have := g.2.2.2; rw [sizeLine_eq]; omega) k
/-- a moment -/
def Mo (p : PV) : Prop := ∃ d n : Int, p = .tup [.int d, .int n]
def p__law_parted : PSp := pFg (ι := Addr × List Str) 2 700 (fun t rest M a => rest = [.ref t.1] ∧ W8 M a t.1 t.2) fun t M r M' => ∃ (D : Addr) (ps : List PV), r = .ref D ∧ M D = none ∧ M' D = some (.lst ps) ∧ ps.length ≤ 14 ∧ ∀ x ∈ ps, Pg x
theorem mono__law_parted : MonoP p__law_parted := pFg_mono
theorem len__law_parted : LenP p__law_parted 2 := pFg_len
def p__law_right : PSp := pFg (ι := Addr × List PV) 2 2 (fun t rest M a => rest = [.ref t.1] ∧ M t.1 = some (.lst t.2) ∧ t.1 ≠ a ∧ t.2.length ≤ 14 ∧ ∀ x ∈ t.2, Pg x) fun t M r M' => r = .bl true
theorem mono__law_right : MonoP p__law_right := pFg_mono
theorem len__law_right : LenP p__law_right 2 := pFg_len
abbrev p_law : PSp := LawP fun z => Builtin.Int.intBits z ≤ 1048576
def w__law_parted : WS :=
  (wSeq (wPar 2 3 (wCons (wCall p__law_page (wCons (wVar 0) (wCons (wVar 1) wNil)) []) (wCons (wCall p__law_page (wCons (wVar 0) (wCons (wVar 1) wNil)) []) wNil)))
  (wSeq (wSet 4 (wNew (wDisp (wCons (wOp rAdd (wC (.int 50000)) (wCall p__law_draw (wCons (wVar 0) (wCons (wC (.int 50000)) wNil)) [])) (wCons (wCall p__law_draw (wCons (wVar 0) (wCons (wC (.int 50000)) wNil)) []) wNil)))))
  (wSeq (wSet 5 (wNew (wLc (iRg1 (wCons (wCall p__law_draw (wCons (wVar 0) (wCons (wC (.int 4)) wNil)) []) wNil)) (.one 6) wYes (wCall p__law_page (wCons (wVar 0) (wCons (wVar 1) wNil)) []) [6])))
  (wRet (wOp rAdd (wNew (wDisp (wCons (wOp rAdd (wTup (wCons (wOp rIxP (wVar 4) (wC (.int 0))) wNil)) (wSl (wVar 2) (wPt (wC (.int 1))) wNoP)) (wCons (wOp rAdd (wTup (wCons (wOp rIxP (wVar 4) (wC (.int 1))) wNil)) (wSl (wVar 3) (wPt (wC (.int 1))) wNoP)) wNil)))) (wVar 5))))))
def w__law_right : WS :=
  (wSeq (wSet 2 (wCall p__law_book (wCons (wVar 1) wNil) []))
  (wSeq (wSet 3 (wCB cRepr (wCons (wVar 2) wNil)))
  (wSeq (wSet 4 (wCall p_in_order (wCons (wVar 1) wNil) []))
  (wSeq (wIf (wTest (wOp rNe (wCB cRepr (wCons (wVar 4) wNil)) (wVar 3))) (wRet (wC (.bl false))) wNext)
  (wSeq (wSet 5 (wNew (wDisp (wCons (wTup (wCons (wC (.int 0)) (wCons (wC (.int 0)) wNil))) (wCons (wTup (wCons (wC (.int 99999)) (wCons (wC (.int 999)) wNil))) (wCons (wTup (wCons (wCall p__law_draw (wCons (wVar 0) (wCons (wC (.int 100000)) wNil)) []) (wCons (wCall p__law_draw (wCons (wVar 0) (wCons (wC (.int 1000)) wNil)) []) wNil))) wNil))))))
  (wSeq (wFor (iAny (wVar 2)) (gNm 6) (wSeq (wAsg (wSl (wVar 6) wNoP (wPt (wC (.int 2)))) (gTp [gNm 7, gNm 8]))
  (wSeq (wSet 5 (wNew (wCatEL (wVar 5) (wDisp (wCons (wTup (wCons (wVar 7) (wCons (wVar 8) wNil))) (wCons (wTup (wCons (wVar 7) (wCons (wCB cMax2 (wCons (wC (.int 0)) (wCons (wOp rSub (wVar 8) (wC (.int 1))) wNil))) wNil))) (wCons (wTup (wCons (wVar 7) (wCons (wCB cMin2 (wCons (wC (.int 999)) (wCons (wOp rAdd (wVar 8) (wC (.int 1))) wNil))) wNil))) wNil)))))))
  (wSet 5 (wNew (wCatEL (wVar 5) (wDisp (wCons (wTup (wCons (wCB cMax2 (wCons (wC (.int 0)) (wCons (wOp rSub (wVar 7) (wC (.int 1))) wNil))) (wCons (wC (.int 999)) wNil))) (wCons (wTup (wCons (wCB cMin2 (wCons (wC (.int 99999)) (wCons (wOp rAdd (wVar 7) (wC (.int 1))) wNil))) (wCons (wC (.int 0)) wNil))) wNil)))))))))
  (wSeq (wFor (iAny (wVar 5)) (gNm 9) (wSeq (wSet 10 (wNew (wLc (iAny (wVar 2)) (.one 6) (wOrT (wTest (wOp rLtX (wOp rIxP (wVar 6) (wC (.int 0))) (wOp rIxP (wVar 9) (wC (.int 0))))) (wAndT (wTest (wOp rEq (wOp rIxP (wVar 6) (wC (.int 0))) (wOp rIxP (wVar 9) (wC (.int 0))))) (wTest (wOp rLeX (wOp rIxP (wVar 6) (wC (.int 1))) (wOp rIxP (wVar 9) (wC (.int 1))))))) (wVar 6) [6])))
  (wIf (wOrT (wTest (wOp rNe (wCB cRepr (wCons (wCall p_up_to (wCons (wVar 4) (wCons (wVar 9) wNil)) []) wNil)) (wCB cRepr (wCons (wCB cTup (wCons (wVar 10) wNil)) wNil)))) (wTest (wOp rNe (wCB cRepr (wCons (wCallK p_up_to 0 2 wNil (wCons (wVar 9) (wCons (wVar 4) wNil)) fun us ws => swap2 us ws) wNil)) (wCB cRepr (wCons (wCB cTup (wCons (wVar 10) wNil)) wNil))))) (wRet (wC (.bl false))) wNext)))
  (wSeq (wIf (wTest (wOp rNe (wCB cRepr (wCons (wNew (wDisp (wCons (wCall p_up_to (wCons (wVar 4) wNil) [.non]) (wCons (wCall p_up_to (wCons (wVar 4) (wCons (wC .non) wNil)) []) (wCons (wCallK p_up_to 1 1 (wCons (wVar 4) wNil) (wCons (wC .non) wNil) fun us ws => us ++ ws) wNil))))) wNil)) (wCB cRepr (wCons (wNew (wRepL (wDisp (wCons (wVar 2) wNil)) (wC (.int 3)))) wNil)))) (wRet (wC (.bl false))) wNext)
  (wRet (wOp rEq (wCB cRepr (wCons (wVar 4) wNil)) (wVar 3)))))))))))
def w_law : WS :=
  (wSeq (wSet 1 (wCall p__law_feed (wCons (wVar 0) wNil) []))
  (wSeq (wSet 2 (wCall p__law_words (wCons (wVar 1) wNil) []))
  (wSeq (wSet 3 (wNew (wLc (iRg1 (wCons (wIxL (wDisp (wCons (wC (.int 8)) (wCons (wC (.int 4)) (wCons (wC (.int 14)) (wCons (wC (.int 1)) (wCons (wC (.int 2)) (wCons (wC (.int 0)) (wCons (wC (.int 6)) (wCons (wC (.int 10)) wNil))))))))) (wCall p__law_draw (wCons (wVar 1) (wCons (wC (.int 8)) wNil)) [])) wNil)) (.one 4) wYes (wCall p__law_page (wCons (wVar 1) (wCons (wVar 2) wNil)) []) [4])))
  (wRet (wAndV (wCall p__law_right (wCons (wVar 1) (wCons (wVar 3) wNil)) []) (wCall p__law_right (wCons (wVar 1) (wCons (wCall p__law_parted (wCons (wVar 1) (wCons (wVar 2) wNil)) []) wNil)) []))))))
theorem spec__law_parted : ∀ (args : List PV) (M : PH) (Q : QE) (E : PX1), args.length = 2 → p__law_parted args M Q E → w__law_parted (EDef E) (DDef Q) (startP 7 args) M := by
  rintro args M Q E - ⟨-, a, C, c, rest, ⟨w, ws⟩, rfl, F, hc, ⟨rfl, W⟩, q⟩
  dsimp only at W q
  unfold w__law_parted
  walk_at "ss"
  refine use_page F (by omega) W fun p1 M1 hp1 F1 _ => ?_
  walk_at "ss"
  refine use_page F1 (by omega) (W.on F1) fun p2 M2 hp2 F2 _ => ?_
  walk_at "ss"
  refine use_draw F2 (by omega) (by omega) (by omega) fun d1 M3 d10 d11 F3 _ => ?_
  walk_at "ss"
  refine use_draw F3 (by omega) (by omega) (by omega) fun d2 M4 d20 d21 F4 _ => ?_
  walk_at "ss"
  refine and_small (by simp) fun D1 _ n1 => ?_
  have F5 := F4.new (xs := [.int (50000 + d1), .int d2]) n1
  have na1 := (F4.fresh n1).2.1
  have e1 : pupd M4 D1 (.lst [.int (50000 + d1), .int d2]) D1 = some (.lst [.int (50000 + d1), .int d2]) := pupd_same
  generalize pupd M4 D1 (.lst [.int (50000 + d1), .int d2]) = M5 at F5 e1 ⊢
  walk_at "ss"
  refine use_draw F5 (by omega) (by omega) (by omega) fun mm M6 mm0 mm1 F6 F6' => ?_
  have e16 := F6'.keep _ _ na1 e1
  walk_at "ss"
  refine qRg_i (by omega) (by omega) ?_
  refine lcW_k (fun i acc M' => Fm M M' a C (c + 130 + 130 + 1 + 1 + 1 + 130 * i) ∧ M' D1 = some (.lst [.int (50000 + d1), .int d2]) ∧ acc.length ≤ i ∧ ∀ p ∈ acc, Pg p) (by rw [sizeLine_eq]; simp; omega) ⟨F6, e16, by simp, nofun⟩ (fun _ _ _ _ _ => trivial) ?_ ?_
  · rintro i x acc M7 T N hx ⟨F7, e17, hal, hacc⟩ hT -
    have hi : i < 3 := by
      have := (List.getElem?_eq_some_iff.mp hx).1
      simp at this; omega
    walk_at "ss"
    refine use_page F7 (by omega) (W.on F7) fun v M8 hv F8 F8' => hT _ _ ⟨F8, F8'.keep _ _ na1 e17, by simp; omega, fun p hp => ?_⟩
    rcases List.mem_append.mp hp with hp | hp
    · exact hacc p hp
    · rw [List.mem_singleton] at hp; subst hp; exact hv.pg
  rintro more M7 ⟨F7, e17, hml, hmore⟩ D2 - n2
  have hml3 : more.length ≤ 3 := by simp at hml; omega
  have F8 := F7.new (xs := more) n2
  have na2 := (F7.fresh n2).2.1
  have e18 := (F7.self.new (xs := more) n2).keep _ _ na1 e17
  have e2 : pupd M7 D2 (.lst more) D2 = some (.lst more) := pupd_same
  generalize pupd M7 D2 (.lst more) = M8 at F8 e18 e2 ⊢
  obtain ⟨x1, n1', k1, r1, rfl, _, _, b1, b2, hk1, _⟩ := hp1
  obtain ⟨x2, n2', k2, r2, rfl, _, _, b3, b4, hk2, _⟩ := hp2
  walk_at "ss"
  refine rIx_lst e18 (p := .int (50000 + d1)) atI0 ?_
  walk_at "ss"
  refine and_small (by simp) ?_
  walk_at "ss"
  refine rSl_from (k := 1) ?_
  have l1 := hk1.pl.2.2.1
  have l2 := hk2.pl.2.2.1
  refine rAdd_tup (by rw [sizeLine_eq]; simp; omega) ?_
  walk_at "ss"
  refine rIx_lst e18 (p := .int d2) atI1 ?_
  walk_at "ss"
  refine and_small (by simp) ?_
  walk_at "ss"
  refine rSl_from (k := 1) ?_
  refine rAdd_tup (by rw [sizeLine_eq]; simp; omega) ?_
  walk_at "ss"
  refine and_small (by simp) fun D3 _ n3 => ?_
  have F9 := F8.new (xs := [.tup ([.int (50000 + d1)] ++ (.int n1' :: .str k1 :: r1)), .tup ([.int d2] ++ (.int n2' :: .str k2 :: r2))]) n3
  have ne23 : D2 ≠ D3 := fun e => n3 (e ▸ Wr.of e2)
  walk_at "ss"
  refine rAdd_lst pupd_same (by rw [pupd_ne ne23]; exact e2) (by rw [sizeLine_eq]; simp; omega) fun D4 n4 => ?_
  refine rt_here (q _ _ ((F9.new n4).up (by simp; omega)) ⟨D4, _, rfl, F9.fresh0 n4, pupd_same, by simp; omega, fun x hx => ?_⟩)
  simp only [List.cons_append, List.nil_append, List.drop_succ_cons, List.drop_zero, List.mem_cons] at hx
  rcases hx with rfl | rfl | hx
  · exact ⟨_, _, _, _, rfl, by omega, by omega, b1, b2, hk1⟩
  · exact ⟨_, _, _, _, rfl, by omega, by omega, b3, b4, hk2⟩
  · exact hmore x hx
theorem spec__law_right : ∀ (args : List PV) (M : PH) (Q : QE) (E : PX1), args.length = 2 → p__law_right args M Q E → w__law_right (EDef E) (DDef Q) (startP 11 args) M := by
  rintro args M Q E - ⟨-, a, C, c, rest, ⟨P, ps⟩, rfl, F, hc, ⟨rfl, eP, neP, hpl, hps⟩, q⟩
  dsimp only at eP neP hpl hps q
  unfold w__law_right
  walk_at "ss"
  refine ⟨rfl, P, ps, rfl, eP, hps, by omega, F.nr, fun b hb hbl => ?_⟩
  have hbp : ∀ x ∈ b, Pg x := fun x hx => hps x ((hb.2 x).mp hx)
  have hb14 : b.length ≤ 14 := by omega
  walk_at "ss"
  refine repr_pages hbp hb14 ?_
  walk_at "ss"
  refine ⟨rfl, .ref P, ps, rfl, by unfold seqAt listAt; dsimp only; rw [eP], hps, by omega, F.nr, fun b' hb' _ => ?_⟩
  have := hb.eq hps hb'
  subst this
  walk_at "ss"
  refine repr_pages hbp hb14 ?_
  walk_at "ss"
  refine ite_i (fun h => by simp at h) fun _ => ?_
  walk_at "ss"
  refine and_small (by simp) ?_
  walk_at "ss"
  refine and_small (by simp) ?_
  walk_at "ss"
  refine use_draw F (by omega) (by omega) (by omega) fun d1 M1 d10 d11 F1 _ => ?_
  walk_at "ss"
  refine use_draw F1 (by omega) (by omega) (by omega) fun d2 M2 d20 d21 F2 _ => ?_
  walk_at "ss"
  refine and_small (by simp) ?_
  walk_at "ss"
  refine and_small (by simp) fun D _ nD => ?_
  have F3 := F2.new (xs := [.tup [.int 0, .int 0], .tup [.int 99999, .int 999], .tup [.int d1, .int d2]]) nD
  have eD : pupd M2 D (.lst [.tup [.int 0, .int 0], .tup [.int 99999, .int 999], .tup [.int d1, .int d2]]) D = some (.lst [.tup [.int 0, .int 0], .tup [.int 99999, .int 999], .tup [.int d1, .int d2]]) := pupd_same
  generalize pupd M2 D (.lst [.tup [.int 0, .int 0], .tup [.int 99999, .int 999], .tup [.int d1, .int d2]]) = M3 at F3 eD ⊢
  walk_at "ss"
  refine forW_k (xs := b) (fun i s M' => ∃ (D : Addr) (ms : List PV) (z6 z7 z8 z9 z10 : Option PV), s = [some (.ref a), some (.ref P), some (.tup b), some (.str (txt (.tup b))), some (.tup b), some (.ref D), z6, z7, z8, z9, z10] ∧ Fm M M' a C (c + 2) ∧ M' D = some (.lst ms) ∧ ms.length ≤ 3 + 5 * i ∧ ∀ m ∈ ms, Mo m)
    ⟨D, _, none, none, none, none, none, rfl, F3, eD, by simp, fun m hm => ?_⟩ (fun _ _ _ _ _ => trivial) ?_ ?_
  · simp only [List.mem_cons, List.not_mem_nil, or_false] at hm
    rcases hm with rfl | rfl | rfl <;> exact ⟨_, _, rfl⟩
  · rintro i x s M4 N hx ⟨D, ms, z6, z7, z8, z9, z10, rfl, F4, e4, hml, hms⟩ hN
    have hi := (List.getElem?_eq_some_iff.mp hx).1
    obtain ⟨d, n, k, r, rfl, _⟩ := hbp x (List.mem_of_getElem? hx)
    walk_at "ss"
    refine rSl_to (k := 2) ?_
    show gTp _ (.tup [.int d, .int n]) _ _ _
    walk_at "ss"
    refine and_small (by simp) ?_
    walk_at "ss"
    refine and_small (by simp) ?_
    walk_at "ss"
    refine and_small (by simp) ?_
    walk_at "ss"
    refine and_small (by simp) ?_
    refine qCat_i e4 (by rw [sizeLine_eq]; simp; omega) fun D2 _ n2 => ?_
    have F5 := F4.new (xs := ms ++ [.tup [.int d, .int n], .tup [.int d, .int (if n - 1 > 0 then n - 1 else 0)], .tup [.int d, .int (if n + 1 < 999 then n + 1 else 999)]]) n2
    walk_at "ss"
    refine and_small (by simp) ?_
    walk_at "ss"
    refine and_small (by simp) ?_
    walk_at "ss"
    refine and_small (by simp) ?_
    refine qCat_i pupd_same (by rw [sizeLine_eq]; simp; omega) fun D3 _ n3 => ?_
    refine hN _ _ ⟨D3, _, _, _, _, _, _, rfl, F5.new n3, pupd_same, by simp; omega, fun m hm => ?_⟩
    simp only [List.mem_append, List.mem_cons, List.not_mem_nil, or_false] at hm
    rcases hm with (hm | rfl | rfl | rfl) | rfl | rfl
    · exact hms m hm
    all_goals exact ⟨_, _, rfl⟩
  rintro s M4 ⟨D, ms, z6, z7, z8, z9, z10, rfl, F4, e4, hml, hms⟩
  have na4 : D ≠ a := fun e => by
    subst e
    obtain ⟨ns, x, y, z, h1, _⟩ := F4.fd
    rw [e4] at h1
    cases h1
    obtain ⟨_, _, e⟩ := hms _ List.mem_cons_self
    cases e
  walk_at "ss"
  refine qIt_lst e4 ?_
  refine forW_k (xs := ms) (fun i s M' => ∃ (z6 z7 z8 z9 z10 : Option PV), s = [some (.ref a), some (.ref P), some (.tup b), some (.str (txt (.tup b))), some (.tup b), some (.ref D), z6, z7, z8, z9, z10] ∧ Fm M M' a C (c + 2) ∧ M' D = some (.lst ms))
    ⟨_, _, _, _, _, rfl, F4, e4⟩ (fun i s M' _ ⟨_, _, _, _, _, _, _, e⟩ => listAt_lst e) ?_ ?_
  · rintro i x s M5 N hx ⟨z6, z7, z8, z9, z10, rfl, F5, e5⟩ hN
    obtain ⟨d, n, rfl⟩ := hms x (List.mem_of_getElem? hx)
    have hfp : ∀ x ∈ b.filter (isBy d n), Pg x := fun x hx => hbp x (List.mem_filter.mp hx).1
    have hfl : (b.filter (isBy d n)).length ≤ 14 := by have := List.length_filter_le (isBy d n) b; omega
    walk_at "ss"
    refine lcW_p (xs := b) (fun o => if isBy d n o = true then some o else none) (by rw [sizeLine_eq]; omega) trivial ?_ ?_
    · rintro o T F' ho hT hF
      obtain ⟨d', n', k', r', rfl, _⟩ := hbp o ho
      have ei : isBy d n (.tup (.int d' :: .int n' :: .str k' :: r')) = decide (d' < d ∨ (d' = d ∧ n' ≤ n)) := rfl
      walk_at "ss"
      refine rIx_tup (p := .int d') atI0 ?_
      walk_at "ss"
      refine rIx_tup (p := .int d) atI0 ?_
      walk_at "ss"
      refine ite_i (fun h => ?_) fun h => ?_
      · have h := of_decide_eq_true h
        walk_at "ss"
        exact hT _ (by rw [ei, decide_eq_true (.inl h)]; rfl)
      · have h := of_decide_eq_false h
        walk_at "ss"
        refine rIx_tup (p := .int d') atI0 ?_
        walk_at "ss"
        refine rIx_tup (p := .int d) atI0 ?_
        walk_at "ss"
        refine ite_i (fun h2 => ?_) fun h2 => ?_
        · have h2 := of_decide_eq_true h2
          walk_at "ss"
          refine rIx_tup (p := .int n') atI1 ?_
          walk_at "ss"
          refine rIx_tup (p := .int n) atI1 ?_
          walk_at "ss"
          refine ite_i (fun h3 => ?_) fun h3 => ?_
          · have h3 := of_decide_eq_true h3
            walk_at "ss"
            exact hT _ (by rw [ei, decide_eq_true (.inr ⟨h2, h3⟩)]; rfl)
          · have h3 := of_decide_eq_false h3
            exact hF (by rw [ei, decide_eq_false (by omega)]; rfl)
        · have h2 := of_decide_eq_false h2
          walk_at "ss"
          exact hF (by rw [ei, decide_eq_false (by omega)]; rfl)
    rw [filter_fm]
    intro D2 _ n2
    have F6 := F5.new (xs := b.filter (isBy d n)) n2
    have e6 := (F5.self.new (xs := b.filter (isBy d n)) n2).keep _ _ na4 e5
    have ed : pupd M5 D2 (.lst (b.filter (isBy d n))) D2 = some (.lst (b.filter (isBy d n))) := pupd_same
    generalize pupd M5 D2 (.lst (b.filter (isBy d n))) = M6 at F6 e6 ed ⊢
    walk_at "ss"
    refine ⟨rfl, b, _, rfl, hbp, by omega, .inr ⟨d, n, rfl, ?_⟩⟩
    walk_at "ss"
    refine repr_pages hfp hfl ?_
    walk_at "ss"
    refine cTup_lst ed ?_
    walk_at "ss"
    refine repr_pages hfp hfl ?_
    refine rNe_same ?_
    walk_at "ss"
    refine ⟨rfl, rfl, rfl, b, _, rfl, hbp, by omega, .inr ⟨d, n, rfl, ?_⟩⟩
    walk_at "ss"
    refine repr_pages hfp hfl ?_
    walk_at "ss"
    refine cTup_lst ed ?_
    walk_at "ss"
    refine repr_pages hfp hfl ?_
    refine rNe_same ?_
    walk_at "ss"
    exact hN _ _ ⟨_, _, _, _, _, rfl, F6, e6⟩
  rintro s M5 ⟨z6, z7, z8, z9, z10, rfl, F5, e5⟩
  have three : ∀ {M : PH} {D : Addr} {Q : QE}, M D = some (.lst [.tup b, .tup b, .tup b]) → Q (.str (PyData.list (dats [.tup b, .tup b, .tup b])).shown) M → cRepr [.ref D] M Q := fun {M D Q} e k => by
    have g := pgs_tl hbp hb14
    have m : ∀ x ∈ [PV.tup b, .tup b, .tup b], x = .tup b := by simp
    refine cRepr_lst e (tls_all fun x hx => by rw [m x hx]; exact g.2.1) (Nat.le_trans (dpts_all (n := 5) fun x hx => by rw [m x hx]; exact g.2.2.1) (by omega)) ?_ k
    have := shns_all (n := 428137) (xs := [PV.tup b, .tup b, .tup b]) fun x hx => by rw [m x hx]; exact g.2.2.2
    rw [sizeLine_eq]; simp at this ⊢; omega
  walk_at "ss"
  refine ⟨rfl, b, _, rfl, hbp, by omega, .inl ⟨rfl, ?_⟩⟩
  walk_at "ss"
  refine ⟨rfl, b, _, rfl, hbp, by omega, .inl ⟨rfl, ?_⟩⟩
  walk_at "ss"
  refine ⟨rfl, rfl, rfl, b, _, rfl, hbp, by omega, .inl ⟨rfl, ?_⟩⟩
  walk_at "ss"
  refine and_small (by simp) fun D3 _ n3 => ?_
  have F6 := F5.new (xs := [.tup b, .tup b, .tup b]) n3
  have e3 : pupd M5 D3 (.lst [.tup b, .tup b, .tup b]) D3 = some (.lst [.tup b, .tup b, .tup b]) := pupd_same
  generalize pupd M5 D3 (.lst [.tup b, .tup b, .tup b]) = M6 at F6 e3 ⊢
  walk_at "ss"
  refine three e3 ?_
  walk_at "ss"
  refine and_small (by simp) ?_
  walk_at "ss"
  refine qRepL_i (by omega) (by omega) (by simp) fun D4 _ n4 => ?_
  have F7 := F6.new (xs := [.tup b, .tup b, .tup b]) n4
  walk_at "ss"
  refine three (pupd_same (a := D4)) ?_
  refine rNe_same ?_
  walk_at "ss"
  refine repr_pages hbp hb14 ?_
  walk_at "ss"
  rw [decide_eq_true rfl]
  exact rt_here (q _ _ F7 rfl)
theorem spec_law : ∀ (args : List PV) (M : PH) (Q : QE) (E : PX1), args.length = 1 → p_law args M Q E → w_law (EDef E) (DDef Q) (startP 5 args) M := by
  rintro args M Q E - ⟨sc, ns, rfl, hs, hon, hl, hbits, q⟩
  unfold w_law
  walk_at "ss"
  refine ⟨rfl, sc, ns, rfl, hs, hl, fun M1 a C F => ?_⟩
  walk_at "ss"
  refine use_words F (by omega) fun w ws M2 W nw F2 _ => ?_
  walk_at "ss"
  refine and_small (by simp) ?_
  walk_at "ss"
  refine use_draw F2 (by omega) (by omega) (by omega) fun mm M3 mm0 mm1 F3 F3' => ?_
  obtain ⟨k, ek, hk⟩ : ∃ k : Int, atI [PV.int 8, .int 4, .int 14, .int 1, .int 2, .int 0, .int 6, .int 10] mm = some (.int k) ∧ 0 ≤ k ∧ k ≤ 14 := by
    obtain ⟨p, e, hp⟩ := atI_in (xs := [PV.int 8, .int 4, .int 14, .int 1, .int 2, .int 0, .int 6, .int 10]) mm0 (by simpa using mm1)
    simp only [List.mem_cons, List.not_mem_nil, or_false] at hp
    rcases hp with rfl | rfl | rfl | rfl | rfl | rfl | rfl | rfl <;> exact ⟨_, e, by omega, by omega⟩
  refine qIxL_i ek ?_
  walk_at "ss"
  refine qRg_i (by omega) (by omega) ?_
  refine lcW_k (fun i acc M' => Fm M1 M' a C (30 + 130 * i) ∧ W8 M' a w ws ∧ acc.length ≤ i ∧ ∀ p ∈ acc, Pg p) (by rw [sizeLine_eq]; simp; omega) ⟨F3.up (by omega), W.on F3', by simp, nofun⟩ (fun _ _ _ _ _ => trivial) ?_ ?_
  · rintro i x acc M4 T N hx ⟨F4, W4, hal, hacc⟩ hT -
    have hi : i < 14 := by
      have := (List.getElem?_eq_some_iff.mp hx).1
      simp at this; omega
    walk_at "ss"
    refine use_page F4 (by omega) W4 fun v M5 hv F5 F5' => hT _ _ ⟨F5, W4.on F5', by simp; omega, fun p hp => ?_⟩
    rcases List.mem_append.mp hp with hp | hp
    · exact hacc p hp
    · rw [List.mem_singleton] at hp; subst hp; exact hv.pg
  rintro xs M4 ⟨F4, W4, hxl, hxs⟩ D - nD
  have hxl14 : xs.length ≤ 14 := by simp at hxl; omega
  have naD := (F4.fresh nD).2.1
  have F5 := (F4.new (xs := xs) nD).up (d := 5000) (by simp; omega)
  have W5 := W4.on (F4.self.new (xs := xs) nD)
  have eD : pupd M4 D (.lst xs) D = some (.lst xs) := pupd_same
  generalize pupd M4 D (.lst xs) = M5 at F5 W5 eD ⊢
  walk_at "ss"
  refine pFg_use (D, xs) F5 rfl (by omega) ⟨rfl, eD, naD, hxl14, hxs⟩ fun r M6 er F6 F6' => ?_
  subst er
  walk_at "ss"
  refine pFg_use (w, ws) F6 rfl (by omega) ⟨rfl, W5.on F6'⟩ fun r M7 ⟨D2, ps, er, h1, h2, h3, h4⟩ F7 F7' => ?_
  subst er
  walk_at "ss"
  refine pFg_use (D2, ps) F7 rfl (by omega) ⟨rfl, h2, fun e => by subst e; exact F6.at_a h1, h3, h4⟩ fun r M8 er F8 _ => ?_
  subst er
  exact rt_here (q _)

end PL
set_option autoImplicit false
namespace PL
open PySem PySem.Spec L2
open PyProof.Rows hiding St
def topS (i : Nat) : Stmt := PySem.Challenge.pw_cancelleaves_k09_up_to.main.body.getD i (.Pass ⟨0, 0, 0, 0⟩)
abbrev st_page_moment : Stmt := topS 2
abbrev N_page_moment : List Str := ["page"]
theorem sc_page_moment : FnScope N_page_moment ["page"] (defScope st_page_moment) := ⟨rfl, rfl, rfl, by decide +kernel, rfl, by decide +kernel, by decide +kernel⟩
abbrev st_standing : Stmt := topS 3
abbrev N_standing : List Str := ["page"]
theorem sc_standing : FnScope N_standing ["page"] (defScope st_standing) := ⟨rfl, rfl, rfl, by decide +kernel, rfl, by decide +kernel, by decide +kernel⟩
abbrev st_in_order : Stmt := topS 5
abbrev N_in_order : List Str := ["pages", "found", "page"]
theorem sc_in_order : FnScope N_in_order ["pages"] (defScope st_in_order) := ⟨rfl, rfl, rfl, by decide +kernel, rfl, by decide +kernel, by decide +kernel⟩
abbrev st_up_to : Stmt := topS 6
abbrev N_up_to : List Str := ["book", "until", "page"]
theorem sc_up_to : FnScope N_up_to ["book", "until"] (defScope st_up_to) := ⟨rfl, rfl, rfl, by decide +kernel, rfl, by decide +kernel, by decide +kernel⟩
abbrev st__law_feed : Stmt := topS 8
abbrev N__law_feed : List Str := ["script"]
theorem sc__law_feed : FnScope N__law_feed ["script"] (defScope st__law_feed) := ⟨rfl, rfl, rfl, by decide +kernel, rfl, by decide +kernel, by decide +kernel⟩
abbrev st__law_draw : Stmt := topS 9
abbrev N__law_draw : List Str := ["feed", "many", "found", "cell", "mixed"]
theorem sc__law_draw : FnScope N__law_draw ["feed", "many"] (defScope st__law_draw) := ⟨rfl, rfl, rfl, by decide +kernel, rfl, by decide +kernel, by decide +kernel⟩
abbrev st__law_names : Stmt := topS 10
abbrev N__law_names : List Str := ["feed", "many", "letters", "k", "shapes", "pool", "head", "one"]
theorem sc__law_names : FnScope N__law_names ["feed", "many"] (defScope st__law_names) := ⟨rfl, rfl, rfl, by decide +kernel, rfl, by decide +kernel, by decide +kernel⟩
abbrev st__law_words : Stmt := topS 11
abbrev N__law_words : List Str := ["feed"]
theorem sc__law_words : FnScope N__law_words ["feed"] (defScope st__law_words) := ⟨rfl, rfl, rfl, by decide +kernel, rfl, by decide +kernel, by decide +kernel⟩
abbrev st__law_some : Stmt := topS 12
abbrev N__law_some : List Str := ["feed", "words", "most", "word"]
theorem sc__law_some : FnScope N__law_some ["feed", "words", "most"] (defScope st__law_some) := ⟨rfl, rfl, rfl, by decide +kernel, rfl, by decide +kernel, by decide +kernel⟩
abbrev st__law_seen : Stmt := topS 13
abbrev N__law_seen : List Str := ["feed", "words", "found", "k", "look", "j"]
theorem sc__law_seen : FnScope N__law_seen ["feed", "words"] (defScope st__law_seen) := ⟨rfl, rfl, rfl, by decide +kernel, rfl, by decide +kernel, by decide +kernel⟩
abbrev st__law_page : Stmt := topS 14
abbrev N__law_page : List Str := ["feed", "words", "day", "number", "kind", "one", "other", "many", "stock", "marked", "k"]
theorem sc__law_page : FnScope N__law_page ["feed", "words"] (defScope st__law_page) := ⟨rfl, rfl, rfl, by decide +kernel, rfl, by decide +kernel, by decide +kernel⟩
abbrev st__law_is_ahead : Stmt := topS 15
abbrev N__law_is_ahead : List Str := ["one", "other", "kinds", "k", "part", "due"]
theorem sc__law_is_ahead : FnScope N__law_is_ahead ["one", "other"] (defScope st__law_is_ahead) := ⟨rfl, rfl, rfl, by decide +kernel, rfl, by decide +kernel, by decide +kernel⟩
abbrev st__law_book : Stmt := topS 16
abbrev N__law_book : List Str := ["pages", "found", "page", "at", "other"]
theorem sc__law_book : FnScope N__law_book ["pages"] (defScope st__law_book) := ⟨rfl, rfl, rfl, by decide +kernel, rfl, by decide +kernel, by decide +kernel⟩
abbrev st__law_parted : Stmt := topS 17
abbrev N__law_parted : List Str := ["feed", "words", "late", "early", "days", "more", "k"]
theorem sc__law_parted : FnScope N__law_parted ["feed", "words"] (defScope st__law_parted) := ⟨rfl, rfl, rfl, by decide +kernel, rfl, by decide +kernel, by decide +kernel⟩
abbrev st__law_right : Stmt := topS 18
abbrev N__law_right : List Str := ["feed", "pages", "own", "kept", "tome", "moments", "page", "day", "number", "late", "due"]
theorem sc__law_right : FnScope N__law_right ["feed", "pages"] (defScope st__law_right) := ⟨rfl, rfl, rfl, by decide +kernel, rfl, by decide +kernel, by decide +kernel⟩
abbrev st_law : Stmt := topS 19
abbrev N_law : List Str := ["script", "feed", "words", "pages", "k"]
theorem sc_law : FnScope N_law ["script"] (defScope st_law) := ⟨rfl, rfl, rfl, by decide +kernel, rfl, by decide +kernel, by decide +kernel⟩
structure Facts (K : Fg) (mg : Str → Option Value) where
  a_page_moment : Addr
  d_page_moment : FuncData
  F_page_moment : Fun K "page_moment" "page_moment" st_page_moment a_page_moment d_page_moment
  g_page_moment : mg "page_moment" = some (.ref a_page_moment)
  b_page_moment : Binds K d_page_moment ["page"] []
  a_standing : Addr
  d_standing : FuncData
  F_standing : Fun K "standing" "standing" st_standing a_standing d_standing
  g_standing : mg "standing" = some (.ref a_standing)
  b_standing : Binds K d_standing ["page"] []
  a_in_order : Addr
  d_in_order : FuncData
  F_in_order : Fun K "in_order" "in_order" st_in_order a_in_order d_in_order
  g_in_order : mg "in_order" = some (.ref a_in_order)
  b_in_order : Binds K d_in_order ["pages"] []
  a_up_to : Addr
  d_up_to : FuncData
  F_up_to : FunD K "up_to" "up_to" (defArgs st_up_to) (defBody st_up_to) (defScope st_up_to) [V.non] [] a_up_to d_up_to
  g_up_to : mg "up_to" = some (.ref a_up_to)
  b_up_to : Binds K d_up_to ["book", "until"] []
  ds_up_to_1 : List Value
  vd_up_to_1 : Vals [V.non] ds_up_to_1
  bd_up_to_1 : Binds K d_up_to ["book", "until"] ds_up_to_1
  a__law_feed : Addr
  d__law_feed : FuncData
  F__law_feed : Fun K "_law_feed" "_law_feed" st__law_feed a__law_feed d__law_feed
  g__law_feed : mg "_law_feed" = some (.ref a__law_feed)
  b__law_feed : Binds K d__law_feed ["script"] []
  a__law_draw : Addr
  d__law_draw : FuncData
  F__law_draw : Fun K "_law_draw" "_law_draw" st__law_draw a__law_draw d__law_draw
  g__law_draw : mg "_law_draw" = some (.ref a__law_draw)
  b__law_draw : Binds K d__law_draw ["feed", "many"] []
  a__law_names : Addr
  d__law_names : FuncData
  F__law_names : Fun K "_law_names" "_law_names" st__law_names a__law_names d__law_names
  g__law_names : mg "_law_names" = some (.ref a__law_names)
  b__law_names : Binds K d__law_names ["feed", "many"] []
  a__law_words : Addr
  d__law_words : FuncData
  F__law_words : Fun K "_law_words" "_law_words" st__law_words a__law_words d__law_words
  g__law_words : mg "_law_words" = some (.ref a__law_words)
  b__law_words : Binds K d__law_words ["feed"] []
  a__law_some : Addr
  d__law_some : FuncData
  F__law_some : Fun K "_law_some" "_law_some" st__law_some a__law_some d__law_some
  g__law_some : mg "_law_some" = some (.ref a__law_some)
  b__law_some : Binds K d__law_some ["feed", "words", "most"] []
  a__law_seen : Addr
  d__law_seen : FuncData
  F__law_seen : Fun K "_law_seen" "_law_seen" st__law_seen a__law_seen d__law_seen
  g__law_seen : mg "_law_seen" = some (.ref a__law_seen)
  b__law_seen : Binds K d__law_seen ["feed", "words"] []
  a__law_page : Addr
  d__law_page : FuncData
  F__law_page : Fun K "_law_page" "_law_page" st__law_page a__law_page d__law_page
  g__law_page : mg "_law_page" = some (.ref a__law_page)
  b__law_page : Binds K d__law_page ["feed", "words"] []
  a__law_is_ahead : Addr
  d__law_is_ahead : FuncData
  F__law_is_ahead : Fun K "_law_is_ahead" "_law_is_ahead" st__law_is_ahead a__law_is_ahead d__law_is_ahead
  g__law_is_ahead : mg "_law_is_ahead" = some (.ref a__law_is_ahead)
  b__law_is_ahead : Binds K d__law_is_ahead ["one", "other"] []
  a__law_book : Addr
  d__law_book : FuncData
  F__law_book : Fun K "_law_book" "_law_book" st__law_book a__law_book d__law_book
  g__law_book : mg "_law_book" = some (.ref a__law_book)
  b__law_book : Binds K d__law_book ["pages"] []
  a__law_parted : Addr
  d__law_parted : FuncData
  F__law_parted : Fun K "_law_parted" "_law_parted" st__law_parted a__law_parted d__law_parted
  g__law_parted : mg "_law_parted" = some (.ref a__law_parted)
  b__law_parted : Binds K d__law_parted ["feed", "words"] []
  a__law_right : Addr
  d__law_right : FuncData
  F__law_right : Fun K "_law_right" "_law_right" st__law_right a__law_right d__law_right
  g__law_right : mg "_law_right" = some (.ref a__law_right)
  b__law_right : Binds K d__law_right ["feed", "pages"] []
  a_law : Addr
  d_law : FuncData
  F_law : Fun K "law" "law" st_law a_law d_law
  g_law : mg "law" = some (.ref a_law)
  b_law : Binds K d_law ["script"] []
  kb_up_to_until_book : KBn K d_up_to ["book", "until"] 0 ["until", "book"] (fun us ws => swap2 us ws) (fun us ws => swap2 us ws)
  kb_up_to_until : KBn K d_up_to ["book", "until"] 1 ["until"] (fun us ws => us ++ ws) (fun us ws => us ++ ws)
  u_KINDS : Value
  v_KINDS : V
  g_KINDS : mg "KINDS" = some u_KINDS
  r_KINDS : RelV v_KINDS u_KINDS
  kr_KINDS : ∀ H, Rep K H PL.k_KINDS v_KINDS
  x_KINDS : KIx K mg "KINDS" i_KINDS
  z_len : mg "len" = none
  z_list : mg "list" = none
  z_max : mg "max" = none
  z_min : mg "min" = none
  z_range : mg "range" = none
  z_repr : mg "repr" = none
  z_sorted : mg "sorted" = none
  z_tuple : mg "tuple" = none
  z_zip : mg "zip" = none
section
variable {P : Program} {w : World} {K : Fg} {mg : Str → Option Value} {base : Heap}
theorem fn_page_moment (T : Facts K mg) : FnG P w K mg base 1 T.a_page_moment T.d_page_moment ["page"] p_page_moment := by
  refine fnG_ok (k := 0) (wb := w_page_moment) T.F_page_moment sc_page_moment mono_page_moment (fun cdv A outer s H E hr hgd => ?_) spec_page_moment
  exact (eb_one (es_ret (ee_sl (ee_var 0) eo_none (eo_some ee_int))))
theorem fn_standing (T : Facts K mg) : FnG P w K mg base 1 T.a_standing T.d_standing ["page"] p_standing := by
  refine fnG_ok (k := 0) (wb := w_standing) T.F_standing sc_standing mono_standing (fun cdv A outer s H E hr hgd => ?_) spec_standing
  exact (eb_one (es_ret (ee_tup (ea_cons (ee_ix (ee_var 0) ee_int) (ea_cons (ee_ix (ee_var 0) ee_int) (ea_cons (ee_kidx T.x_KINDS (ee_ix (ee_var 0) ee_int)) (ea_cons (ee_sl (ee_var 0) (eo_some ee_int) eo_none) ea_nil)))))))
theorem fn__law_feed (T : Facts K mg) : FnG P w K mg base 1 T.a__law_feed T.d__law_feed ["script"] p__law_feed := by
  refine fnG_ok (k := 0) (wb := w__law_feed) T.F__law_feed sc__law_feed mono__law_feed (fun cdv A outer s H E hr hgd => ?_) spec__law_feed
  exact (eb_one (es_ret (ee_new (el_disp (ea_cons (ee_sl (ee_var 0) eo_none (eo_some ee_int)) (ea_cons ee_int (ea_cons ee_int (ea_cons ee_int ea_nil))))))))
theorem fn__law_draw (T : Facts K mg) : FnG P w K mg base 1 T.a__law_draw T.d__law_draw ["feed", "many"] p__law_draw := by
  refine fnG_ok (k := 0) (wb := w__law_draw) T.F__law_draw sc__law_draw mono__law_draw (fun cdv A outer s H E hr hgd => ?_) spec__law_draw
  exact (eb_cons (es_stL (ee_var 0) ee_int (ee_op op_add' lift_add mono_add (ee_ix (ee_var 0) ee_int) ee_int))
  (eb_cons (es_if (et_cmp op_gt lift_gt mono_int (ee_ix (ee_var 0) ee_int) ee_int (nomark _)) (eb_cons (es_set (i := 2) sc__law_draw.nd (ee_op op_modN lift_mod mono_int (ee_ix (ee_var 0) ee_int) (ee_var 1)))
  (eb_cons (es_stL (ee_var 0) ee_int (ee_op op_fdivN lift_fdiv mono_int (ee_ix (ee_var 0) ee_int) (ee_var 1)))
  (eb_one (es_ret (ee_var 2))))) eb_nil)
  (eb_cons (es_set (i := 3) sc__law_draw.nd ee_int)
  (eb_cons (es_if (et_neL (hu64 hr) (ee_ix (ee_var 0) ee_int) (el_disp ea_nil)) (eb_one (es_set (i := 3) sc__law_draw.nd (ee_ix (ee_ix (ee_var 0) ee_int) (ee_op op_modN lift_mod mono_int (ee_ix (ee_var 0) ee_int) (ee_cb call_len' lift_len mono_len T.z_len (by decide +kernel) (ea_cons (ee_ix (ee_var 0) ee_int) ea_nil)))))) eb_nil)
  (eb_cons (es_stL (ee_var 0) ee_int (ee_op op_add' lift_add mono_add (ee_ix (ee_var 0) ee_int) ee_int))
  (eb_cons (es_if (et_w (ew_and (et_cmp op_ge lift_ge mono_int (ee_var 3) (ee_op op_pow lift_pow mono_int ee_int ee_int) (nomark _)) (ew_and1 (et_cmp (op_leX (hu64 hr)) lift_leX mono_leX (ee_ix (ee_var 0) ee_int) (ee_cb call_len' lift_len mono_len T.z_len (by decide +kernel) (ea_cons (ee_ix (ee_var 0) ee_int) ea_nil)) (nomark _))))) (eb_cons (es_stL (ee_var 0) ee_int (ee_op op_fdivN lift_fdiv mono_int (ee_var 3) (ee_var 1)))
  (eb_one (es_ret (ee_op op_modN lift_mod mono_int (ee_var 3) (ee_var 1))))) eb_nil)
  (eb_cons (es_set (i := 4) sc__law_draw.nd (ee_op op_modN lift_mod mono_int (ee_op op_pow lift_pow mono_int (ee_op op_add' lift_add mono_add (ee_op op_add' lift_add mono_add (ee_op op_modN lift_mod mono_int (ee_var 3) ee_int) (ee_op op_mul' lift_mul mono_mul ee_int (ee_ix (ee_var 0) ee_int))) ee_int) ee_int) ee_int))
  (eb_one (es_ret (ee_op op_modN lift_mod mono_int (ee_op op_fdivN lift_fdiv mono_int (ee_op op_modN lift_mod mono_int (ee_op op_pow lift_pow mono_int (ee_op op_add' lift_add mono_add (ee_var 4) (ee_op op_mul' lift_mul mono_mul ee_int (ee_ix (ee_var 0) ee_int))) ee_int) ee_int) ee_int) (ee_var 1)))))))))))
theorem fn__law_is_ahead (T : Facts K mg) : FnG P w K mg base 1 T.a__law_is_ahead T.d__law_is_ahead ["one", "other"] p__law_is_ahead := by
  refine fnG_ok (k := 0) (wb := w__law_is_ahead) T.F__law_is_ahead sc__law_is_ahead mono__law_is_ahead (fun cdv A outer s H E hr hgd => ?_) spec__law_is_ahead
  exact (eb_cons (es_set (i := 2) sc__law_is_ahead.nd (ee_new (el_disp (ea_cons ee_str (ea_cons ee_str (ea_cons ee_str (ea_cons ee_str (ea_cons ee_str (ea_cons ee_str (ea_cons ee_str (ea_cons ee_str ea_nil)))))))))))
  (eb_cons (es_for (passes_of rfl) rfl (ei_any (ee_tup (ea_cons ee_int (ea_cons ee_int ea_nil)))) (eg_name 3 sc__law_is_ahead.nd) (eb_one (es_if (et_cmp (op_ne' (hu64 hr)) lift_ne mono_ne (ee_ix (ee_var 0) (ee_var 3)) (ee_ix (ee_var 1) (ee_var 3)) (nomark _)) (eb_one (es_ret (ee_cmp (op_ltX (hu64 hr)) lift_ltX mono_ltX (ee_ix (ee_var 0) (ee_var 3)) (ee_ix (ee_var 1) (ee_var 3)) (nomark _)))) eb_nil)))
  (eb_cons (es_if (et_cmp (op_ne' (hu64 hr)) lift_ne mono_ne (ee_ix (ee_var 0) ee_int) (ee_ix (ee_var 1) ee_int) (nomark _)) (eb_one (es_ret (ee_cmp (op_ltX (hu64 hr)) lift_ltX mono_ltX (ee_bm PySem.F.plainAttrs_list PySem.F.slot_list_index PySem.F.type_list_index (mt_indexD (hu65 hr)) lift_lindex mono_lindex (ee_var 2) (ea_cons (ee_ix (ee_var 0) ee_int) ea_nil)) (ee_bm PySem.F.plainAttrs_list PySem.F.slot_list_index PySem.F.type_list_index (mt_indexD (hu65 hr)) lift_lindex mono_lindex (ee_var 2) (ea_cons (ee_ix (ee_var 1) ee_int) ea_nil)) (nomark _)))) eb_nil)
  (eb_cons (es_for (passes_of rfl) rfl (ei_zip T.z_zip (ea_cons (ee_sl (ee_var 0) (eo_some ee_int) eo_none) (ea_cons (ee_sl (ee_var 1) (eo_some ee_int) eo_none) ea_nil))) (eg_tup rfl (egs_cons (eg_name 4 sc__law_is_ahead.nd) (egs_cons (eg_name 5 sc__law_is_ahead.nd) egs_nil)) rfl rfl gl2) (eb_one (es_if (et_cmp (op_ne' (hu64 hr)) lift_ne mono_ne (ee_var 4) (ee_var 5) (nomark _)) (eb_one (es_ret (ee_cmp (op_ltX (hu64 hr)) lift_ltX mono_ltX (ee_var 4) (ee_var 5) (nomark _)))) eb_nil)))
  (eb_one (es_ret ee_bl))))))
theorem fn_up_to (T : Facts K mg) : FnG P w K mg base 2 T.a_up_to T.d_up_to ["book", "until"] p_up_to := by
  refine fnG_okD (k := 1) (wb := w_up_to) T.F_up_to sc_up_to mono_up_to (fun cdv A outer s H E hr hgd => ?_) spec_up_to
  exact (eb_one (es_ret (ee_ctl call_tuple_of lift_tupL mono_tupL T.z_tuple (by decide +kernel) (el_lc (own := [("page", 2)]) rfl sc_up_to.nd (ei_any (ee_var 0)) (blkOk_by (N := N_up_to) (sc := defScope st_up_to) (by decide +kernel)) (fun _ _ _ _ _ => ec_one 2 sc_up_to.nd) (fun _ _ _ _ _ => ets_one (et_w (ew_or (et_cmp op_isX lift_isX mono_isX (ee_var 1) ee_non (nomark _)) (ew_or1 (et_cmp (op_leX (hu64 hr)) lift_leX mono_leX (ee_call (fn_page_moment T) len_page_moment (hr.mono (by decide)) hgd takes0 T.g_page_moment T.F_page_moment.kp T.b_page_moment .nil (fun _ => .nil) (ea_cons (ee_var 2) ea_nil)) (ee_var 1) (nomark _)))))) (fun _ _ _ _ _ => (ee_var 2))))))
theorem fn__law_names (T : Facts K mg) : FnG P w K mg base 2 T.a__law_names T.d__law_names ["feed", "many"] p__law_names := by
  refine fnG_ok (k := 1) (wb := w__law_names) T.F__law_names sc__law_names mono__law_names (fun cdv A outer s H E hr hgd => ?_) spec__law_names
  exact (eb_cons (es_set (i := 2) sc__law_names.nd ee_str)
  (eb_cons (es_setLc (i := 4) (own := [("k", 3)]) rfl sc__law_names.nd (ei_range1 T.z_range (ea_cons ee_int ea_nil)) (blkOk_by (N := N__law_names) (sc := defScope st__law_names) (by decide +kernel)) (fun _ _ _ _ _ => ec_one 3 sc__law_names.nd) (fun _ _ _ _ _ => ets_nil) (fun _ _ _ _ _ => (ee_call (fn__law_draw T) len__law_draw (hr.mono (by decide)) hgd takes0 T.g__law_draw T.F__law_draw.kp T.b__law_draw .nil (fun _ => .nil) (ea_cons (ee_var 0) (ea_cons ee_int ea_nil)))) (sw_true rfl rfl rfl (by decide +kernel)))
  (eb_cons (es_set (i := 5) sc__law_names.nd (ee_new (el_disp ea_nil)))
  (eb_cons (es_for (passes_of rfl) rfl (ei_range1 T.z_range (ea_cons ee_int ea_nil)) (eg_name 3 sc__law_names.nd) (eb_cons (es_set (i := 6) sc__law_names.nd (ee_joinL ee_str (el_lc (own := [("one", 7)]) rfl sc__law_names.nd (ei_any (ee_sl (ee_var 4) eo_none (eo_some (ee_var 3)))) (blkOk_by (N := N__law_names) (sc := defScope st__law_names) (by decide +kernel)) (fun _ _ _ _ _ => ec_one 7 sc__law_names.nd) (fun _ _ _ _ _ => ets_nil) (fun _ _ _ _ _ => (ee_ix (ee_var 2) (ee_var 7))))))
  (eb_one (es_set (i := 5) sc__law_names.nd (ee_new (el_catEL (ee_var 5) (el_disp (ea_cons (ee_op op_add' lift_add mono_add (ee_var 6) (ee_ix (ee_var 2) (ee_ix (ee_var 4) (ee_var 3)))) (ea_cons (ee_op op_add' lift_add mono_add (ee_var 6) (ee_ix (ee_var 2) (ee_op op_modN lift_mod mono_int (ee_op op_add' lift_add mono_add (ee_ix (ee_var 4) (ee_var 3)) ee_int) ee_int))) ea_nil)))))))))
  (eb_one (es_ret (ee_ctl call_tuple_of lift_tupL mono_tupL T.z_tuple (by decide +kernel) (el_cbl (call_sorted' (hu100 hr)) lift_sortedL mono_sortedL T.z_sorted (by decide +kernel) (el_lc (own := [("k", 3)]) rfl sc__law_names.nd (ei_range1 T.z_range (ea_cons (ee_var 1) ea_nil)) (blkOk_by (N := N__law_names) (sc := defScope st__law_names) (by decide +kernel)) (fun _ _ _ _ _ => ec_one 3 sc__law_names.nd) (fun _ _ _ _ _ => ets_nil) (fun _ _ _ _ _ => (ee_bm PySem.F.plainAttrs_list PySem.F.slot_list_pop PySem.F.type_list_pop mt_popAt lift_popAt mono_popAt (ee_var 5) (ea_cons (ee_call (fn__law_draw T) len__law_draw (hr.mono (by decide)) hgd takes0 T.g__law_draw T.F__law_draw.kp T.b__law_draw .nil (fun _ => .nil) (ea_cons (ee_var 0) (ea_cons (ee_cb call_len' lift_len mono_len T.z_len (by decide +kernel) (ea_cons (ee_var 5) ea_nil)) ea_nil))) ea_nil))))))))))))
theorem fn__law_some (T : Facts K mg) : FnG P w K mg base 2 T.a__law_some T.d__law_some ["feed", "words", "most"] p__law_some := by
  refine fnG_ok (k := 1) (wb := w__law_some) T.F__law_some sc__law_some mono__law_some (fun cdv A outer s H E hr hgd => ?_) spec__law_some
  exact (eb_one (es_ret (ee_ct call_tuple_of lift_tup mono_tup T.z_tuple (by decide +kernel) (ea_cons (ee_sl (ee_new (el_lc (own := [("word", 3)]) rfl sc__law_some.nd (ei_any (ee_var 1)) (blkOk_by (N := N__law_some) (sc := defScope st__law_some) (by decide +kernel)) (fun _ _ _ _ _ => ec_one 3 sc__law_some.nd) (fun _ _ _ _ _ => ets_one (et_cmp (op_eq' (hu64 hr)) lift_eq mono_eq (ee_call (fn__law_draw T) len__law_draw (hr.mono (by decide)) hgd takes0 T.g__law_draw T.F__law_draw.kp T.b__law_draw .nil (fun _ => .nil) (ea_cons (ee_var 0) (ea_cons ee_int ea_nil))) ee_int (nomark _))) (fun _ _ _ _ _ => (ee_var 3)))) eo_none (eo_some (ee_var 2))) ea_nil))))
theorem fn__law_book (T : Facts K mg) : FnG P w K mg base 2 T.a__law_book T.d__law_book ["pages"] p__law_book := by
  refine fnG_ok (k := 1) (wb := w__law_book) T.F__law_book sc__law_book mono__law_book (fun cdv A outer s H E hr hgd => ?_) spec__law_book
  exact (eb_cons (es_set (i := 1) sc__law_book.nd (ee_new (el_disp ea_nil)))
  (eb_cons (es_for (passes_of rfl) rfl (ei_any (ee_var 0)) (eg_name 2 sc__law_book.nd) (eb_one (es_if (et_cmp (op_notin' (hu65 hr)) lift_in mono_in (ee_var 2) (ee_var 1) rfl) (eb_cons (es_set (i := 3) sc__law_book.nd (ee_cbl call_len' lift_lenL mono_lenL T.z_len (by decide +kernel) (el_lc (own := [("other", 4)]) rfl sc__law_book.nd (ei_any (ee_var 1)) (blkOk_by (N := N__law_book) (sc := defScope st__law_book) (by decide +kernel)) (fun _ _ _ _ _ => ec_one 4 sc__law_book.nd) (fun _ _ _ _ _ => ets_one (et_tru (ee_call (fn__law_is_ahead T) len__law_is_ahead (hr.mono (by decide)) hgd takes0 T.g__law_is_ahead T.F__law_is_ahead.kp T.b__law_is_ahead .nil (fun _ => .nil) (ea_cons (ee_var 4) (ea_cons (ee_var 2) ea_nil))))) (fun _ _ _ _ _ => (ee_var 4)))))
  (eb_one (es_expr (ee_bm PySem.F.plainAttrs_list PySem.F.slot_list_insert PySem.F.type_list_insert mt_insert lift_insert mono_insert (ee_var 1) (ea_cons (ee_var 3) (ea_cons (ee_var 2) ea_nil)))))) eb_nil)))
  (eb_one (es_ret (ee_ct call_tuple_of lift_tup mono_tup T.z_tuple (by decide +kernel) (ea_cons (ee_var 1) ea_nil))))))
theorem fn_in_order (T : Facts K mg) : FnG P w K mg base 3 T.a_in_order T.d_in_order ["pages"] p_in_order := by
  refine fnG_ok (k := 2) (wb := w_in_order) T.F_in_order sc_in_order mono_in_order (fun cdv A outer s H E hr hgd => ?_) spec_in_order
  exact (eb_cons (es_set (i := 1) sc_in_order.nd (ee_new (el_disp ea_nil)))
  (eb_cons (es_for (passes_of rfl) rfl (ei_new (el_srtK (fn_standing T) (hr.mono (by decide)) hgd T.b_standing T.g_standing T.z_sorted (ee_var 0))) (eg_name 2 sc_in_order.nd) (eb_one (es_if (et_w (ew_or (et_eqL (hu64 hr) (ee_var 1) (el_disp ea_nil)) (ew_or1 (et_cmp (op_ne' (hu64 hr)) lift_ne mono_ne (ee_ix (ee_var 1) (ee_neg ee_int)) (ee_var 2) (nomark _))))) (eb_one (es_expr (ee_bm PySem.F.plainAttrs_list PySem.F.slot_list_append PySem.F.type_list_append mt_append lift_append mono_append (ee_var 1) (ea_cons (ee_var 2) ea_nil)))) eb_nil)))
  (eb_one (es_ret (ee_ct call_tuple_of lift_tup mono_tup T.z_tuple (by decide +kernel) (ea_cons (ee_var 1) ea_nil))))))
theorem fn__law_words (T : Facts K mg) : FnG P w K mg base 3 T.a__law_words T.d__law_words ["feed"] p__law_words := by
  refine fnG_ok (k := 2) (wb := w__law_words) T.F__law_words sc__law_words mono__law_words (fun cdv A outer s H E hr hgd => ?_) spec__law_words
  exact (eb_one (es_ret (ee_new (el_ct call_list_of lift_list mono_list T.z_list (by decide +kernel) (ea_cons (ee_call (fn__law_names T) len__law_names (hr.mono (by decide)) hgd (takes_of rfl rfl rfl rfl) T.g__law_names T.F__law_names.kp T.b__law_names .nil (fun _ => .nil) (ea_cons (ee_var 0) (ea_cons ee_int ea_nil))) ea_nil)))))
theorem fn__law_seen (T : Facts K mg) : FnG P w K mg base 3 T.a__law_seen T.d__law_seen ["feed", "words"] p__law_seen := by
  refine fnG_ok (k := 2) (wb := w__law_seen) T.F__law_seen sc__law_seen mono__law_seen (fun cdv A outer s H E hr hgd => ?_) spec__law_seen
  exact (eb_cons (es_set (i := 2) sc__law_seen.nd (ee_new (el_disp ea_nil)))
  (eb_cons (es_for (passes_of rfl) rfl (ei_range1 T.z_range (ea_cons (ee_call (fn__law_draw T) len__law_draw (hr.mono (by decide)) hgd (takes_of rfl rfl rfl rfl) T.g__law_draw T.F__law_draw.kp T.b__law_draw .nil (fun _ => .nil) (ea_cons (ee_var 0) (ea_cons ee_int ea_nil))) ea_nil)) (eg_name 3 sc__law_seen.nd) (eb_cons (es_setLc (i := 4) (own := [("j", 5)]) rfl sc__law_seen.nd (ei_range1 T.z_range (ea_cons (ee_call (fn__law_draw T) len__law_draw (hr.mono (by decide)) hgd (takes_of rfl rfl rfl rfl) T.g__law_draw T.F__law_draw.kp T.b__law_draw .nil (fun _ => .nil) (ea_cons (ee_var 0) (ea_cons ee_int ea_nil))) ea_nil)) (blkOk_by (N := N__law_seen) (sc := defScope st__law_seen) (by decide +kernel)) (fun _ _ _ _ _ => ec_one 5 sc__law_seen.nd) (fun _ _ _ _ _ => ets_nil) (fun _ _ _ _ _ => (ee_ixL (el_disp (ea_cons (ee_tup (ea_cons ee_str ea_nil)) (ea_cons (ee_call (fn__law_some T) len__law_some (hr.mono (by decide)) hgd takes0 T.g__law_some T.F__law_some.kp T.b__law_some .nil (fun _ => .nil) (ea_cons (ee_var 0) (ea_cons (ee_var 1) (ea_cons ee_int ea_nil)))) ea_nil))) (ee_call (fn__law_draw T) len__law_draw (hr.mono (by decide)) hgd takes0 T.g__law_draw T.F__law_draw.kp T.b__law_draw .nil (fun _ => .nil) (ea_cons (ee_var 0) (ea_cons ee_int ea_nil))))) (sw_true rfl rfl rfl (by decide +kernel)))
  (eb_one (es_expr (ee_bm PySem.F.plainAttrs_list PySem.F.slot_list_append PySem.F.type_list_append mt_append lift_append mono_append (ee_var 2) (ea_cons (ee_ct call_tuple_of lift_tup mono_tup T.z_tuple (by decide +kernel) (ea_cons (ee_var 4) ea_nil)) ea_nil))))))
  (eb_one (es_ret (ee_ct call_tuple_of lift_tup mono_tup T.z_tuple (by decide +kernel) (ea_cons (ee_var 2) ea_nil))))))
theorem fn__law_page (T : Facts K mg) : FnG P w K mg base 4 T.a__law_page T.d__law_page ["feed", "words"] p__law_page := by
  refine fnG_ok (k := 3) (wb := w__law_page) T.F__law_page sc__law_page mono__law_page (fun cdv A outer s H E hr hgd => ?_) spec__law_page
  exact (eb_cons (es_set (i := 2) sc__law_page.nd (ee_ixL (el_disp (ea_cons (ee_call (fn__law_draw T) len__law_draw (hr.mono (by decide)) hgd (takes_of rfl rfl rfl rfl) T.g__law_draw T.F__law_draw.kp T.b__law_draw .nil (fun _ => .nil) (ea_cons (ee_var 0) (ea_cons ee_int ea_nil))) (ea_cons ee_int (ea_cons ee_int (ea_cons (ee_call (fn__law_draw T) len__law_draw (hr.mono (by decide)) hgd (takes_of rfl rfl rfl rfl) T.g__law_draw T.F__law_draw.kp T.b__law_draw .nil (fun _ => .nil) (ea_cons (ee_var 0) (ea_cons ee_int ea_nil))) ea_nil))))) (ee_call (fn__law_draw T) len__law_draw (hr.mono (by decide)) hgd (takes_of rfl rfl rfl rfl) T.g__law_draw T.F__law_draw.kp T.b__law_draw .nil (fun _ => .nil) (ea_cons (ee_var 0) (ea_cons ee_int ea_nil)))))
  (eb_cons (es_set (i := 3) sc__law_page.nd (ee_ixL (el_disp (ea_cons (ee_call (fn__law_draw T) len__law_draw (hr.mono (by decide)) hgd (takes_of rfl rfl rfl rfl) T.g__law_draw T.F__law_draw.kp T.b__law_draw .nil (fun _ => .nil) (ea_cons (ee_var 0) (ea_cons ee_int ea_nil))) (ea_cons ee_int (ea_cons ee_int (ea_cons (ee_call (fn__law_draw T) len__law_draw (hr.mono (by decide)) hgd (takes_of rfl rfl rfl rfl) T.g__law_draw T.F__law_draw.kp T.b__law_draw .nil (fun _ => .nil) (ea_cons (ee_var 0) (ea_cons ee_int ea_nil))) ea_nil))))) (ee_call (fn__law_draw T) len__law_draw (hr.mono (by decide)) hgd (takes_of rfl rfl rfl rfl) T.g__law_draw T.F__law_draw.kp T.b__law_draw .nil (fun _ => .nil) (ea_cons (ee_var 0) (ea_cons ee_int ea_nil)))))
  (eb_cons (es_set (i := 4) sc__law_page.nd (ee_ixL (el_disp (ea_cons ee_str (ea_cons ee_str (ea_cons ee_str (ea_cons ee_str (ea_cons ee_str (ea_cons ee_str (ea_cons ee_str (ea_cons ee_str ea_nil))))))))) (ee_call (fn__law_draw T) len__law_draw (hr.mono (by decide)) hgd (takes_of rfl rfl rfl rfl) T.g__law_draw T.F__law_draw.kp T.b__law_draw .nil (fun _ => .nil) (ea_cons (ee_var 0) (ea_cons ee_int ea_nil)))))
  (eb_cons (es_par (i := 5) (j := 6) rfl sc__law_page.nd (ea_cons (ee_ix (ee_var 1) (ee_call (fn__law_draw T) len__law_draw (hr.mono (by decide)) hgd (takes_of rfl rfl rfl rfl) T.g__law_draw T.F__law_draw.kp T.b__law_draw .nil (fun _ => .nil) (ea_cons (ee_var 0) (ea_cons ee_int ea_nil)))) (ea_cons (ee_ix (ee_var 1) (ee_call (fn__law_draw T) len__law_draw (hr.mono (by decide)) hgd (takes_of rfl rfl rfl rfl) T.g__law_draw T.F__law_draw.kp T.b__law_draw .nil (fun _ => .nil) (ea_cons (ee_var 0) (ea_cons ee_int ea_nil)))) ea_nil)))
  (eb_cons (es_set (i := 7) sc__law_page.nd (ee_ixL (el_disp (ea_cons ee_int (ea_cons ee_int (ea_cons ee_int (ea_cons ee_int (ea_cons ee_int (ea_cons (ee_op op_pow lift_pow mono_int ee_int ee_int) ea_nil))))))) (ee_call (fn__law_draw T) len__law_draw (hr.mono (by decide)) hgd (takes_of rfl rfl rfl rfl) T.g__law_draw T.F__law_draw.kp T.b__law_draw .nil (fun _ => .nil) (ea_cons (ee_var 0) (ea_cons ee_int ea_nil)))))
  (eb_cons (es_if (et_cmp (op_in' (hu65 hr)) lift_in mono_in (ee_var 4) (ee_tup (ea_cons ee_str (ea_cons ee_str ea_nil))) rfl) (eb_one (es_ret (ee_tup (ea_cons (ee_var 2) (ea_cons (ee_var 3) (ea_cons (ee_var 4) (ea_cons (ee_var 5) (ea_cons (ee_var 7) ea_nil)))))))) eb_nil)
  (eb_cons (es_if (et_cmp (op_in' (hu65 hr)) lift_in mono_in (ee_var 4) (ee_tup (ea_cons ee_str (ea_cons ee_str ea_nil))) rfl) (eb_one (es_ret (ee_tup (ea_cons (ee_var 2) (ea_cons (ee_var 3) (ea_cons (ee_var 4) (ea_cons (ee_var 5) (ea_cons (ee_var 6) ea_nil)))))))) eb_nil)
  (eb_cons (es_if (et_cmp (op_in' (hu65 hr)) lift_in mono_in (ee_var 4) (ee_tup (ea_cons ee_str (ea_cons ee_str ea_nil))) rfl) (eb_one (es_ret (ee_tup (ea_cons (ee_var 2) (ea_cons (ee_var 3) (ea_cons (ee_var 4) (ea_cons (ee_if (et_cmp (op_eq' (hu64 hr)) lift_eq mono_eq (ee_var 4) ee_str (nomark _)) (ee_var 5) (ee_var 7)) ea_nil))))))) eb_nil)
  (eb_cons (es_if (et_cmp (op_eq' (hu64 hr)) lift_eq mono_eq (ee_var 4) ee_str (nomark _)) (eb_one (es_ret (ee_tup (ea_cons (ee_var 2) (ea_cons (ee_var 3) (ea_cons (ee_var 4) (ea_cons (ee_var 5) (ea_cons (ee_call (fn__law_seen T) len__law_seen (hr.mono (by decide)) hgd (takes_of rfl rfl rfl rfl) T.g__law_seen T.F__law_seen.kp T.b__law_seen .nil (fun _ => .nil) (ea_cons (ee_var 0) (ea_cons (ee_var 1) ea_nil))) ea_nil)))))))) eb_nil)
  (eb_cons (es_set (i := 8) sc__law_page.nd (ee_new (el_ct call_list_of lift_list mono_list T.z_list (by decide +kernel) (ea_cons (ee_var 1) ea_nil))))
  (eb_cons (es_setLc (i := 9) (own := [("k", 10)]) rfl sc__law_page.nd (ei_range1 T.z_range (ea_cons (ee_op op_add' lift_add mono_add ee_int (ee_call (fn__law_draw T) len__law_draw (hr.mono (by decide)) hgd (takes_of rfl rfl rfl rfl) T.g__law_draw T.F__law_draw.kp T.b__law_draw .nil (fun _ => .nil) (ea_cons (ee_var 0) (ea_cons ee_int ea_nil)))) ea_nil)) (blkOk_by (N := N__law_page) (sc := defScope st__law_page) (by decide +kernel)) (fun _ _ _ _ _ => ec_one 10 sc__law_page.nd) (fun _ _ _ _ _ => ets_nil) (fun _ _ _ _ _ => (ee_bm PySem.F.plainAttrs_list PySem.F.slot_list_pop PySem.F.type_list_pop mt_popAt lift_popAt mono_popAt (ee_var 8) (ea_cons (ee_call (fn__law_draw T) len__law_draw (hr.mono (by decide)) hgd takes0 T.g__law_draw T.F__law_draw.kp T.b__law_draw .nil (fun _ => .nil) (ea_cons (ee_var 0) (ea_cons (ee_cb call_len' lift_len mono_len T.z_len (by decide +kernel) (ea_cons (ee_var 8) ea_nil)) ea_nil))) ea_nil))) (sw_true rfl rfl rfl (by decide +kernel)))
  (eb_one (es_ret (ee_tup (ea_cons (ee_var 2) (ea_cons (ee_var 3) (ea_cons (ee_var 4) (ea_cons (ee_call (fn__law_some T) len__law_some (hr.mono (by decide)) hgd (takes_of rfl rfl rfl rfl) T.g__law_some T.F__law_some.kp T.b__law_some .nil (fun _ => .nil) (ea_cons (ee_var 0) (ea_cons (ee_var 1) (ea_cons ee_int ea_nil)))) (ea_cons (ee_ct call_tuple_of lift_tup mono_tup T.z_tuple (by decide +kernel) (ea_cons (ee_var 9) ea_nil)) ea_nil)))))))))))))))))))
theorem fn__law_right (T : Facts K mg) : FnG P w K mg base 4 T.a__law_right T.d__law_right ["feed", "pages"] p__law_right := by
  refine fnG_ok (k := 3) (wb := w__law_right) T.F__law_right sc__law_right mono__law_right (fun cdv A outer s H E hr hgd => ?_) spec__law_right
  exact (eb_cons (es_set (i := 2) sc__law_right.nd (ee_call (fn__law_book T) len__law_book (hr.mono (by decide)) hgd (takes_of rfl rfl rfl rfl) T.g__law_book T.F__law_book.kp T.b__law_book .nil (fun _ => .nil) (ea_cons (ee_var 1) ea_nil)))
  (eb_cons (es_set (i := 3) sc__law_right.nd (ee_cb (call_repr' (hu100 hr) hgd) lift_repr mono_repr T.z_repr (by decide +kernel) (ea_cons (ee_var 2) ea_nil)))
  (eb_cons (es_set (i := 4) sc__law_right.nd (ee_call (fn_in_order T) len_in_order (hr.mono (by decide)) hgd (takes_of rfl rfl rfl rfl) T.g_in_order T.F_in_order.kp T.b_in_order .nil (fun _ => .nil) (ea_cons (ee_var 1) ea_nil)))
  (eb_cons (es_if (et_cmp (op_ne' (hu64 hr)) lift_ne mono_ne (ee_cb (call_repr' (hu100 hr) hgd) lift_repr mono_repr T.z_repr (by decide +kernel) (ea_cons (ee_var 4) ea_nil)) (ee_var 3) (nomark _)) (eb_one (es_ret ee_bl)) eb_nil)
  (eb_cons (es_set (i := 5) sc__law_right.nd (ee_new (el_disp (ea_cons (ee_tup (ea_cons ee_int (ea_cons ee_int ea_nil))) (ea_cons (ee_tup (ea_cons ee_int (ea_cons ee_int ea_nil))) (ea_cons (ee_tup (ea_cons (ee_call (fn__law_draw T) len__law_draw (hr.mono (by decide)) hgd (takes_of rfl rfl rfl rfl) T.g__law_draw T.F__law_draw.kp T.b__law_draw .nil (fun _ => .nil) (ea_cons (ee_var 0) (ea_cons ee_int ea_nil))) (ea_cons (ee_call (fn__law_draw T) len__law_draw (hr.mono (by decide)) hgd (takes_of rfl rfl rfl rfl) T.g__law_draw T.F__law_draw.kp T.b__law_draw .nil (fun _ => .nil) (ea_cons (ee_var 0) (ea_cons ee_int ea_nil))) ea_nil))) ea_nil))))))
  (eb_cons (es_for (passes_of rfl) rfl (ei_any (ee_var 2)) (eg_name 6 sc__law_right.nd) (eb_cons (es_asg (ee_sl (ee_var 6) eo_none (eo_some ee_int)) (eg_tup rfl (egs_cons (eg_name 7 sc__law_right.nd) (egs_cons (eg_name 8 sc__law_right.nd) egs_nil)) rfl rfl gl2))
  (eb_cons (es_set (i := 5) sc__law_right.nd (ee_new (el_catEL (ee_var 5) (el_disp (ea_cons (ee_tup (ea_cons (ee_var 7) (ea_cons (ee_var 8) ea_nil))) (ea_cons (ee_tup (ea_cons (ee_var 7) (ea_cons (ee_cb (call_max2 rfl) lift_max2 mono_max2 T.z_max (by decide +kernel) (ea_cons ee_int (ea_cons (ee_op op_sub lift_sub mono_int (ee_var 8) ee_int) ea_nil))) ea_nil))) (ea_cons (ee_tup (ea_cons (ee_var 7) (ea_cons (ee_cb (call_min2 rfl) lift_min2 mono_min2 T.z_min (by decide +kernel) (ea_cons ee_int (ea_cons (ee_op op_add' lift_add mono_add (ee_var 8) ee_int) ea_nil))) ea_nil))) ea_nil)))))))
  (eb_one (es_set (i := 5) sc__law_right.nd (ee_new (el_catEL (ee_var 5) (el_disp (ea_cons (ee_tup (ea_cons (ee_cb (call_max2 rfl) lift_max2 mono_max2 T.z_max (by decide +kernel) (ea_cons ee_int (ea_cons (ee_op op_sub lift_sub mono_int (ee_var 7) ee_int) ea_nil))) (ea_cons ee_int ea_nil))) (ea_cons (ee_tup (ea_cons (ee_cb (call_min2 rfl) lift_min2 mono_min2 T.z_min (by decide +kernel) (ea_cons ee_int (ea_cons (ee_op op_add' lift_add mono_add (ee_var 7) ee_int) ea_nil))) (ea_cons ee_int ea_nil))) ea_nil))))))))))
  (eb_cons (es_for (passes_of rfl) rfl (ei_any (ee_var 5)) (eg_name 9 sc__law_right.nd) (eb_cons (es_setLc (i := 10) (own := [("page", 6)]) rfl sc__law_right.nd (ei_any (ee_var 2)) (blkOk_by (N := N__law_right) (sc := defScope st__law_right) (by decide +kernel)) (fun _ _ _ _ _ => ec_one 6 sc__law_right.nd) (fun _ _ _ _ _ => ets_one (et_w (ew_or (et_cmp (op_ltX (hu64 hr)) lift_ltX mono_ltX (ee_ix (ee_var 6) ee_int) (ee_ix (ee_var 9) ee_int) (nomark _)) (ew_or1 (et_w (ew_and (et_cmp (op_eq' (hu64 hr)) lift_eq mono_eq (ee_ix (ee_var 6) ee_int) (ee_ix (ee_var 9) ee_int) (nomark _)) (ew_and1 (et_cmp (op_leX (hu64 hr)) lift_leX mono_leX (ee_ix (ee_var 6) ee_int) (ee_ix (ee_var 9) ee_int) (nomark _))))))))) (fun _ _ _ _ _ => (ee_var 6)) (sw_true rfl rfl rfl (by decide +kernel)))
  (eb_one (es_if (et_w (ew_or (et_cmp (op_ne' (hu64 hr)) lift_ne mono_ne (ee_cb (call_repr' (hu100 hr) hgd) lift_repr mono_repr T.z_repr (by decide +kernel) (ea_cons (ee_call (fn_up_to T) len_up_to (hr.mono (by decide)) hgd (takes_of rfl rfl rfl rfl) T.g_up_to T.F_up_to.kp T.b_up_to .nil (fun _ => .nil) (ea_cons (ee_var 4) (ea_cons (ee_var 9) ea_nil))) ea_nil)) (ee_cb (call_repr' (hu100 hr) hgd) lift_repr mono_repr T.z_repr (by decide +kernel) (ea_cons (ee_ct call_tuple_of lift_tup mono_tup T.z_tuple (by decide +kernel) (ea_cons (ee_var 10) ea_nil)) ea_nil)) (nomark _)) (ew_or1 (et_cmp (op_ne' (hu64 hr)) lift_ne mono_ne (ee_cb (call_repr' (hu100 hr) hgd) lift_repr mono_repr T.z_repr (by decide +kernel) (ea_cons (ee_callK0 (fn_up_to T) len_up_to (hr.mono (by decide)) hgd (takes_of rfl rfl rfl rfl) T.g_up_to T.F_up_to.kp T.kb_up_to_until_book (fun h1 h2 => swap2_reps h1 h2) (ek_cons (ee_var 9) (ek_cons (ee_var 4) ek_nil))) ea_nil)) (ee_cb (call_repr' (hu100 hr) hgd) lift_repr mono_repr T.z_repr (by decide +kernel) (ea_cons (ee_ct call_tuple_of lift_tup mono_tup T.z_tuple (by decide +kernel) (ea_cons (ee_var 10) ea_nil)) ea_nil)) (nomark _))))) (eb_one (es_ret ee_bl)) eb_nil))))
  (eb_cons (es_if (et_cmp (op_ne' (hu64 hr)) lift_ne mono_ne (ee_cb (call_repr' (hu100 hr) hgd) lift_repr mono_repr T.z_repr (by decide +kernel) (ea_cons (ee_new (el_disp (ea_cons (ee_call (dv := [.non]) (dvs := [V.non]) (fn_up_to T) len_up_to (hr.mono (by decide)) hgd (takes_of rfl rfl rfl rfl) T.g_up_to T.F_up_to.kp T.bd_up_to_1 T.vd_up_to_1 (fun _ => (.cons (by rw [Rep]) .nil)) (ea_cons (ee_var 4) ea_nil)) (ea_cons (ee_call (fn_up_to T) len_up_to (hr.mono (by decide)) hgd (takes_of rfl rfl rfl rfl) T.g_up_to T.F_up_to.kp T.b_up_to .nil (fun _ => .nil) (ea_cons (ee_var 4) (ea_cons ee_non ea_nil))) (ea_cons (ee_callK (fn_up_to T) len_up_to (hr.mono (by decide)) hgd (takes_of rfl rfl rfl rfl) T.g_up_to T.F_up_to.kp T.kb_up_to_until (fun h1 h2 => h1.append h2) (ea_cons (ee_var 4) ea_nil) (ek_cons ee_non ek_nil)) ea_nil))))) ea_nil)) (ee_cb (call_repr' (hu100 hr) hgd) lift_repr mono_repr T.z_repr (by decide +kernel) (ea_cons (ee_new (el_repL (el_disp (ea_cons (ee_var 2) ea_nil)) ee_int)) ea_nil)) (nomark _)) (eb_one (es_ret ee_bl)) eb_nil)
  (eb_one (es_ret (ee_cmp (op_eq' (hu64 hr)) lift_eq mono_eq (ee_cb (call_repr' (hu100 hr) hgd) lift_repr mono_repr T.z_repr (by decide +kernel) (ea_cons (ee_var 4) ea_nil)) (ee_var 3) (nomark _))))))))))))
theorem fn__law_parted (T : Facts K mg) : FnG P w K mg base 5 T.a__law_parted T.d__law_parted ["feed", "words"] p__law_parted := by
  refine fnG_ok (k := 4) (wb := w__law_parted) T.F__law_parted sc__law_parted mono__law_parted (fun cdv A outer s H E hr hgd => ?_) spec__law_parted
  exact (eb_cons (es_par (i := 2) (j := 3) rfl sc__law_parted.nd (ea_cons (ee_call (fn__law_page T) len__law_page (hr.mono (by decide)) hgd (takes_of rfl rfl rfl rfl) T.g__law_page T.F__law_page.kp T.b__law_page .nil (fun _ => .nil) (ea_cons (ee_var 0) (ea_cons (ee_var 1) ea_nil))) (ea_cons (ee_call (fn__law_page T) len__law_page (hr.mono (by decide)) hgd (takes_of rfl rfl rfl rfl) T.g__law_page T.F__law_page.kp T.b__law_page .nil (fun _ => .nil) (ea_cons (ee_var 0) (ea_cons (ee_var 1) ea_nil))) ea_nil)))
  (eb_cons (es_set (i := 4) sc__law_parted.nd (ee_new (el_disp (ea_cons (ee_op op_add' lift_add mono_add ee_int (ee_call (fn__law_draw T) len__law_draw (hr.mono (by decide)) hgd (takes_of rfl rfl rfl rfl) T.g__law_draw T.F__law_draw.kp T.b__law_draw .nil (fun _ => .nil) (ea_cons (ee_var 0) (ea_cons ee_int ea_nil)))) (ea_cons (ee_call (fn__law_draw T) len__law_draw (hr.mono (by decide)) hgd (takes_of rfl rfl rfl rfl) T.g__law_draw T.F__law_draw.kp T.b__law_draw .nil (fun _ => .nil) (ea_cons (ee_var 0) (ea_cons ee_int ea_nil))) ea_nil)))))
  (eb_cons (es_setLc (i := 5) (own := [("k", 6)]) rfl sc__law_parted.nd (ei_range1 T.z_range (ea_cons (ee_call (fn__law_draw T) len__law_draw (hr.mono (by decide)) hgd (takes_of rfl rfl rfl rfl) T.g__law_draw T.F__law_draw.kp T.b__law_draw .nil (fun _ => .nil) (ea_cons (ee_var 0) (ea_cons ee_int ea_nil))) ea_nil)) (blkOk_by (N := N__law_parted) (sc := defScope st__law_parted) (by decide +kernel)) (fun _ _ _ _ _ => ec_one 6 sc__law_parted.nd) (fun _ _ _ _ _ => ets_nil) (fun _ _ _ _ _ => (ee_call (fn__law_page T) len__law_page (hr.mono (by decide)) hgd takes0 T.g__law_page T.F__law_page.kp T.b__law_page .nil (fun _ => .nil) (ea_cons (ee_var 0) (ea_cons (ee_var 1) ea_nil)))) (sw_true rfl rfl rfl (by decide +kernel)))
  (eb_one (es_ret (ee_op op_add' lift_add mono_add (ee_new (el_disp (ea_cons (ee_op op_add' lift_add mono_add (ee_tup (ea_cons (ee_ix (ee_var 4) ee_int) ea_nil)) (ee_sl (ee_var 2) (eo_some ee_int) eo_none)) (ea_cons (ee_op op_add' lift_add mono_add (ee_tup (ea_cons (ee_ix (ee_var 4) ee_int) ea_nil)) (ee_sl (ee_var 3) (eo_some ee_int) eo_none)) ea_nil)))) (ee_var 5)))))))
theorem fn_law (T : Facts K mg) : FnG P w K mg base 6 T.a_law T.d_law ["script"] p_law := by
  refine fnG_ok (k := 5) (wb := w_law) T.F_law sc_law mono_law (fun cdv A outer s H E hr hgd => ?_) spec_law
  exact (eb_cons (es_set (i := 1) sc_law.nd (ee_call (fn__law_feed T) len__law_feed (hr.mono (by decide)) hgd (takes_of rfl rfl rfl rfl) T.g__law_feed T.F__law_feed.kp T.b__law_feed .nil (fun _ => .nil) (ea_cons (ee_var 0) ea_nil)))
  (eb_cons (es_set (i := 2) sc_law.nd (ee_call (fn__law_words T) len__law_words (hr.mono (by decide)) hgd (takes_of rfl rfl rfl rfl) T.g__law_words T.F__law_words.kp T.b__law_words .nil (fun _ => .nil) (ea_cons (ee_var 1) ea_nil)))
  (eb_cons (es_setLc (i := 3) (own := [("k", 4)]) rfl sc_law.nd (ei_range1 T.z_range (ea_cons (ee_ixL (el_disp (ea_cons ee_int (ea_cons ee_int (ea_cons ee_int (ea_cons ee_int (ea_cons ee_int (ea_cons ee_int (ea_cons ee_int (ea_cons ee_int ea_nil))))))))) (ee_call (fn__law_draw T) len__law_draw (hr.mono (by decide)) hgd (takes_of rfl rfl rfl rfl) T.g__law_draw T.F__law_draw.kp T.b__law_draw .nil (fun _ => .nil) (ea_cons (ee_var 1) (ea_cons ee_int ea_nil)))) ea_nil)) (blkOk_by (N := N_law) (sc := defScope st_law) (by decide +kernel)) (fun _ _ _ _ _ => ec_one 4 sc_law.nd) (fun _ _ _ _ _ => ets_nil) (fun _ _ _ _ _ => (ee_call (fn__law_page T) len__law_page (hr.mono (by decide)) hgd takes0 T.g__law_page T.F__law_page.kp T.b__law_page .nil (fun _ => .nil) (ea_cons (ee_var 1) (ea_cons (ee_var 2) ea_nil)))) (sw_true rfl rfl rfl (by decide +kernel)))
  (eb_one (es_ret (ee_and (ee_call (fn__law_right T) len__law_right (hr.mono (by decide)) hgd (takes_of rfl rfl rfl rfl) T.g__law_right T.F__law_right.kp T.b__law_right .nil (fun _ => .nil) (ea_cons (ee_var 1) (ea_cons (ee_var 3) ea_nil))) (ee_one (ee_call (fn__law_right T) len__law_right (hr.mono (by decide)) hgd (takes_of rfl rfl rfl rfl) T.g__law_right T.F__law_right.kp T.b__law_right .nil (fun _ => .nil) (ea_cons (ee_var 1) (ea_cons (ee_call (fn__law_parted T) len__law_parted (hr.mono (by decide)) hgd (takes_of rfl rfl rfl rfl) T.g__law_parted T.F__law_parted.kp T.b__law_parted .nil (fun _ => .nil) (ea_cons (ee_var 1) (ea_cons (ee_var 2) ea_nil))) ea_nil))))))))))
end
theorem all_mk {P : Program} {w : World} {K : Fg} {h : Heap} {mg : Str → Option Value} {fa f1 f2 f3 f4 f5 f6 f7 f8 f9 f10 f11 f12 f13 f14 f15 f16 : Addr} (X : K.In h) (G : h.Ns mainGlobals mg) (hfa : mg "law" = some (.ref fa))
    {od1 an1 od2 an2 od3 an3 od4 an4 od5 an5 od6 an6 od7 an7 od8 an8 od9 an9 od10 an10 od11 an11 od12 an12 od13 an13 od14 an14 od15 an15 od16 an16 : Option Addr} {sl1 sl2 sl3 sl4 sl5 sl6 sl7 sl8 sl9 sl10 sl11 sl12 sl13 sl14 sl15 sl16 : Array (Option Value)} {oc1 kV1 dc1 pm1 cd1 ct1 oc2 kV2 dc2 pm2 cd2 ct2 oc3 kV3 dc3 pm3 cd3 ct3 oc4 kV4 dc4 pm4 cd4 ct4 oc5 kV5 dc5 pm5 cd5 ct5 oc6 kV6 dc6 pm6 cd6 ct6 oc7 kV7 dc7 pm7 cd7 ct7 oc8 kV8 dc8 pm8 cd8 ct8 oc9 kV9 dc9 pm9 cd9 ct9 oc10 kV10 dc10 pm10 cd10 ct10 oc11 kV11 dc11 pm11 cd11 ct11 oc12 kV12 dc12 pm12 cd12 ct12 oc13 kV13 dc13 pm13 cd13 ct13 oc14 kV14 dc14 pm14 cd14 ct14 oc15 kV15 dc15 pm15 cd15 ct15 oc16 kV16 dc16 pm16 cd16 ct16 : Value}
    (a1 : PySem.W.nsIn K mainGlobals "page_moment" = some (some (.ref f1))) (l1 : K.lookup f1 = some ⟨oc1, od1, .func (PySem.W.fnOf "page_moment" "page_moment" (defArgs st_page_moment) (defBody st_page_moment) (defScope st_page_moment) .none kV1 dc1 pm1 an1 cd1 ct1), sl1⟩) (c1 : PySem.W.codeIn K cd1 "page_moment" = true) (k1 : PySem.W.keepIn K (.ref f1) = true)
    (a2 : PySem.W.nsIn K mainGlobals "standing" = some (some (.ref f2))) (l2 : K.lookup f2 = some ⟨oc2, od2, .func (PySem.W.fnOf "standing" "standing" (defArgs st_standing) (defBody st_standing) (defScope st_standing) .none kV2 dc2 pm2 an2 cd2 ct2), sl2⟩) (c2 : PySem.W.codeIn K cd2 "standing" = true) (k2 : PySem.W.keepIn K (.ref f2) = true)
    (a3 : PySem.W.nsIn K mainGlobals "in_order" = some (some (.ref f3))) (l3 : K.lookup f3 = some ⟨oc3, od3, .func (PySem.W.fnOf "in_order" "in_order" (defArgs st_in_order) (defBody st_in_order) (defScope st_in_order) .none kV3 dc3 pm3 an3 cd3 ct3), sl3⟩) (c3 : PySem.W.codeIn K cd3 "in_order" = true) (k3 : PySem.W.keepIn K (.ref f3) = true)
    {dt4 : Addr} {do4 : Value} {dz4 : Option Addr} {di4 : Array Value} {dn4 : Nat} {dl4 : Array (Option Value)} (a4 : PySem.W.nsIn K mainGlobals "up_to" = some (some (.ref f4))) (l4 : K.lookup f4 = some ⟨oc4, od4, .func (PySem.W.fnOf "up_to" "up_to" (defArgs st_up_to) (defBody st_up_to) (defScope st_up_to) (.ref dt4) kV4 dc4 pm4 an4 cd4 ct4), sl4⟩) (c4 : PySem.W.codeIn K cd4 "up_to" = true) (k4 : PySem.W.keepIn K (.ref f4) = true) (e4 : K.lookup dt4 = some ⟨do4, dz4, .seq di4 dn4, dl4⟩) (y4 : Vals [V.non] di4.toList)
    (a5 : PySem.W.nsIn K mainGlobals "_law_feed" = some (some (.ref f5))) (l5 : K.lookup f5 = some ⟨oc5, od5, .func (PySem.W.fnOf "_law_feed" "_law_feed" (defArgs st__law_feed) (defBody st__law_feed) (defScope st__law_feed) .none kV5 dc5 pm5 an5 cd5 ct5), sl5⟩) (c5 : PySem.W.codeIn K cd5 "_law_feed" = true) (k5 : PySem.W.keepIn K (.ref f5) = true)
    (a6 : PySem.W.nsIn K mainGlobals "_law_draw" = some (some (.ref f6))) (l6 : K.lookup f6 = some ⟨oc6, od6, .func (PySem.W.fnOf "_law_draw" "_law_draw" (defArgs st__law_draw) (defBody st__law_draw) (defScope st__law_draw) .none kV6 dc6 pm6 an6 cd6 ct6), sl6⟩) (c6 : PySem.W.codeIn K cd6 "_law_draw" = true) (k6 : PySem.W.keepIn K (.ref f6) = true)
    (a7 : PySem.W.nsIn K mainGlobals "_law_names" = some (some (.ref f7))) (l7 : K.lookup f7 = some ⟨oc7, od7, .func (PySem.W.fnOf "_law_names" "_law_names" (defArgs st__law_names) (defBody st__law_names) (defScope st__law_names) .none kV7 dc7 pm7 an7 cd7 ct7), sl7⟩) (c7 : PySem.W.codeIn K cd7 "_law_names" = true) (k7 : PySem.W.keepIn K (.ref f7) = true)
    (a8 : PySem.W.nsIn K mainGlobals "_law_words" = some (some (.ref f8))) (l8 : K.lookup f8 = some ⟨oc8, od8, .func (PySem.W.fnOf "_law_words" "_law_words" (defArgs st__law_words) (defBody st__law_words) (defScope st__law_words) .none kV8 dc8 pm8 an8 cd8 ct8), sl8⟩) (c8 : PySem.W.codeIn K cd8 "_law_words" = true) (k8 : PySem.W.keepIn K (.ref f8) = true)
    (a9 : PySem.W.nsIn K mainGlobals "_law_some" = some (some (.ref f9))) (l9 : K.lookup f9 = some ⟨oc9, od9, .func (PySem.W.fnOf "_law_some" "_law_some" (defArgs st__law_some) (defBody st__law_some) (defScope st__law_some) .none kV9 dc9 pm9 an9 cd9 ct9), sl9⟩) (c9 : PySem.W.codeIn K cd9 "_law_some" = true) (k9 : PySem.W.keepIn K (.ref f9) = true)
    (a10 : PySem.W.nsIn K mainGlobals "_law_seen" = some (some (.ref f10))) (l10 : K.lookup f10 = some ⟨oc10, od10, .func (PySem.W.fnOf "_law_seen" "_law_seen" (defArgs st__law_seen) (defBody st__law_seen) (defScope st__law_seen) .none kV10 dc10 pm10 an10 cd10 ct10), sl10⟩) (c10 : PySem.W.codeIn K cd10 "_law_seen" = true) (k10 : PySem.W.keepIn K (.ref f10) = true)
    (a11 : PySem.W.nsIn K mainGlobals "_law_page" = some (some (.ref f11))) (l11 : K.lookup f11 = some ⟨oc11, od11, .func (PySem.W.fnOf "_law_page" "_law_page" (defArgs st__law_page) (defBody st__law_page) (defScope st__law_page) .none kV11 dc11 pm11 an11 cd11 ct11), sl11⟩) (c11 : PySem.W.codeIn K cd11 "_law_page" = true) (k11 : PySem.W.keepIn K (.ref f11) = true)
    (a12 : PySem.W.nsIn K mainGlobals "_law_is_ahead" = some (some (.ref f12))) (l12 : K.lookup f12 = some ⟨oc12, od12, .func (PySem.W.fnOf "_law_is_ahead" "_law_is_ahead" (defArgs st__law_is_ahead) (defBody st__law_is_ahead) (defScope st__law_is_ahead) .none kV12 dc12 pm12 an12 cd12 ct12), sl12⟩) (c12 : PySem.W.codeIn K cd12 "_law_is_ahead" = true) (k12 : PySem.W.keepIn K (.ref f12) = true)
    (a13 : PySem.W.nsIn K mainGlobals "_law_book" = some (some (.ref f13))) (l13 : K.lookup f13 = some ⟨oc13, od13, .func (PySem.W.fnOf "_law_book" "_law_book" (defArgs st__law_book) (defBody st__law_book) (defScope st__law_book) .none kV13 dc13 pm13 an13 cd13 ct13), sl13⟩) (c13 : PySem.W.codeIn K cd13 "_law_book" = true) (k13 : PySem.W.keepIn K (.ref f13) = true)
    (a14 : PySem.W.nsIn K mainGlobals "_law_parted" = some (some (.ref f14))) (l14 : K.lookup f14 = some ⟨oc14, od14, .func (PySem.W.fnOf "_law_parted" "_law_parted" (defArgs st__law_parted) (defBody st__law_parted) (defScope st__law_parted) .none kV14 dc14 pm14 an14 cd14 ct14), sl14⟩) (c14 : PySem.W.codeIn K cd14 "_law_parted" = true) (k14 : PySem.W.keepIn K (.ref f14) = true)
    (a15 : PySem.W.nsIn K mainGlobals "_law_right" = some (some (.ref f15))) (l15 : K.lookup f15 = some ⟨oc15, od15, .func (PySem.W.fnOf "_law_right" "_law_right" (defArgs st__law_right) (defBody st__law_right) (defScope st__law_right) .none kV15 dc15 pm15 an15 cd15 ct15), sl15⟩) (c15 : PySem.W.codeIn K cd15 "_law_right" = true) (k15 : PySem.W.keepIn K (.ref f15) = true)
    (a16 : PySem.W.nsIn K mainGlobals "law" = some (some (.ref f16))) (l16 : K.lookup f16 = some ⟨oc16, od16, .func (PySem.W.fnOf "law" "law" (defArgs st_law) (defBody st_law) (defScope st_law) .none kV16 dc16 pm16 an16 cd16 ct16), sl16⟩) (c16 : PySem.W.codeIn K cd16 "law" = true) (k16 : PySem.W.keepIn K (.ref f16) = true)
    {t1 : Addr} {is1 : Array Value} {n1 : Nat} {ss1 : Array (Option Value)} (q1 : PySem.W.nsIn K mainGlobals "KINDS" = some (some (.ref t1))) (m1 : K.lookup t1 = some ⟨.type "tuple", none, .seq is1 n1, ss1⟩) (h1 : is1.size ≤ sizeLine) (v1 : Vals [V.str "print", V.str "mend", V.str "turn", V.str "mix", V.str "cut", V.str "bind", V.str "seen", V.str "lot"] is1.toList)
    (z1 : PySem.W.nsIn K mainGlobals "len" = some none)
    (z2 : PySem.W.nsIn K mainGlobals "list" = some none)
    (z3 : PySem.W.nsIn K mainGlobals "max" = some none)
    (z4 : PySem.W.nsIn K mainGlobals "min" = some none)
    (z5 : PySem.W.nsIn K mainGlobals "range" = some none)
    (z6 : PySem.W.nsIn K mainGlobals "repr" = some none)
    (z7 : PySem.W.nsIn K mainGlobals "sorted" = some none)
    (z8 : PySem.W.nsIn K mainGlobals "tuple" = some none)
    (z9 : PySem.W.nsIn K mainGlobals "zip" = some none)
    : ∃ fd : FuncData, (∀ (s : Shared) (v : Value), BindsTo s fd ⟨[v], []⟩ [("script", v)]) ∧ ∀ base : Heap, K.In base → base.Ns mainGlobals mg → FnG P w K mg base 6 fa fd ["script"] p_law := by
  have e := hfa.symm.trans (PySem.W.mg_of X G a16)
  cases e
  have F1 := fun_mk (st := st_page_moment) l1 c1 k1
  have F2 := fun_mk (st := st_standing) l2 c2 k2
  have F3 := fun_mk (st := st_in_order) l3 c3 k3
  have F4 := fund_mk (st := st_up_to) l4 c4 k4 e4 (by simp) y4
  have F5 := fun_mk (st := st__law_feed) l5 c5 k5
  have F6 := fun_mk (st := st__law_draw) l6 c6 k6
  have F7 := fun_mk (st := st__law_names) l7 c7 k7
  have F8 := fun_mk (st := st__law_words) l8 c8 k8
  have F9 := fun_mk (st := st__law_some) l9 c9 k9
  have F10 := fun_mk (st := st__law_seen) l10 c10 k10
  have F11 := fun_mk (st := st__law_page) l11 c11 k11
  have F12 := fun_mk (st := st__law_is_ahead) l12 c12 k12
  have F13 := fun_mk (st := st__law_book) l13 c13 k13
  have F14 := fun_mk (st := st__law_parted) l14 c14 k14
  have F15 := fun_mk (st := st__law_right) l15 c15 k15
  have F16 := fun_mk (st := st_law) l16 c16 k16
  have b1 := F1.binds (ps := ["page"]) fun _ _ _ _ _ _ us hl => match us, hl with | [_], _ => rfl
  have b2 := F2.binds (ps := ["page"]) fun _ _ _ _ _ _ us hl => match us, hl with | [_], _ => rfl
  have b3 := F3.binds (ps := ["pages"]) fun _ _ _ _ _ _ us hl => match us, hl with | [_], _ => rfl
  have b4 := fund_full (ps := ["book", "until"]) F4 (by simp) fun _ _ _ _ _ _ _ us its hl h2 => match us, its, hl, h2 with | [_, _], [_], _, _ => ⟨_, rfl, rfl⟩
  obtain ⟨ds4_1, vd4_1, bd4_1⟩ := F4.binds1 (ps := ["book", "until"]) 1 0 (by simp) rfl fun _ _ _ _ _ _ _ us its h1 h2 => match us, its, h1, h2 with | [_], [_], _, _ => ⟨_, rfl, rfl⟩
  have b5 := F5.binds (ps := ["script"]) fun _ _ _ _ _ _ us hl => match us, hl with | [_], _ => rfl
  have b6 := F6.binds (ps := ["feed", "many"]) fun _ _ _ _ _ _ us hl => match us, hl with | [_, _], _ => rfl
  have b7 := F7.binds (ps := ["feed", "many"]) fun _ _ _ _ _ _ us hl => match us, hl with | [_, _], _ => rfl
  have b8 := F8.binds (ps := ["feed"]) fun _ _ _ _ _ _ us hl => match us, hl with | [_], _ => rfl
  have b9 := F9.binds (ps := ["feed", "words", "most"]) fun _ _ _ _ _ _ us hl => match us, hl with | [_, _, _], _ => rfl
  have b10 := F10.binds (ps := ["feed", "words"]) fun _ _ _ _ _ _ us hl => match us, hl with | [_, _], _ => rfl
  have b11 := F11.binds (ps := ["feed", "words"]) fun _ _ _ _ _ _ us hl => match us, hl with | [_, _], _ => rfl
  have b12 := F12.binds (ps := ["one", "other"]) fun _ _ _ _ _ _ us hl => match us, hl with | [_, _], _ => rfl
  have b13 := F13.binds (ps := ["pages"]) fun _ _ _ _ _ _ us hl => match us, hl with | [_], _ => rfl
  have b14 := F14.binds (ps := ["feed", "words"]) fun _ _ _ _ _ _ us hl => match us, hl with | [_, _], _ => rfl
  have b15 := F15.binds (ps := ["feed", "pages"]) fun _ _ _ _ _ _ us hl => match us, hl with | [_, _], _ => rfl
  have b16 := F16.binds (ps := ["script"]) fun _ _ _ _ _ _ us hl => match us, hl with | [_], _ => rfl
  have kb4_until_book := kbn_ofD (ps := ["book", "until"]) (ks := ["until", "book"]) (n := 0) F4 (by simp) (fun us ws => swap2 us ws) (fun _ _ _ _ _ _ _ us ws its h1 h2 h3 => match us, ws, its, h1, h2, h3 with | [], [_, _], [_], _, _, _ => ⟨_, rfl, rfl⟩) (fun a b => swap2_vals a b)
  have kb4_until := kbn_ofD (ps := ["book", "until"]) (ks := ["until"]) (n := 1) F4 (by simp) (fun us ws => us ++ ws) (fun _ _ _ _ _ _ _ us ws its h1 h2 h3 => match us, ws, its, h1, h2, h3 with | [_], [_], [_], _, _, _ => ⟨_, rfl, rfl⟩) (fun a b => a.append b)
  exact ⟨PySem.W.fnOf "law" "law" (defArgs st_law) (defBody st_law) (defScope st_law) .none kV16 dc16 pm16 an16 cd16 ct16, fun s v => .of_eq rfl, fun base _ _ => fn_law { a_page_moment := f1, d_page_moment := _, F_page_moment := F1, g_page_moment := PySem.W.mg_of X G a1, b_page_moment := b1, a_standing := f2, d_standing := _, F_standing := F2, g_standing := PySem.W.mg_of X G a2, b_standing := b2, a_in_order := f3, d_in_order := _, F_in_order := F3, g_in_order := PySem.W.mg_of X G a3, b_in_order := b3, a_up_to := f4, d_up_to := _, F_up_to := F4, g_up_to := PySem.W.mg_of X G a4, b_up_to := b4, ds_up_to_1 := ds4_1, vd_up_to_1 := vd4_1, bd_up_to_1 := bd4_1, a__law_feed := f5, d__law_feed := _, F__law_feed := F5, g__law_feed := PySem.W.mg_of X G a5, b__law_feed := b5, a__law_draw := f6, d__law_draw := _, F__law_draw := F6, g__law_draw := PySem.W.mg_of X G a6, b__law_draw := b6, a__law_names := f7, d__law_names := _, F__law_names := F7, g__law_names := PySem.W.mg_of X G a7, b__law_names := b7, a__law_words := f8, d__law_words := _, F__law_words := F8, g__law_words := PySem.W.mg_of X G a8, b__law_words := b8, a__law_some := f9, d__law_some := _, F__law_some := F9, g__law_some := PySem.W.mg_of X G a9, b__law_some := b9, a__law_seen := f10, d__law_seen := _, F__law_seen := F10, g__law_seen := PySem.W.mg_of X G a10, b__law_seen := b10, a__law_page := f11, d__law_page := _, F__law_page := F11, g__law_page := PySem.W.mg_of X G a11, b__law_page := b11, a__law_is_ahead := f12, d__law_is_ahead := _, F__law_is_ahead := F12, g__law_is_ahead := PySem.W.mg_of X G a12, b__law_is_ahead := b12, a__law_book := f13, d__law_book := _, F__law_book := F13, g__law_book := PySem.W.mg_of X G a13, b__law_book := b13, a__law_parted := f14, d__law_parted := _, F__law_parted := F14, g__law_parted := PySem.W.mg_of X G a14, b__law_parted := b14, a__law_right := f15, d__law_right := _, F__law_right := F15, g__law_right := PySem.W.mg_of X G a15, b__law_right := b15, a_law := fa, d_law := _, F_law := F16, g_law := PySem.W.mg_of X G a16, b_law := b16, kb_up_to_until_book := kb4_until_book, kb_up_to_until := kb4_until, u_KINDS := .ref t1, v_KINDS := .ref t1, g_KINDS := PySem.W.mg_of X G q1, r_KINDS := rfl, kr_KINDS := fun _ => rep_ktup m1 rfl rfl h1 v1 (.cons (by rw [Rep]) (.cons (by rw [Rep]) (.cons (by rw [Rep]) (.cons (by rw [Rep]) (.cons (by rw [Rep]) (.cons (by rw [Rep]) (.cons (by rw [Rep]) (.cons (by rw [Rep]) .nil)))))))), x_KINDS := ⟨_, _, PySem.W.mg_of X G q1, m1, rfl, rfl, fun _ => rep_ktup m1 rfl rfl h1 v1 (.cons (by rw [Rep]) (.cons (by rw [Rep]) (.cons (by rw [Rep]) (.cons (by rw [Rep]) (.cons (by rw [Rep]) (.cons (by rw [Rep]) (.cons (by rw [Rep]) (.cons (by rw [Rep]) .nil))))))))⟩, z_len := PySem.W.mg_none_of X G z1, z_list := PySem.W.mg_none_of X G z2, z_max := PySem.W.mg_none_of X G z3, z_min := PySem.W.mg_none_of X G z4, z_range := PySem.W.mg_none_of X G z5, z_repr := PySem.W.mg_none_of X G z6, z_sorted := PySem.W.mg_none_of X G z7, z_tuple := PySem.W.mg_none_of X G z8, z_zip := PySem.W.mg_none_of X G z9 }⟩
end PL
open PySem PySem.W PyProof.Rows
set_option maxHeartbeats 0 in
theorem PySem.Challenge.cw_cancelleaves_k09_up_to_holds : PySem.Challenge.rw_cancelleaves_k09_up_to.Holds := by
  w_on; o_law; k_head; (case hw => w_witness2)
  k_fill
  refine PL.walk_G (l := PySem.Challenge.rw_cancelleaves_k09_up_to) (k := 6) (x := "script") rfl rfl ⟨rfl, by decide, by decide⟩ (fun w h Y => PySem.W.kIn_of Y) ?F
  case F =>
    intro w mg fa h KX G hmg
    refine' PL.all_mk KX G hmg ?a1 ?l1 ?c1 ?k1 ?a2 ?l2 ?c2 ?k2 ?a3 ?l3 ?c3 ?k3 ?a4 ?l4 ?c4 ?k4 ?e4 ?y4 ?a5 ?l5 ?c5 ?k5 ?a6 ?l6 ?c6 ?k6 ?a7 ?l7 ?c7 ?k7 ?a8 ?l8 ?c8 ?k8 ?a9 ?l9 ?c9 ?k9 ?a10 ?l10 ?c10 ?k10 ?a11 ?l11 ?c11 ?k11 ?a12 ?l12 ?c12 ?k12 ?a13 ?l13 ?c13 ?k13 ?a14 ?l14 ?c14 ?k14 ?a15 ?l15 ?c15 ?k15 ?a16 ?l16 ?c16 ?k16 ?q1 ?m1 ?h1 ?v1 ?z1 ?z2 ?z3 ?z4 ?z5 ?z6 ?z7 ?z8 ?z9
    (case a1 => k_is)
    (case l1 => k_is)
    (case c1 => k_is)
    (case k1 => k_is)
    (case a2 => k_is)
    (case l2 => k_is)
    (case c2 => k_is)
    (case k2 => k_is)
    (case a3 => k_is)
    (case l3 => k_is)
    (case c3 => k_is)
    (case k3 => k_is)
    (case a4 => k_is)
    (case l4 => k_is)
    (case c4 => k_is)
    (case k4 => k_is)
    (case e4 => k_is)
    (case y4 => exact (.cons rfl .nil))
    (case a5 => k_is)
    (case l5 => k_is)
    (case c5 => k_is)
    (case k5 => k_is)
    (case a6 => k_is)
    (case l6 => k_is)
    (case c6 => k_is)
    (case k6 => k_is)
    (case a7 => k_is)
    (case l7 => k_is)
    (case c7 => k_is)
    (case k7 => k_is)
    (case a8 => k_is)
    (case l8 => k_is)
    (case c8 => k_is)
    (case k8 => k_is)
    (case a9 => k_is)
    (case l9 => k_is)
    (case c9 => k_is)
    (case k9 => k_is)
    (case a10 => k_is)
    (case l10 => k_is)
    (case c10 => k_is)
    (case k10 => k_is)
    (case a11 => k_is)
    (case l11 => k_is)
    (case c11 => k_is)
    (case k11 => k_is)
    (case a12 => k_is)
    (case l12 => k_is)
    (case c12 => k_is)
    (case k12 => k_is)
    (case a13 => k_is)
    (case l13 => k_is)
    (case c13 => k_is)
    (case k13 => k_is)
    (case a14 => k_is)
    (case l14 => k_is)
    (case c14 => k_is)
    (case k14 => k_is)
    (case a15 => k_is)
    (case l15 => k_is)
    (case c15 => k_is)
    (case k15 => k_is)
    (case a16 => k_is)
    (case l16 => k_is)
    (case c16 => k_is)
    (case k16 => k_is)
    (case q1 => k_is)
    (case m1 => k_is)
    (case h1 => decide)
    (case v1 => exact (.cons ⟨_, rfl⟩ (.cons ⟨_, rfl⟩ (.cons ⟨_, rfl⟩ (.cons ⟨_, rfl⟩ (.cons ⟨_, rfl⟩ (.cons ⟨_, rfl⟩ (.cons ⟨_, rfl⟩ (.cons ⟨_, rfl⟩ .nil)))))))))
    (case z1 => k_is)
    (case z2 => k_is)
    (case z3 => k_is)
    (case z4 => k_is)
    (case z5 => k_is)
    (case z6 => k_is)
    (case z7 => k_is)
    (case z8 => k_is)
    (case z9 => k_is)
