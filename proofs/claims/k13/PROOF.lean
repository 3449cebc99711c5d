import PyProof.Rows.All
import HandS.ForMost
import HandS.ForExc
import HandS.TupAny
import HandS.TupMul
import HandS.EndBits
import HandS.CallSlots
import KE.SortData
import HandS.Defaults
import PyProof.P3In
import HandS.IsInst
import HandS.Zip
import HandS.Deep
import HandS.TupLe
import HandS.Strs
import KE.SortKeyHeap
import HandS.SortKw
import HandS.More
import PyProof.MinMaxWalk
import PyProof.WalkInts
import HandS.SetFor
import HandS.TryOnly
import PySem.Challenge.RW_cancelleaves_k13_whole_joined_thrice
set_option Elab.async false
set_option linter.all false
set_option maxRecDepth 100000
set_option autoImplicit true
namespace PL
open PySem PySem.Spec PyProof.Rows L2

/-! ## plain values: tuples are values, lists, dicts and instances stand at addresses -/
/-- kinds of things that values are laid in: lists, dicts, sets, instances; only read where a value -/
inductive BK where
  | lst | dct | set | ins (c : Nat) (ns : List Str)
inductive PV where
  | bx (k : BK) (xs : List PV) | non | bl (b : Bool) | int (i : Int) | str (x : Str) | tup (xs : List PV) | ref (a : Addr) | ty (n : String)

abbrev Fg := PySem.W.Frag

mutual
def Rep (K : Fg) (H : Hp) : PV → V → Prop
  | .non, v => v = .non
  | .bl b, v => v = .bl b
  | .int i, v => v = .int i
  | .str x, v => v = .str x
  | .tup xs, v => ∃ a vs, v = .ref a ∧ SqT K H a vs ∧ Reps K H xs vs
  | .ref a, v => v = .ref a
  | .ty n, v => v = .ty n
  | .bx _ _, _ => False
def Reps (K : Fg) (H : Hp) : List PV → List V → Prop
  | [], vs => vs = []
  | x :: xs, vs => ∃ v r, vs = v :: r ∧ Rep K H x v ∧ Reps K H xs r
end

inductive PO where
  | lst (xs : List PV)
  | rol (xs : List PV)
  | ins (C : Addr) (fs : List (Str × PV))
  | dK (kvs : List (Key × PV))
def PO.wr : PO → Bool
  | .rol _ => false
  | _ => true

abbrev PH := Addr → Option PO
def pupd (M : PH) (a : Addr) (o : PO) : PH := fun b => if b = a then some o else M b
theorem pupd_same {M : PH} {a : Addr} {o : PO} : pupd M a o a = some o := by unfold pupd; rw [if_pos rfl]
theorem pupd_ne {M : PH} {a b : Addr} {o : PO} (h : b ≠ a) : pupd M a o b = M b := by unfold pupd; rw [if_neg h]
/-- what stands at a may be written -/
def Wr (M : PH) (a : Addr) : Prop := ∃ o, M a = some o ∧ o.wr = true
theorem Wr.of {M : PH} {a : Addr} {o : PO} (h : M a = some o) (w : o.wr = true := by rfl) : Wr M a := ⟨o, h, w⟩
theorem Wr.ne {M : PH} {a b : Addr} (w : Wr M a) (n : ¬ Wr M b) : a ≠ b := fun e => n (e ▸ w)

def RepF (K : Fg) (H : Hp) (fs : List (Str × PV)) (vs : List (Str × V)) : Prop := fs.map (·.1) = vs.map (·.1) ∧ Reps K H (fs.map (·.2)) (vs.map (·.2))
def RepK (K : Fg) (H : Hp) (fs : List (Key × PV)) (vs : List (Key × V)) : Prop := fs.map (·.1) = vs.map (·.1) ∧ Reps K H (fs.map (·.2)) (vs.map (·.2))
/-- a list of the written part -/
def KList (K : Fg) (a : Addr) (xs : List V) : Prop :=
  ∃ (o : Obj) (its : Array Value) (n : Nat), K.lookup a = some o ∧ o.cls = .type "list" ∧ o.dict = none ∧ o.data = .seq its n ∧ its.size ≤ sizeLine ∧ Vals xs its.toList
def RepO (K : Fg) (H : Hp) (a : Addr) : PO → Prop
  | .lst xs => ∃ vs, H a = some (.lst vs) ∧ Reps K H xs vs
  | .rol xs => ∃ vs, ((∃ o, H a = some (.frz o (.lst vs))) ∨ KList K a vs) ∧ Reps K H xs vs
  | .ins C fs => ∃ dx vs, H a = some (.ins C dx vs) ∧ RepF K H fs vs
  | .dK kvs => ∃ vs, H a = some (.dK vs) ∧ RepK K H kvs vs
def RepH (K : Fg) (H : Hp) (M : PH) : Prop := ∀ a o, M a = some o → RepO K H a o

structure Step (M : PH) (H : Hp) (M' : PH) (H' : Hp) : Prop where
  keep : ∀ a o, H a = some o → ¬ Wr M a → H' a = some o
  fresh : ∀ a, Wr M' a → ¬ Wr M a → H a = none
  there : ∀ a, H a ≠ none → H' a ≠ none
theorem Step.refl (M : PH) (H : Hp) : Step M H M H := ⟨fun _ _ e _ => e, fun _ w n => (n w).elim, fun _ h => h⟩
theorem there_upd {H : Hp} {b : Addr} {o : HO} : ∀ a, H a ≠ none → upd H b o a ≠ none := fun a h => by
  unfold upd
  split
  · exact fun z => (by cases z)
  · exact h
theorem Step.trans {M M1 M2 : PH} {H H1 H2 : Hp} (a : Step M H M1 H1) (b : Step M1 H1 M2 H2) : Step M H M2 H2 := by
  refine ⟨fun x o e n => ?_, fun x w n => ?_, fun x h => b.there x (a.there x h)⟩
  · refine b.keep x o (a.keep x o e n) fun w1 => ?_
    have := a.fresh x w1 n
    rw [e] at this; cases this
  · by_cases w1 : Wr M1 x
    · exact a.fresh x w1 n
    · have h1 := b.fresh x w w1
      cases q : H x with
      | none => rfl
      | some o => rw [a.keep x o q n] at h1; cases h1

/-- the tuples that stand stay: enough for what represents values -/
def TKeep (H H' : Hp) : Prop := (∀ a xs, H a = some (.tup xs) → H' a = some (.tup xs)) ∧ ∀ a o xs, H a = some (.frz o (.tup xs)) → H' a = some (.frz o (.tup xs))
theorem TKeep.refl (H : Hp) : TKeep H H := ⟨fun _ _ e => e, fun _ _ _ e => e⟩
theorem sqt_keep {K : Fg} {H H' : Hp} (t : TKeep H H') {a : Addr} {xs : List V} (h : SqT K H a xs) : SqT K H' a xs := by
  rcases h with (h | ⟨o, h⟩) | h
  · exact .inl (.inl (t.1 _ _ h))
  · exact .inl (.inr ⟨o, t.2 _ _ _ h⟩)
  · exact .inr h
mutual
theorem Rep.tk {K : Fg} {H H' : Hp} (t : TKeep H H') : ∀ {p : PV} {v : V}, Rep K H p v → Rep K H' p v
  | .non, _, h => h
  | .bl _, _, h => h
  | .int _, _, h => h
  | .str _, _, h => h
  | .ref _, _, h => h
  | .ty _, _, h => h
  | .bx _ _, _, h => h
  | .tup xs, v, h => by
    rw [Rep] at h ⊢
    obtain ⟨a, vs, e, s, r⟩ := h
    exact ⟨a, vs, e, sqt_keep t s, Reps.tk t r⟩
theorem Reps.tk {K : Fg} {H H' : Hp} (t : TKeep H H') : ∀ {ps : List PV} {vs : List V}, Reps K H ps vs → Reps K H' ps vs
  | [], _, h => h
  | x :: xs, _, h => by
    rw [Reps] at h ⊢
    obtain ⟨v, r, e, s, q⟩ := h
    exact ⟨v, r, e, Rep.tk t s, Reps.tk t q⟩
end
theorem RepF.tk {K : Fg} {H H' : Hp} (t : TKeep H H') {fs : List (Str × PV)} {vs : List (Str × V)} (h : RepF K H fs vs) : RepF K H' fs vs := ⟨h.1, h.2.tk t⟩
theorem RepK.tk {K : Fg} {H H' : Hp} (t : TKeep H H') {fs : List (Key × PV)} {vs : List (Key × V)} (h : RepK K H fs vs) : RepK K H' fs vs := ⟨h.1, h.2.tk t⟩
/-- no tuple stands where something may be written -/
theorem RepH.notup {K : Fg} {H : Hp} {M : PH} (rh : RepH K H M) {a : Addr} (w : Wr M a) : (∀ xs, H a ≠ some (.tup xs)) ∧ ∀ o xs, H a ≠ some (.frz o xs) := by
  obtain ⟨o, e, hw⟩ := w
  have r := rh a o e
  cases o with
  | lst xs => obtain ⟨vs, h, _⟩ := r; rw [h]; exact ⟨fun _ z => (by cases z), fun _ _ z => (by cases z)⟩
  | rol xs => cases hw
  | ins C fs => obtain ⟨dx, vs, h, _⟩ := r; rw [h]; exact ⟨fun _ z => (by cases z), fun _ _ z => (by cases z)⟩
  | dK kvs => obtain ⟨vs, h, _⟩ := r; rw [h]; exact ⟨fun _ z => (by cases z), fun _ _ z => (by cases z)⟩
theorem Step.tk {K : Fg} {M M' : PH} {H H' : Hp} (S : Step M H M' H') (rh : RepH K H M) : TKeep H H' :=
  ⟨fun a xs e => S.keep a _ e fun w => (rh.notup w).1 _ e, fun a o xs e => S.keep a _ e fun w => (rh.notup w).2 _ _ e⟩
/-- .. and where it may, something stands -/
theorem RepH.there {K : Fg} {H : Hp} {M : PH} (rh : RepH K H M) {a : Addr} (w : Wr M a) : H a ≠ none := by
  obtain ⟨o, e, hw⟩ := w
  have r := rh a o e
  cases o with
  | lst xs => obtain ⟨vs, h, _⟩ := r; rw [h]; exact fun z => (by cases z)
  | rol xs => cases hw
  | ins C fs => obtain ⟨dx, vs, h, _⟩ := r; rw [h]; exact fun z => (by cases z)
  | dK kvs => obtain ⟨vs, h, _⟩ := r; rw [h]; exact fun z => (by cases z)
theorem RepH.free {K : Fg} {H : Hp} {M : PH} (rh : RepH K H M) {a : Addr} (e : H a = none) : ¬ Wr M a := fun w => rh.there w e

/-- what stands at a, where the heap is the same at a and the tuples stay -/
theorem RepO.keep {K : Fg} {H H' : Hp} {a : Addr} (t : TKeep H H') (e : ∀ u, H a = some u → H' a = some u) : ∀ {o : PO}, RepO K H a o → RepO K H' a o
  | .lst xs, ⟨vs, h, r⟩ => ⟨vs, e _ h, r.tk t⟩
  | .rol xs, ⟨vs, .inl ⟨o, h⟩, r⟩ => ⟨vs, .inl ⟨o, e _ h⟩, r.tk t⟩
  | .rol xs, ⟨vs, .inr h, r⟩ => ⟨vs, .inr h, r.tk t⟩
  | .ins C fs, ⟨dx, vs, h, r⟩ => ⟨dx, vs, e _ h, r.tk t⟩
  | .dK kvs, ⟨vs, h, r⟩ => ⟨vs, e _ h, r.tk t⟩

/-- a write or a new object at a: what was not there, or what could be written -/
theorem tk_upd {H : Hp} {a : Addr} {o : HO} (h : (∀ xs, H a ≠ some (.tup xs)) ∧ ∀ o xs, H a ≠ some (.frz o xs)) : TKeep H (upd H a o) :=
  ⟨fun b xs e => by rw [upd_ne (fun z => h.1 xs (by rw [← z]; exact e))]; exact e, fun b u xs e => by rw [upd_ne (fun z => h.2 u _ (by rw [← z]; exact e))]; exact e⟩
theorem tk_new {H : Hp} {a : Addr} {o : HO} (h : H a = none) : TKeep H (upd H a o) := tk_upd ⟨fun _ z => (by rw [h] at z; cases z), fun _ _ z => (by rw [h] at z; cases z)⟩
theorem RepH.upd_free {K : Fg} {H : Hp} {M : PH} (rh : RepH K H M) {a : Addr} {o : HO} (h : H a = none) : RepH K (upd H a o) M := fun b u e =>
  (rh b u e).keep (tk_new h) fun w q => by rw [upd_ne fun z => by rw [z, h] at q; cases q]; exact q
/-- an object outside of M is written -/
theorem RepH.upd_out {K : Fg} {H : Hp} {M : PH} (rh : RepH K H M) {a : Addr} {o : HO} (hw : ¬ Wr M a) (h : (∀ xs, H a ≠ some (.tup xs)) ∧ ∀ o xs, H a ≠ some (.frz o xs)) : RepH K (upd H a o) M := fun b u e => by
  have t : TKeep H (upd H a o) := tk_upd h
  have r := rh b u e
  by_cases hb : b = a
  · subst hb
    cases u with
    | lst xs => exact (hw ⟨_, e, rfl⟩).elim
    | ins C fs => exact (hw ⟨_, e, rfl⟩).elim
    | dK kvs => exact (hw ⟨_, e, rfl⟩).elim
    | rol xs =>
      obtain ⟨vs, hh, q⟩ := r
      rcases hh with ⟨o', hh⟩ | hh
      · exact (h.2 _ _ hh).elim
      · exact ⟨vs, .inr hh, q.tk t⟩
  · exact r.keep t fun w q => by rw [upd_ne hb]; exact q
/-- an object is written or laid at a, in both heaps -/
theorem RepH.upd_both {K : Fg} {H : Hp} {M : PH} (rh : RepH K H M) {a : Addr} {o : HO} {p : PO} (h : (∀ xs, H a ≠ some (.tup xs)) ∧ ∀ o xs, H a ≠ some (.frz o xs)) (new : RepO K (upd H a o) a p) : RepH K (upd H a o) (pupd M a p) := fun b u e => by
  by_cases hb : b = a
  · subst hb
    rw [pupd_same] at e; cases e
    exact new
  · rw [pupd_ne hb] at e
    exact (rh b u e).keep (tk_upd h) fun w q => by rw [upd_ne hb]; exact q
theorem wr_pupd {M : PH} {a b : Addr} {p : PO} (w : Wr (pupd M a p) b) : b = a ∨ Wr M b := by
  by_cases hb : b = a
  · exact .inl hb
  · obtain ⟨o, e, hw⟩ := w
    rw [pupd_ne hb] at e
    exact .inr ⟨o, e, hw⟩
theorem Step.write {M : PH} {H : Hp} {a : Addr} {o : HO} {p : PO} (w : Wr M a) : Step M H (pupd M a p) (upd H a o) :=
  ⟨fun b u e n => by rw [upd_ne (fun z => n (by rw [z]; exact w))]; exact e, fun b wb n => (by
    rcases wr_pupd wb with e | e
    · exact (n (e ▸ w)).elim
    · exact (n e).elim), there_upd⟩
theorem Step.new {M : PH} {H : Hp} {a : Addr} {o : HO} {p : PO} (h : H a = none) : Step M H (pupd M a p) (upd H a o) :=
  ⟨fun b u e n => by rw [upd_ne fun z => by rw [z, h] at e; cases e]; exact e, fun b wb n => (by
    rcases wr_pupd wb with e | e
    · rw [e]; exact h
    · exact (n e).elim), there_upd⟩
/-- something that M does not know is laid -/
theorem Step.hidden {M : PH} {H : Hp} {a : Addr} {o : HO} (h : H a = none) : Step M H M (upd H a o) :=
  ⟨fun b u e n => by rw [upd_ne fun z => by rw [z, h] at e; cases e]; exact e, fun b wb n => (n wb).elim, there_upd⟩
theorem Step.free {M M' : PH} {H H' : Hp} (S : Step M H M' H') {a : Addr} (h : H' a = none) : H a = none := by
  cases z : H a with
  | none => rfl
  | some u => exact (S.there a (by rw [z]; exact fun q => (by cases q)) h).elim
/-- .. or written, where it wasn't there at the start -/
theorem Step.over {M M' : PH} {H H' : Hp} {a : Addr} {o : HO} (S : Step M H M' H') (h : H a = none) : Step M H M' (upd H' a o) :=
  ⟨fun b u e n => by rw [upd_ne fun z => by rw [z, h] at e; cases e]; exact S.keep b u e n, S.fresh, fun b hb => there_upd b (S.there b hb)⟩
/-- forgetting -/
def PLe (M M' : PH) : Prop := ∀ a o, M a = some o → M' a = some o
theorem PLe.refl (M : PH) : PLe M M := fun _ _ e => e
theorem PLe.trans {M M1 M2 : PH} (a : PLe M M1) (b : PLe M1 M2) : PLe M M2 := fun x o e => b x o (a x o e)
theorem RepH.le {K : Fg} {H : Hp} {M M' : PH} (l : PLe M M') (rh : RepH K H M') : RepH K H M := fun a o e => rh a o (l a o e)
theorem Wr.le {M M' : PH} (l : PLe M M') {a : Addr} (w : Wr M a) : Wr M' a := let ⟨o, e, h⟩ := w; ⟨o, l a o e, h⟩
theorem Step.le {M M1 M2 : PH} {H H' : Hp} (S : Step M H M2 H') (l : PLe M1 M2) : Step M H M1 H' := ⟨S.keep, fun a w n => S.fresh a (w.le l) n, S.there⟩

/-! ## lists of represented values -/
section
variable {K : Fg} {H : Hp}
theorem Reps.length : ∀ {ps : List PV} {vs : List V}, Reps K H ps vs → ps.length = vs.length
  | [], _, h => by rw [Reps] at h; subst h; rfl
  | x :: xs, _, h => by
    rw [Reps] at h
    obtain ⟨v, r, e, _, q⟩ := h
    subst e
    simp [Reps.length q]
theorem Reps.nil : Reps K H [] [] := by rw [Reps]
theorem Reps.cons {p : PV} {v : V} {ps : List PV} {vs : List V} (h : Rep K H p v) (t : Reps K H ps vs) : Reps K H (p :: ps) (v :: vs) := by
  rw [Reps]; exact ⟨v, vs, rfl, h, t⟩
theorem Reps.append : ∀ {ps qs : List PV} {vs us : List V}, Reps K H ps vs → Reps K H qs us → Reps K H (ps ++ qs) (vs ++ us)
  | [], _, _, _, h, g => by rw [Reps] at h; subst h; exact g
  | x :: xs, qs, _, us, h, g => by
    rw [Reps] at h
    obtain ⟨v, r, e, h1, q⟩ := h
    subst e
    exact .cons h1 (Reps.append q g)
theorem Reps.get : ∀ {ps : List PV} {vs : List V}, Reps K H ps vs → ∀ {i : Nat} {p : PV}, ps[i]? = some p → ∃ v, vs[i]? = some v ∧ Rep K H p v
  | [], _, _, i, p, e => by simp at e
  | x :: xs, _, h, i, p, e => by
    rw [Reps] at h
    obtain ⟨v, r, e', h1, q⟩ := h
    subst e'
    cases i with
    | zero => simp at e; subst e; exact ⟨v, rfl, h1⟩
    | succ i =>
      obtain ⟨u, a, b⟩ := Reps.get q (i := i) (p := p) (by simpa using e)
      exact ⟨u, by simpa using a, b⟩
theorem Reps.got : ∀ {ps : List PV} {vs : List V}, Reps K H ps vs → ∀ {i : Nat} {v : V}, vs[i]? = some v → ∃ p, ps[i]? = some p ∧ Rep K H p v := fun {ps vs} h {i v} e => by
  have hl := h.length
  have hi : i < vs.length := (List.getElem?_eq_some_iff.mp e).1
  have e1 : ps[i]? = some (ps[i]'(by omega)) := List.getElem?_eq_getElem _
  obtain ⟨u, a, b⟩ := h.get e1
  rw [e] at a; cases a
  exact ⟨_, e1, b⟩
theorem Reps.set {p : PV} {v : V} (r : Rep K H p v) : ∀ {ps : List PV} {vs : List V} (i : Nat), Reps K H ps vs → Reps K H (ps.set i p) (vs.set i v)
  | [], _, _, h => by rw [Reps] at h; subst h; exact .nil
  | x :: xs, _, i, h => by
    rw [Reps] at h
    obtain ⟨u, t, e, h1, q⟩ := h
    subst e
    cases i with
    | zero => exact .cons r q
    | succ i => exact .cons h1 (Reps.set r i q)
theorem Reps.take : ∀ {ps : List PV} {vs : List V} (n : Nat), Reps K H ps vs → Reps K H (ps.take n) (vs.take n)
  | [], _, n, h => by rw [Reps] at h; subst h; simp [Reps]
  | x :: xs, _, n, h => by
    rw [Reps] at h
    obtain ⟨u, t, e, h1, q⟩ := h
    subst e
    cases n with
    | zero => exact .nil
    | succ n => exact .cons h1 (Reps.take n q)
theorem Reps.drop : ∀ {ps : List PV} {vs : List V} (n : Nat), Reps K H ps vs → Reps K H (ps.drop n) (vs.drop n)
  | [], _, n, h => by rw [Reps] at h; subst h; simp [Reps]
  | x :: xs, _, n, h => by
    rw [Reps] at h
    obtain ⟨u, t, e, h1, q⟩ := h
    subst e
    cases n with
    | zero => exact .cons h1 q
    | succ n => exact Reps.drop n q
theorem Reps.eraseIdx : ∀ {ps : List PV} {vs : List V} (n : Nat), Reps K H ps vs → Reps K H (ps.eraseIdx n) (vs.eraseIdx n)
  | [], _, n, h => by rw [Reps] at h; subst h; simp [Reps]
  | x :: xs, _, n, h => by
    rw [Reps] at h
    obtain ⟨u, t, e, h1, q⟩ := h
    subst e
    cases n with
    | zero => exact q
    | succ n => exact .cons h1 (Reps.eraseIdx n q)
theorem Reps.rep {ps : List PV} {vs : List V} (h : Reps K H ps vs) : ∀ k : Nat, Reps K H (List.replicate k ps).flatten (List.replicate k vs).flatten
  | 0 => .nil
  | k + 1 => by
    rw [List.replicate_succ, List.replicate_succ, List.flatten_cons, List.flatten_cons]
    exact h.append (Reps.rep h k)
theorem Reps.isEmpty {ps : List PV} {vs : List V} (h : Reps K H ps vs) : ps.isEmpty = vs.isEmpty := by
  have := h.length
  cases ps <;> cases vs <;> simp_all
theorem Rep.int_of {p : PV} {i : Int} (h : Rep K H p (.int i)) : p = .int i := by
  cases p with
  | int j => rw [Rep] at h; cases h; rfl
  | tup xs => rw [Rep] at h; obtain ⟨_, _, e, _⟩ := h; cases e
  | _ => rw [Rep] at h; cases h
theorem Reps.ints : ∀ {ns : List Int}, Reps K H (ns.map PV.int) (ns.map V.int)
  | [] => .nil
  | n :: r => by rw [List.map_cons, List.map_cons]; exact .cons (by rw [Rep]) Reps.ints
end
end PL
set_option autoImplicit true
namespace PL
open PySem PySem.Spec L2
open PyProof.Rows hiding St

/-! ## what is wanted: predicates over plain values and heaps -/
abbrev PSt := List (Option PV)
abbrev PX := Value → List (Str × PV) → PSt → PH → Prop
abbrev QE := PV → PH → Prop
abbrev WE := PX → PSt → PH → QE → Prop
abbrev WT := PX → PSt → PH → (Bool → PH → Prop) → Prop
abbrev WA := PX → PSt → PH → (List PV → PH → Prop) → Prop
structure PEnds where
  nx : PSt → PH → Prop
  rt : PV → PH → Prop
  bk : PSt → PH → Prop := fun _ _ => False
  ct : PSt → PH → Prop := fun _ _ => False
abbrev WS := PX → PEnds → PSt → PH → Prop

def RepS (K : Fg) (H : Hp) (ps : PSt) (σ : St) : Prop := ps.length = σ.length ∧ ∀ (i : Nat) (p : PV), ps[i]? = some (some p) → ∃ v, σ[i]? = some (some v) ∧ Rep K H p v
theorem RepS.tk {K : Fg} {H H' : Hp} (t : TKeep H H') {ps : PSt} {σ : St} (h : RepS K H ps σ) : RepS K H' ps σ :=
  ⟨h.1, fun i p e => let ⟨v, a, b⟩ := h.2 i p e; ⟨v, a, b.tk t⟩⟩
theorem RepS.set {K : Fg} {H : Hp} {ps : PSt} {σ : St} (h : RepS K H ps σ) {p : PV} {v : V} (r : Rep K H p v) (i : Nat) : RepS K H (ps.set i (some p)) (σ.set i (some v)) := by
  refine ⟨by simp [h.1], fun j q e => ?_⟩
  by_cases hj : j = i
  · subst hj
    have hl : j < ps.length := by
      have := (List.getElem?_eq_some_iff.mp e).1
      simpa using this
    rw [List.getElem?_set_self hl] at e
    cases e
    exact ⟨v, List.getElem?_set_self (by rw [← h.1]; exact hl), r⟩
  · rw [List.getElem?_set_ne (Ne.symm hj)] at e
    obtain ⟨u, a, b⟩ := h.2 j q e
    exact ⟨u, by rw [List.getElem?_set_ne (Ne.symm hj)]; exact a, b⟩
theorem RepS.setN {K : Fg} {H : Hp} {ps : PSt} {σ : St} (h : RepS K H ps σ) (i : Nat) : RepS K H (ps.set i none) (σ.set i none) := by
  refine ⟨by simp [h.1], fun j q e => ?_⟩
  by_cases hj : j = i
  · subst hj
    have hl : j < ps.length := by
      have := (List.getElem?_eq_some_iff.mp e).1
      simpa using this
    rw [List.getElem?_set_self hl] at e
    cases e
  · rw [List.getElem?_set_ne (Ne.symm hj)] at e
    obtain ⟨u, a, b⟩ := h.2 j q e
    exact ⟨u, by rw [List.getElem?_set_ne (Ne.symm hj)]; exact a, b⟩
def ExcAt (K : Fg) (H : Hp) (od : Option Addr) (fs : List (Str × PV)) : Prop := (od = none ∧ fs = []) ∨ ∃ d vs, od = some d ∧ H d = some (.xd vs) ∧ RepF K H fs vs

structure Cur (K : Fg) (W : WX) (EP : PX) (ps : PSt) (M : PH) (σ : St) (H : Hp) : Prop where
  rs : RepS K H ps σ
  rh : RepH K H M
  tk : ∀ C od fs ps' σ' M' H', Step M H M' H' → RepS K H' ps' σ' → RepH K H' M' → ExcAt K H' od fs → EP C fs ps' M' → W C od σ' H'
section
variable {K : Fg} {W : WX} {EP : PX} {ps : PSt} {M M1 M2 : PH} {σ : St} {H H1 H2 : Hp}
theorem Cur.step (c : Cur K W EP ps M σ H) (S : Step M H M1 H1) (rh : RepH K H1 M1) : Cur K W EP ps M1 σ H1 :=
  ⟨c.rs.tk (S.tk c.rh), rh, fun C od fs ps' σ' M' H' S' r1 r2 r3 q => c.tk C od fs ps' σ' M' H' (S.trans S') r1 r2 r3 q⟩
/-- the wish of the hand layer seen from here -/
def Dn (K : Fg) (M : PH) (H : Hp) (Q : VK) : QE := fun p M' => ∀ v H', Step M H M' H' → RepH K H' M' → Rep K H' p v → Q v H'
def DnT (K : Fg) (M : PH) (H : Hp) (Q : Bool → Hp → Prop) : Bool → PH → Prop := fun b M' => ∀ H', Step M H M' H' → RepH K H' M' → Q b H'
def DnA (K : Fg) (M : PH) (H : Hp) (Q : List V → Hp → Prop) : List PV → PH → Prop := fun p M' => ∀ v H', Step M H M' H' → RepH K H' M' → Reps K H' p v → Q v H'
theorem Dn.on {Q : VK} {p : PV} {M' : PH} (S : Step M H M1 H1) (h : Dn K M H Q p M') : Dn K M1 H1 Q p M' := fun v H' S' r q => h v H' (S.trans S') r q
theorem DnT.on {Q : Bool → Hp → Prop} {p : Bool} {M' : PH} (S : Step M H M1 H1) (h : DnT K M H Q p M') : DnT K M1 H1 Q p M' := fun H' S' r => h H' (S.trans S') r
theorem DnA.on {Q : List V → Hp → Prop} {p : List PV} {M' : PH} (S : Step M H M1 H1) (h : DnA K M H Q p M') : DnA K M1 H1 Q p M' := fun v H' S' r q => h v H' (S.trans S') r q
def dn (K : Fg) (M : PH) (H : Hp) (D : Ends) : PEnds where
  nx := fun ps' M' => ∀ σ' H', Step M H M' H' → RepH K H' M' → RepS K H' ps' σ' → D.nx σ' H'
  rt := Dn K M H D.rt
  bk := fun ps' M' => ∀ σ' H', Step M H M' H' → RepH K H' M' → RepS K H' ps' σ' → D.bk σ' H'
  ct := fun ps' M' => ∀ σ' H', Step M H M' H' → RepH K H' M' → RepS K H' ps' σ' → D.ct σ' H'
structure PEnds.Le (D D' : PEnds) : Prop where
  nx : ∀ s M, D.nx s M → D'.nx s M
  rt : ∀ p M, D.rt p M → D'.rt p M
  bk : ∀ s M, D.bk s M → D'.bk s M
  ct : ∀ s M, D.ct s M → D'.ct s M
theorem PEnds.Le.refl (D : PEnds) : D.Le D := ⟨fun _ _ h => h, fun _ _ h => h, fun _ _ h => h, fun _ _ h => h⟩
theorem dn_on {D : Ends} (S : Step M H M1 H1) : (dn K M H D).Le (dn K M1 H1 D) :=
  ⟨fun _ _ h σ' H' S' r q => h σ' H' (S.trans S') r q, fun _ _ h => h.on S, fun _ _ h σ' H' S' r q => h σ' H' (S.trans S') r q, fun _ _ h σ' H' S' r q => h σ' H' (S.trans S') r q⟩
end
def MonoE (w : WE) : Prop := ∀ EP s M Q Q', (∀ p M', Q p M' → Q' p M') → w EP s M Q → w EP s M Q'
def MonoT (w : WT) : Prop := ∀ EP s M Q Q', (∀ p M', Q p M' → Q' p M') → w EP s M Q → w EP s M Q'
def MonoA (w : WA) : Prop := ∀ EP s M Q Q', (∀ p M', Q p M' → Q' p M') → w EP s M Q → w EP s M Q'
def MonoS (w : WS) : Prop := ∀ EP D D' s M, D.Le D' → w EP D s M → w EP D' s M
def up (K : Fg) (W : WX) (w : WE) : TE := fun σ H Q => ∃ EP s M, Cur K W EP s M σ H ∧ w EP s M (Dn K M H Q)
def upT (K : Fg) (W : WX) (w : WT) : TT := fun σ H Q => ∃ EP s M, Cur K W EP s M σ H ∧ w EP s M (DnT K M H Q)
def upA (K : Fg) (W : WX) (w : WA) : TA := fun σ H Q => ∃ EP s M, Cur K W EP s M σ H ∧ w EP s M (DnA K M H Q)
def upS (K : Fg) (W : WX) (w : WS) : TS := fun D σ H => ∃ EP s M, Cur K W EP s M σ H ∧ w EP (dn K M H D) s M
section
variable {K : Fg} {W : WX} {EP : PX} {s : PSt} {M : PH} {σ : St} {H : Hp}
theorem Cur.use {w : WE} (c : Cur K W EP s M σ H) (hm : MonoE w) {R : QE} (h : w EP s M R) {Q : VK} (k : ∀ p M1 v H1, R p M1 → Step M H M1 H1 → Cur K W EP s M1 σ H1 → Rep K H1 p v → Q v H1) : up K W w σ H Q :=
  ⟨EP, s, M, c, hm _ _ _ _ _ (fun p M1 r v H1 S rh q => k p M1 v H1 r S (c.step S rh) q) h⟩
theorem Cur.useT {w : WT} (c : Cur K W EP s M σ H) (hm : MonoT w) {R : Bool → PH → Prop} (h : w EP s M R) {Q : Bool → Hp → Prop} (k : ∀ p M1 H1, R p M1 → Step M H M1 H1 → Cur K W EP s M1 σ H1 → Q p H1) : upT K W w σ H Q :=
  ⟨EP, s, M, c, hm _ _ _ _ _ (fun p M1 r H1 S rh => k p M1 H1 r S (c.step S rh)) h⟩
theorem Cur.useA {w : WA} (c : Cur K W EP s M σ H) (hm : MonoA w) {R : List PV → PH → Prop} (h : w EP s M R) {Q : List V → Hp → Prop} (k : ∀ p M1 v H1, R p M1 → Step M H M1 H1 → Cur K W EP s M1 σ H1 → Reps K H1 p v → Q v H1) : upA K W w σ H Q :=
  ⟨EP, s, M, c, hm _ _ _ _ _ (fun p M1 r v H1 S rh q => k p M1 v H1 r S (c.step S rh) q) h⟩
theorem Cur.useS {w : WS} (c : Cur K W EP s M σ H) (hm : MonoS w) {D' : PEnds} {D : Ends} (h : w EP D' s M) (k : D'.Le (dn K M H D)) : upS K W w D σ H :=
  ⟨EP, s, M, c, hm _ _ _ _ _ k h⟩
end
/-! ## judgements -/
structure EE (X : Cx) (W : WX) (e : Expr) (w : WE) : Prop where
  mono : MonoE w
  run : PE X e (up X.K W w)
structure ET (X : Cx) (W : WX) (e : Expr) (w : WT) : Prop where
  mono : MonoT w
  run : PT X e (upT X.K W w)
structure EW (X : Cx) (W : WX) (e : Expr) (w : WT) : Prop where
  mono : MonoT w
  run : PW X e (upT X.K W w)
structure EA (X : Cx) (W : WX) (es : List Expr) (w : WA) : Prop where
  mono : MonoA w
  run : PA X es (upA X.K W w)
structure ES (X : Cx) (W : WX) (st : Stmt) (w : WS) : Prop where
  mono : MonoS w
  run : PS X st (upS X.K W w)
structure EB (X : Cx) (W : WX) (st : List Stmt) (w : WS) : Prop where
  mono : MonoS w
  run : PSs X st (upS X.K W w)
theorem pe_weak {X : Cx} {e : Expr} {t t' : TE} (h : PE X e t) (k : ∀ σ H Q, t' σ H Q → t σ H Q) : PE X e t' := ⟨fun pins s σ H Q I q => h.run pins s σ H Q I (k _ _ _ q)⟩
theorem pt_weak {X : Cx} {e : Expr} {t t' : TT} (h : PT X e t) (k : ∀ σ H Q, t' σ H Q → t σ H Q) : PT X e t' := ⟨fun pins s σ H Q I q => h.run pins s σ H Q I (k _ _ _ q)⟩
theorem pw_weak {X : Cx} {e : Expr} {t t' : TT} (h : PW X e t) (k : ∀ σ H Q, t' σ H Q → t σ H Q) : PW X e t' := ⟨fun wh pins s σ H Q I q => h.run wh pins s σ H Q I (k _ _ _ q)⟩
theorem pa_weak {X : Cx} {e : List Expr} {t t' : TA} (h : PA X e t) (k : ∀ σ H Q, t' σ H Q → t σ H Q) : PA X e t' := ⟨fun pos pins s σ H Q I q => h.run pos pins s σ H Q I (k _ _ _ q)⟩
theorem ps_weak {X : Cx} {e : Stmt} {t t' : TS} (h : PS X e t) (k : ∀ D σ H, t' D σ H → t D σ H) : PS X e t' := ⟨fun pins s σ H D I q => h.run pins s σ H D I (k _ _ _ q)⟩
theorem pss_weak {X : Cx} {e : List Stmt} {t t' : TS} (h : PSs X e t) (k : ∀ D σ H, t' D σ H → t D σ H) : PSs X e t' := ⟨fun pins s σ H D I q => h.run pins s σ H D I (k _ _ _ q)⟩

/-! ## names, constants -/
def wVar (i : Nat) : WE := fun _ s M Q => match s[i]? with
  | some (some p) => Q p M
  | _ => False
def wC (p : PV) : WE := fun _ _ M Q => Q p M
section
variable {X : Cx} {W : WX} {pos : Pos}
theorem ee_var (i : Nat) {x : Str} (hN : X.N[i]? = some x := by rfl) (hv : Vis X.env.scope x := by first | exact Or.inl rfl | exact Or.inr (Or.inl rfl) | exact Or.inr (Or.inr rfl)) (hd : (x == ("__debug__" : Str)) = false := by decide) (hcd : (x == ("__classdict__" : Str)) = false := by decide) : EE X W (.Name x pos) (wVar i) := by
  refine ⟨fun EP s M Q Q' k h => ?_, pe_weak (pe_var hN hv hd hcd) ?_⟩
  · unfold wVar at h ⊢
    split at h
    · exact k _ _ h
    · exact h
  · rintro σ H Q ⟨EP, s, M, c, h⟩
    unfold wVar at h
    split at h
    · rename_i p e
      obtain ⟨v, a, b⟩ := c.rs.2 i p e
      exact ⟨v, a, h v H (.refl _ _) c.rh b⟩
    · exact h.elim
theorem mono_c {p : PV} : MonoE (wC p) := fun _ _ _ _ _ k h => k _ _ h
theorem ee_c {e : Expr} {p : PV} {v : V} (h : PE X e (tC v)) (r : ∀ H, Rep X.K H p v) : EE X W e (wC p) :=
  ⟨mono_c, pe_weak h fun σ H Q q => by obtain ⟨EP, s, M, c, q⟩ := q; exact q v H (.refl _ _) c.rh (r H)⟩
theorem ee_int {i j} : EE X W (.Constant (.int i) j pos) (wC (.int i)) := ee_c pe_int fun _ => by rw [Rep]
theorem ee_bl {i j} : EE X W (.Constant (.bool i) j pos) (wC (.bl i)) := ee_c pe_bl fun _ => by rw [Rep]
theorem ee_non {j} : EE X W (.Constant .none j pos) (wC .non) := ee_c pe_non fun _ => by rw [Rep]
theorem ee_str {i j} : EE X W (.Constant (.str i) j pos) (wC (.str i)) := ee_c pe_str fun _ => by rw [Rep]
theorem ee_glob {x : Str} {p : PV} {v : V} {u : Value} (hm : X.mg x = some u) (r : RelV v u) (rp : ∀ H, Rep X.K H p v) (hg : Gl X x := by rfl) (hd : (x == ("__debug__" : Str)) = false := by decide) : EE X W (.Name x pos) (wC p) := ee_c (pe_glob hg hm r hd) rp
theorem ee_blt {x : Str} {p : PV} {v : V} {u : Value} (hm : X.mg x = none) (hv : bootBuiltins x = some u) (r : RelV v u) (rp : ∀ H, Rep X.K H p v) (hg : Gl X x := by rfl) (hn : x ≠ "__name__" := by decide) (hd : (x == ("__debug__" : Str)) = false := by decide) : EE X W (.Name x pos) (wC p) := ee_c (pe_bltn hg hm hv r hn hd) rp
end

/-! ## argument lists, tuples, lists -/
def wNil : WA := fun _ _ M Q => Q [] M
def wCons (a : WE) (r : WA) : WA := fun EP s M Q => a EP s M fun x M1 => r EP s M1 fun xs M2 => Q (x :: xs) M2
def wTup (a : WA) : WE := fun EP s M Q => a EP s M fun xs M1 => xs.length ≤ sizeLine ∧ Q (.tup xs) M1
/-- an expression that makes a list which nobody else holds -/
abbrev WL := WA
def wNew (l : WL) : WE := fun EP s M Q => l EP s M fun xs M1 => ∀ D, ¬ Wr M D → ¬ Wr M1 D → Q (.ref D) (pupd M1 D (.lst xs))
def wDisp (a : WA) : WL := fun EP s M Q => a EP s M fun xs M1 => xs.length ≤ sizeLine ∧ Q xs M1
def DnL (K : Fg) (M : PH) (H : Hp) (Q : VK) : List PV → PH → Prop := fun xs M' => ∀ D vs H', Step M H M' H' → RepH K H' M' → H D = none → ¬ Wr M' D → H' D = some (.lst vs) → Reps K H' xs vs → xs.length ≤ sizeLine → Q (.ref D) H'
def upL (K : Fg) (W : WX) (w : WL) : TE := fun σ H Q => ∃ EP s M, Cur K W EP s M σ H ∧ w EP s M (DnL K M H Q)
structure EL (X : Cx) (W : WX) (e : Expr) (w : WL) : Prop where
  mono : MonoA w
  run : PE X e (upL X.K W w)
section
variable {X : Cx} {W : WX} {pos : Pos} {e : Expr} {es : List Expr} {w : WE} {t : WA}
theorem ea_nil : EA X W [] wNil := ⟨fun _ _ _ _ _ k h => k _ _ h, pa_weak pa_nil fun σ H Q ⟨EP, s, M, c, q⟩ => q [] H (.refl _ _) c.rh .nil⟩
theorem ea_cons (ha : EE X W e w) (hr : EA X W es t) (hs : starEach (e :: es) X.env = (false, eval e X.env) :: starEach es X.env := by rfl) : EA X W (e :: es) (wCons w t) := by
  refine ⟨fun EP s M Q Q' k h => ha.mono _ _ _ _ _ (fun p M1 h1 => hr.mono _ _ _ _ _ (fun ps M2 h2 => k _ _ h2) h1) h, pa_weak (pa_cons ha.run hr.run hs) ?_⟩
  rintro σ H Q ⟨EP, s, M, c, h⟩
  refine c.use ha.mono h fun p M1 v H1 h1 S1 c1 r1 => ?_
  refine c1.useA hr.mono h1 fun ps M2 vs H2 h2 S2 c2 r2 => ?_
  exact h2 (v :: vs) H2 (S1.trans S2) c2.rh (.cons (r1.tk (S2.tk c1.rh)) r2)
theorem ee_tup {x1} (h : EA X W es t) : EE X W (.Tuple es x1 pos) (wTup t) := by
  refine ⟨fun EP s M Q Q' k q => h.mono _ _ _ _ _ (fun ps M1 h1 => ⟨h1.1, k _ _ h1.2⟩) q, pe_weak (pe_tup h.run) ?_⟩
  rintro σ H Q ⟨EP, s, M, c, q⟩
  refine c.useA h.mono q fun ps M1 vs H1 h1 S1 c1 r1 => ⟨by rw [← r1.length]; exact h1.1, fun p hp => ?_⟩
  have t1 : TKeep H1 (upd H1 p (.tup vs)) := tk_new hp
  refine h1.2 (.ref p) _ (S1.trans (Step.hidden hp)) (c1.rh.upd_free hp) ?_
  rw [Rep]
  exact ⟨p, vs, rfl, SqT.of upd_same, r1.tk t1⟩
theorem el_disp (h : EA X W es t) : EL X W (.List es pos) (wDisp t) := by
  refine ⟨fun EP s M Q Q' k q => h.mono _ _ _ _ _ (fun ps M1 h1 => ⟨h1.1, k _ _ h1.2⟩) q, pe_weak (pe_lst h.run) ?_⟩
  rintro σ H Q ⟨EP, s, M, c, q⟩
  refine c.useA h.mono q fun ps M1 vs H1 h1 S1 c1 r1 => ⟨by rw [← r1.length]; exact h1.1, fun p hp => ?_⟩
  have t1 : TKeep H1 (upd H1 p (.lst vs)) := tk_new hp
  exact h1.2 p vs _ (S1.trans (Step.hidden hp)) (c1.rh.upd_free hp) (S1.free hp) (c1.rh.free hp) upd_same (r1.tk t1) h1.1
end
end PL
set_option autoImplicit true
namespace PL
open PySem PySem.Spec L2
open PyProof.Rows hiding St

section
variable {K : Fg} {W : WX} {EP : PX} {s : PSt} {M M1 : PH} {σ : St} {H H1 : Hp}
theorem DnL.on {Q : VK} {xs : List PV} {M' : PH} (S : Step M H M1 H1) (h : DnL K M H Q xs M') : DnL K M1 H1 Q xs M' := fun D vs H' S' r n w e q z => h D vs H' (S.trans S') r (S.free n) w e q z
theorem Cur.useL {w : WL} (c : Cur K W EP s M σ H) (hm : MonoA w) {R : List PV → PH → Prop} (h : w EP s M R) {Q : VK}
    (k : ∀ xs M1 D vs H1, R xs M1 → Step M H M1 H1 → Cur K W EP s M1 σ H1 → H D = none → ¬ Wr M1 D → H1 D = some (.lst vs) → Reps K H1 xs vs → xs.length ≤ sizeLine → Q (.ref D) H1) : upL K W w σ H Q :=
  ⟨EP, s, M, c, hm _ _ _ _ _ (fun xs M1 r D vs H1 S rh n w e q z => k xs M1 D vs H1 r S (c.step S rh) n w e q z) h⟩
end
/-! ## operators -/
abbrev PR2 := PV → PV → PH → QE → Prop
def Mono2 (r : PR2) : Prop := ∀ x y M Q Q', (∀ p M', Q p M' → Q' p M') → r x y M Q → r x y M Q'
def Lift2 (K : Fg) (r : PR2) (r0 : R2) : Prop := ∀ {M : PH} {H : Hp} {x y : PV} {v u : V} {Q : VK}, RepH K H M → Rep K H x v → Rep K H y u → r x y M (Dn K M H Q) → r0 v u H Q
def wOp (r : PR2) (a b : WE) : WE := fun EP s M Q => a EP s M fun x M1 => b EP s M1 fun y M2 => r x y M2 Q
theorem mono_op {r : PR2} {a b : WE} (hr : Mono2 r) (ha : MonoE a) (hb : MonoE b) : MonoE (wOp r a b) := fun EP s M Q Q' k h =>
  ha _ _ _ _ _ (fun x M1 h1 => hb _ _ _ _ _ (fun y M2 h2 => hr _ _ _ _ _ k h2) h1) h
theorem up_op {X : Cx} {W : WX} {r : PR2} {r0 : R2} {a b : WE} (hr : Mono2 r) (hl : Lift2 X.K r r0) (ha : MonoE a) (hb : MonoE b) : ∀ σ H Q, up X.K W (wOp r a b) σ H Q → tOp r0 (up X.K W a) (up X.K W b) σ H Q := by
  rintro σ H Q ⟨EP, s, M, c, h⟩
  refine c.use ha h fun x M1 v H1 h1 S1 c1 rx => ?_
  refine c1.use hb h1 fun y M2 u H2 h2 S2 c2 ry => ?_
  exact hl c2.rh (rx.tk (S2.tk c1.rh)) ry (hr _ _ _ _ _ (fun p M' q => q.on (S1.trans S2)) h2)
section
variable {X : Cx} {W : WX} {a b : Expr} {wa wb : WE} {pos : Pos} {r : PR2} {r0 : R2}
theorem ee_op {op : Operator} (ho : OpR X (binaryOp op) r0) (hl : Lift2 X.K r r0) (hr : Mono2 r) (ha : EE X W a wa) (hb : EE X W b wb) : EE X W (.BinOp a op b pos) (wOp r wa wb) :=
  ⟨mono_op hr ha.mono hb.mono, pe_weak (pe_op ho ha.run hb.run) (up_op hr hl ha.mono hb.mono)⟩
theorem ee_cmp {op : CmpOp} (ho : OpR X (compareOp op) r0) (hl : Lift2 X.K r r0) (hr : Mono2 r) (ha : EE X W a wa) (hb : EE X W b wb) (hm : behindInMarks op b = false) : EE X W (.Compare a [op] [b] pos) (wOp r wa wb) :=
  ⟨mono_op hr ha.mono hb.mono, pe_weak (pe_cmpR ho ha.run hb.run hm) (up_op hr hl ha.mono hb.mono)⟩
/-- a value as a test -/
def wTest (w : WE) : WT := fun EP s M Q => w EP s M fun p M1 => match p with
  | .bl k => Q k M1
  | _ => False
theorem mono_test {w : WE} (h : MonoE w) : MonoT (wTest w) := fun EP s M Q Q' k q => h _ _ _ _ _ (fun p M1 z => by
  cases p with
  | bl b => exact k _ _ z
  | _ => exact z) q
theorem up_test {K : Fg} {W : WX} {w : WE} (h : MonoE w) : ∀ σ H Q, upT K W (wTest w) σ H Q → up K W w σ H fun x H' => ∃ k, x = .bl k ∧ Q k H' := by
  rintro σ H Q ⟨EP, s, M, c, q⟩
  refine c.use h q fun p M1 v H1 h1 S1 c1 r1 => ?_
  cases p with
  | bl b => rw [Rep] at r1; exact ⟨b, r1, h1 H1 S1 c1.rh⟩
  | _ => exact h1.elim
theorem et_cmp {op : CmpOp} (ho : OpR X (compareOp op) r0) (hl : Lift2 X.K r r0) (hr : Mono2 r) (ha : EE X W a wa) (hb : EE X W b wb) (hm : behindInMarks op b = false) : ET X W (.Compare a [op] [b] pos) (wTest (wOp r wa wb)) := by
  have hm2 := mono_op hr ha.mono hb.mono
  refine ⟨mono_test hm2, pt_weak (pt_cmpR ho ha.run hb.run hm) fun σ H Q h => ?_⟩
  exact up_op (W := W) hr hl ha.mono hb.mono σ H _ (up_test hm2 σ H Q h)
/-- a op1 b op2 c -/
def wChain (r r' : PR2) (a b c : WE) : WE := fun EP s M Q => a EP s M fun x M1 => b EP s M1 fun y M2 => r x y M2 fun z M3 => match z with
  | .bl k => if k = true then c EP s M3 fun u M4 => r' y u M4 Q else Q (.bl false) M3
  | _ => False
variable {c : Expr} {wc : WE} {r' : PR2} {r0' : R2}
theorem mono_chain (hr : Mono2 r) (hr' : Mono2 r') (ha : MonoE wa) (hb : MonoE wb) (hc : MonoE wc) : MonoE (wChain r r' wa wb wc) := fun EP s M Q Q' k h =>
  ha _ _ _ _ _ (fun x M1 h1 => hb _ _ _ _ _ (fun y M2 h2 => hr _ _ _ _ _ (fun z M3 h3 => by
    cases z with
    | bl b =>
      cases b with
      | true => exact hc _ _ _ _ _ (fun u M4 h4 => hr' _ _ _ _ _ k h4) h3
      | false => exact k _ _ h3
    | _ => exact h3) h2) h1) h
theorem up_chain (hr : Mono2 r) (hl : Lift2 X.K r r0) (hr' : Mono2 r') (hl' : Lift2 X.K r' r0') (ha : MonoE wa) (hb : MonoE wb) (hc : MonoE wc) :
    ∀ σ H Q, up X.K W (wChain r r' wa wb wc) σ H Q → tChain r0 r0' (up X.K W wa) (up X.K W wb) (up X.K W wc) σ H Q := by
  rintro σ H Q ⟨EP, s, M, cu, h⟩
  refine cu.use ha h fun x M1 v H1 h1 S1 c1 rx => ?_
  refine c1.use hb h1 fun y M2 u H2 h2 S2 c2 ry => ?_
  refine hl c2.rh (rx.tk (S2.tk c1.rh)) ry (hr _ _ _ _ _ (fun z M3 h3 => ?_) h2)
  intro zv H3 S3 rh3 rz
  cases z with
  | bl b =>
    rw [Rep] at rz
    refine ⟨b, rz, ?_⟩
    have c3 := c2.step S3 rh3
    cases b with
    | true =>
      refine c3.use hc h3 fun z2 M4 v4 H4 h4 S4 c4 r4 => ?_
      exact hl' c4.rh ((ry.tk (S3.tk c2.rh)).tk (S4.tk c3.rh)) r4 (hr' _ _ _ _ _ (fun p M' q => q.on (((S1.trans S2).trans S3).trans S4)) h4)
    | false => exact h3 _ _ ((S1.trans S2).trans S3) rh3 (by rw [Rep])
  | _ => exact h3.elim
theorem ee_chain {op op' : CmpOp} (ho : OpR X (compareOp op) r0) (hl : Lift2 X.K r r0) (hr : Mono2 r) (ho' : OpR X (compareOp op') r0') (hl' : Lift2 X.K r' r0') (hr' : Mono2 r') (ha : EE X W a wa) (hb : EE X W b wb) (hc : EE X W c wc)
    (hm : lastMarks [op, op'] [b, c] = false := by with_unfolding_all rfl) : EE X W (.Compare a [op, op'] [b, c] pos) (wChain r r' wa wb wc) :=
  ⟨mono_chain hr hr' ha.mono hb.mono hc.mono, pe_weak (pe_chain ho ho' ha.run hb.run hc.run hm) (up_chain hr hl hr' hl' ha.mono hb.mono hc.mono)⟩
theorem et_chain {op op' : CmpOp} (ho : OpR X (compareOp op) r0) (hl : Lift2 X.K r r0) (hr : Mono2 r) (ho' : OpR X (compareOp op') r0') (hl' : Lift2 X.K r' r0') (hr' : Mono2 r') (ha : EE X W a wa) (hb : EE X W b wb) (hc : EE X W c wc)
    (hm : lastMarks [op, op'] [b, c] = false := by with_unfolding_all rfl) : ET X W (.Compare a [op, op'] [b, c] pos) (wTest (wChain r r' wa wb wc)) := by
  have hm2 := mono_chain hr hr' ha.mono hb.mono hc.mono
  refine ⟨mono_test hm2, pt_weak (pt_chain ho ho' ha.run hb.run hc.run hm) fun σ H Q h => ?_⟩
  exact up_chain (W := W) hr hl hr' hl' ha.mono hb.mono hc.mono σ H _ (up_test hm2 σ H Q h)
end
/-! ## truth -/
/-- a value's truth -/
def truV (p : PV) (M : PH) (Q : Bool → PH → Prop) : Prop := match p with
  | .non => Q false M
  | .bl b => Q b M
  | .int i => Q (i != 0) M
  | .str y => y.length ≤ sizeLine ∧ Q ((y.length : Int) != 0) M
  | .tup xs => Q (!xs.isEmpty) M
  | .ref a => match M a with
    | some (.lst xs) => Q (!xs.isEmpty) M
    | some (.dK kvs) => Q (!kvs.isEmpty) M
    | _ => False
  | _ => False
def wTru (w : WE) : WT := fun EP s M Q => w EP s M fun p M1 => truV p M1 Q
theorem truV_mono {p : PV} {M : PH} {Q Q' : Bool → PH → Prop} (k : ∀ p M', Q p M' → Q' p M') (h : truV p M Q) : truV p M Q' := by
  unfold truV at h ⊢
  split at h
  all_goals first | exact k _ _ h | exact ⟨h.1, k _ _ h.2⟩ | exact h | skip
  split at h
  all_goals first | exact k _ _ h | exact h
theorem truV_lift {K : Fg} {M : PH} {H : Hp} {p : PV} {v : V} {Q : Bool → Hp → Prop} (rh : RepH K H M) (r : Rep K H p v) (h : truV p M fun b M' => M' = M → Q b H) : ∃ k, TruV K v H k ∧ Q k H := by
  cases p with
  | non => rw [Rep] at r; subst r; exact ⟨_, rfl, h rfl⟩
  | bl b => rw [Rep] at r; subst r; exact ⟨_, rfl, h rfl⟩
  | int i => rw [Rep] at r; subst r; exact ⟨_, rfl, h rfl⟩
  | str y => rw [Rep] at r; subst r; exact ⟨_, ⟨h.1, rfl⟩, h.2 rfl⟩
  | ty n => exact h.elim
  | bx k xs => exact h.elim
  | tup xs =>
    rw [Rep] at r
    obtain ⟨a, vs, rfl, hs, rs⟩ := r
    exact ⟨_, .inr (.inl ⟨vs, hs, rfl⟩), by rw [← rs.isEmpty]; exact h rfl⟩
  | ref a =>
    rw [Rep] at r; subst r
    unfold truV at h
    dsimp only at h
    split at h
    · rename_i xs e
      obtain ⟨vs, hv, rs⟩ := rh a _ e
      exact ⟨_, .inl ⟨vs, SqL.of hv, rfl⟩, by rw [← rs.isEmpty]; exact h rfl⟩
    · rename_i kvs e
      obtain ⟨vs, hv, rs⟩ := rh a _ e
      refine ⟨_, .inr (.inr ⟨vs, hv, rfl⟩), ?_⟩
      have : vs.isEmpty = kvs.isEmpty := by
        have e := congrArg List.length rs.1
        simp only [List.length_map] at e
        cases vs <;> cases kvs <;> simp_all
      rw [this]; exact h rfl
    · exact h.elim
section
variable {X : Cx} {W : WX} {a b : Expr} {wa wb : WE} {ta tb : WT} {pos : Pos} {rest : List Expr}
theorem mono_tru (h : MonoE wa) : MonoT (wTru wa) := fun EP s M Q Q' k q => h _ _ _ _ _ (fun p M1 z => truV_mono k z) q
theorem truV_at {p : PV} {M : PH} {Q : Bool → PH → Prop} (h : truV p M Q) : truV p M fun b M' => M' = M ∧ Q b M' := by
  unfold truV at h ⊢
  split at h
  all_goals first | exact ⟨rfl, h⟩ | exact ⟨h.1, rfl, h.2⟩ | exact h | skip
  split at h
  all_goals first | exact ⟨rfl, h⟩ | exact h
/-- an expression of any kind as a test -/
theorem et_tru (ha : EE X W a wa) (he : ∀ whole, isTrue a X.env whole = (do let v ← whole; standAt a.pos; holding [v] (truthy v)) := by intro _; rfl) : ET X W a (wTru wa) := by
  refine ⟨mono_tru ha.mono, pt_weak (pt_truth ha.run he) ?_⟩
  rintro σ H Q ⟨EP, s, M, c, h⟩
  refine c.use ha.mono h fun p M1 v H1 h1 S1 c1 r1 => ?_
  exact truV_lift c1.rh r1 (truV_mono (fun b M' q e => by obtain ⟨e1, q⟩ := q; subst e1; exact q H1 S1 c1.rh) (truV_at h1))
/-- and, or, not as tests -/
def wAndT (t u : WT) : WT := fun EP s M Q => t EP s M fun c M1 => if c = true then u EP s M1 Q else Q false M1
def wOrT (t u : WT) : WT := fun EP s M Q => t EP s M fun c M1 => if c = true then Q true M1 else u EP s M1 Q
def wNotT (t : WT) : WT := fun EP s M Q => t EP s M fun c M1 => Q (!c) M1
theorem ew_and1 (ha : ET X W a ta) : EW X W (.BoolOp .And [a] pos) ta := ⟨ha.mono, pw_and1 ha.run⟩
theorem ew_or1 (ha : ET X W a ta) : EW X W (.BoolOp .Or [a] pos) ta := ⟨ha.mono, pw_or1 ha.run⟩
theorem ew_and (ha : ET X W a ta) (hb : EW X W (.BoolOp .And (b :: rest) pos) tb) : EW X W (.BoolOp .And (a :: b :: rest) pos) (wAndT ta tb) := by
  refine ⟨fun EP s M Q Q' k h => ha.mono _ _ _ _ _ (fun c M1 h1 => ?_) h, pw_weak (pw_and ha.run hb.run) ?_⟩
  · cases c with
    | true => exact hb.mono _ _ _ _ _ k h1
    | false => exact k _ _ h1
  · rintro σ H Q ⟨EP, s, M, c, h⟩
    refine c.useT ha.mono h fun d M1 H1 h1 S1 c1 => ?_
    cases d with
    | true => exact c1.useT hb.mono h1 fun e M2 H2 h2 S2 c2 => h2 H2 (S1.trans S2) c2.rh
    | false => exact h1 H1 S1 c1.rh
theorem ew_or (ha : ET X W a ta) (hb : EW X W (.BoolOp .Or (b :: rest) pos) tb) : EW X W (.BoolOp .Or (a :: b :: rest) pos) (wOrT ta tb) := by
  refine ⟨fun EP s M Q Q' k h => ha.mono _ _ _ _ _ (fun c M1 h1 => ?_) h, pw_weak (pw_or ha.run hb.run) ?_⟩
  · cases c with
    | false => exact hb.mono _ _ _ _ _ k h1
    | true => exact k _ _ h1
  · rintro σ H Q ⟨EP, s, M, c, h⟩
    refine c.useT ha.mono h fun d M1 H1 h1 S1 c1 => ?_
    cases d with
    | false => exact c1.useT hb.mono h1 fun e M2 H2 h2 S2 c2 => h2 H2 (S1.trans S2) c2.rh
    | true => exact h1 H1 S1 c1.rh
theorem et_w (h : EW X W a ta) : ET X W a ta := ⟨h.mono, h.run.pt⟩
theorem et_not (ha : ET X W a ta) : ET X W (.UnaryOp .Not a pos) (wNotT ta) := by
  refine ⟨fun EP s M Q Q' k h => ha.mono _ _ _ _ _ (fun c M1 h1 => k _ _ h1) h, pt_weak (pt_not ha.run) ?_⟩
  rintro σ H Q ⟨EP, s, M, c, h⟩
  exact c.useT ha.mono h fun d M1 H1 h1 S1 c1 => h1 H1 S1 c1.rh
/-- .. as values -/
def wAndV (t u : WE) : WE := fun EP s M Q => t EP s M fun x M1 => match x with
  | .bl c => if c = true then u EP s M1 Q else Q (.bl false) M1
  | _ => False
def wOrV (t u : WE) : WE := fun EP s M Q => t EP s M fun x M1 => match x with
  | .bl c => if c = true then Q (.bl true) M1 else u EP s M1 Q
  | _ => False
def wNotV (t : WE) : WE := fun EP s M Q => t EP s M fun x M1 => match x with
  | .bl c => Q (.bl (!c)) M1
  | _ => False
theorem ee_one {op} (ha : EE X W a wa) : EE X W (.BoolOp op [a] pos) wa := ⟨ha.mono, pe_one ha.run⟩
theorem ee_and (ha : EE X W a wa) (hb : EE X W (.BoolOp .And (b :: rest) pos) wb) : EE X W (.BoolOp .And (a :: b :: rest) pos) (wAndV wa wb) := by
  refine ⟨fun EP s M Q Q' k h => ha.mono _ _ _ _ _ (fun x M1 h1 => ?_) h, pe_weak (pe_and ha.run hb.run) ?_⟩
  · cases x with
    | bl c =>
      cases c with
      | true => exact hb.mono _ _ _ _ _ k h1
      | false => exact k _ _ h1
    | _ => exact h1
  · rintro σ H Q ⟨EP, s, M, c, h⟩
    refine c.use ha.mono h fun x M1 v H1 h1 S1 c1 r1 => ?_
    cases x with
    | bl d =>
      rw [Rep] at r1
      refine ⟨d, r1, ?_⟩
      cases d with
      | true => exact c1.use hb.mono h1 fun p M2 u H2 h2 S2 c2 r2 => h2 u H2 (S1.trans S2) c2.rh r2
      | false => exact h1 _ H1 S1 c1.rh (by rw [Rep])
    | _ => exact h1.elim
theorem ee_or (ha : EE X W a wa) (hb : EE X W (.BoolOp .Or (b :: rest) pos) wb) : EE X W (.BoolOp .Or (a :: b :: rest) pos) (wOrV wa wb) := by
  refine ⟨fun EP s M Q Q' k h => ha.mono _ _ _ _ _ (fun x M1 h1 => ?_) h, pe_weak (pe_or ha.run hb.run) ?_⟩
  · cases x with
    | bl c =>
      cases c with
      | false => exact hb.mono _ _ _ _ _ k h1
      | true => exact k _ _ h1
    | _ => exact h1
  · rintro σ H Q ⟨EP, s, M, c, h⟩
    refine c.use ha.mono h fun x M1 v H1 h1 S1 c1 r1 => ?_
    cases x with
    | bl d =>
      rw [Rep] at r1
      refine ⟨d, r1, ?_⟩
      cases d with
      | false => exact c1.use hb.mono h1 fun p M2 u H2 h2 S2 c2 r2 => h2 u H2 (S1.trans S2) c2.rh r2
      | true => exact h1 _ H1 S1 c1.rh (by rw [Rep])
    | _ => exact h1.elim
theorem ee_not (ha : EE X W a wa) : EE X W (.UnaryOp .Not a pos) (wNotV wa) := by
  refine ⟨fun EP s M Q Q' k h => ha.mono _ _ _ _ _ (fun x M1 h1 => ?_) h, pe_weak (pe_not ha.run) ?_⟩
  · cases x with
    | bl c => exact k _ _ h1
    | _ => exact h1
  · rintro σ H Q ⟨EP, s, M, c, h⟩
    refine c.use ha.mono h fun x M1 v H1 h1 S1 c1 r1 => ?_
    cases x with
    | bl d => rw [Rep] at r1; exact ⟨d, r1, h1 _ H1 S1 c1.rh (by rw [Rep])⟩
    | _ => exact h1.elim
/-- a if t else b -/
def wIfE (t : WT) (a b : WE) : WE := fun EP s M Q => t EP s M fun c M1 => if c = true then a EP s M1 Q else b EP s M1 Q
theorem ee_if {c : Expr} {tc : WT} (hc : ET X W c tc) (ha : EE X W a wa) (hb : EE X W b wb) : EE X W (.IfExp c a b pos) (wIfE tc wa wb) := by
  refine ⟨fun EP s M Q Q' k h => hc.mono _ _ _ _ _ (fun d M1 h1 => ?_) h, pe_weak (pe_ifExp hc.run ha.run hb.run) ?_⟩
  · cases d with
    | true => exact ha.mono _ _ _ _ _ k h1
    | false => exact hb.mono _ _ _ _ _ k h1
  · rintro σ H Q ⟨EP, s, M, c, h⟩
    refine c.useT hc.mono h fun d M1 H1 h1 S1 c1 => ?_
    cases d with
    | true => exact c1.use ha.mono h1 fun p M2 u H2 h2 S2 c2 r2 => h2 u H2 (S1.trans S2) c2.rh r2
    | false => exact c1.use hb.mono h1 fun p M2 u H2 h2 S2 c2 r2 => h2 u H2 (S1.trans S2) c2.rh r2
end
/-! ## a new list as a value -/
theorem ee_new {X : Cx} {W : WX} {e : Expr} {l : WL} (h : EL X W e l) : EE X W e (wNew l) := by
  refine ⟨fun EP s M Q Q' k q => h.mono _ _ _ _ _ (fun xs M1 z D w w1 => k _ _ (z D w w1)) q, pe_weak h.run ?_⟩
  rintro σ H Q ⟨EP, s, M, c, q⟩
  refine c.useL h.mono q fun xs M1 D vs H1 h1 S1 c1 n w e r z => ?_
  have e1 : upd H1 D (.lst vs) = H1 := by
    funext b
    by_cases hb : b = D
    · subst hb; rw [upd_same, e]
    · rw [upd_ne hb]
  have hn : (∀ xs, H1 D ≠ some (.tup xs)) ∧ ∀ o xs, H1 D ≠ some (.frz o xs) := by
    rw [e]; exact ⟨fun _ z => (by cases z), fun _ _ z => (by cases z)⟩
  have rh : RepH X.K H1 (pupd M1 D (.lst xs)) := by
    have := c1.rh.upd_both (o := .lst vs) (p := .lst xs) hn ⟨vs, upd_same, by rw [e1]; exact r⟩
    rwa [e1] at this
  refine h1 D (c.rh.free n) w (.ref D) H1 ⟨S1.keep, fun b wb nb => ?_, S1.there⟩ rh (by rw [Rep])
  rcases wr_pupd wb with e2 | e2
  · rw [e2]; exact n
  · exact S1.fresh b e2 nb
end PL
set_option autoImplicit true
namespace PL
open PySem PySem.Spec L2
open PyProof.Rows hiding St

/-! ## statements -/
theorem MonoS.app {w : WS} (m : MonoS w) {EP : PX} {D D' : PEnds} {s : PSt} {M : PH} (h : w EP D s M) (k : D.Le D') : w EP D' s M := m _ _ _ _ _ k h
def wNext : WS := fun _ D s M => D.nx s M
def wSeq (t u : WS) : WS := fun EP D s M => t EP { D with nx := u EP D } s M
def wDrop (e : WE) : WS := fun EP D s M => e EP s M fun _ M1 => D.nx s M1
def wRet (e : WE) : WS := fun EP D s M => e EP s M D.rt
def wRetN : WS := fun _ D _ M => D.rt .non M
def wBreak : WS := fun _ D s M => D.bk s M
def wCont : WS := fun _ D s M => D.ct s M
def wIf (c : WT) (t u : WS) : WS := fun EP D s M => c EP s M fun b M1 => if b = true then t EP D s M1 else u EP D s M1
def wSet (i : Nat) (e : WE) : WS := fun EP D s M => e EP s M fun p M1 => D.nx (s.set i (some p)) M1
section
variable {K : Fg} {W : WX} {EP : PX} {s : PSt} {M M1 : PH} {σ : St} {H H1 : Hp} {D : Ends}
theorem PEnds.Le.trans {A B C : PEnds} (a : A.Le B) (b : B.Le C) : A.Le C := ⟨fun _ _ h => b.nx _ _ (a.nx _ _ h), fun _ _ h => b.rt _ _ (a.rt _ _ h), fun _ _ h => b.bk _ _ (a.bk _ _ h), fun _ _ h => b.ct _ _ (a.ct _ _ h)⟩
/-- where the hand layer goes on -/
theorem Cur.at (c : Cur K W EP s M σ H) {s' : PSt} {σ' : St} (r : RepS K H s' σ') : Cur K W EP s' M σ' H := ⟨r, c.rh, c.tk⟩
end
section
variable {X : Cx} {W : WX} {st : Stmt} {rest : List Stmt} {t u : WS} {e : Expr} {we : WE} {pos : Pos}
theorem eb_nil : EB X W [] wNext := ⟨fun _ _ _ _ _ k h => k.nx _ _ h, pss_weak pss_nil fun D σ H h => by
  obtain ⟨EP, s, M, c, h⟩ := h
  exact h σ H (.refl _ _) c.rh c.rs⟩
theorem eb_cons (h1 : ES X W st t) (h2 : EB X W rest u) : EB X W (st :: rest) (wSeq t u) := by
  refine ⟨fun EP D D' s M k h => ?_, pss_weak (pss_cons h1.run h2.run) ?_⟩
  · exact h1.mono.app (w := t) (show t EP { D with nx := u EP D } s M from h) ⟨fun s' M' z => h2.mono.app z k, k.rt, k.bk, k.ct⟩
  · rintro D σ H ⟨EP, s, M, c, h⟩
    refine c.useS h1.mono h ⟨fun s' M' z σ' H' S rh rs => ?_, fun _ _ z => z, fun _ _ z => z, fun _ _ z => z⟩
    exact ⟨EP, s', M', (c.step S rh).at rs, h2.mono _ _ _ _ _ (dn_on S) z⟩
theorem eb_one (h1 : ES X W st t) : EB X W [st] t := ⟨h1.mono, pss_one h1.run⟩
theorem es_pass : ES X W (.Pass pos) wNext := ⟨fun _ _ _ _ _ k h => k.nx _ _ h, ps_weak ps_pass fun D σ H h => by
  obtain ⟨EP, s, M, c, h⟩ := h
  exact h σ H (.refl _ _) c.rh c.rs⟩
theorem es_break : ES X W (.Break pos) wBreak := ⟨fun _ _ _ _ _ k h => k.bk _ _ h, ps_weak ps_break fun D σ H h => by
  obtain ⟨EP, s, M, c, h⟩ := h
  exact h σ H (.refl _ _) c.rh c.rs⟩
theorem es_continue : ES X W (.Continue pos) wCont := ⟨fun _ _ _ _ _ k h => k.ct _ _ h, ps_weak ps_continue fun D σ H h => by
  obtain ⟨EP, s, M, c, h⟩ := h
  exact h σ H (.refl _ _) c.rh c.rs⟩
theorem es_doc {x j pos'} : ES X W (.Expr (.Constant (.str x) j pos) pos') wNext := ⟨fun _ _ _ _ _ k h => k.nx _ _ h, ps_weak ps_doc fun D σ H h => by
  obtain ⟨EP, s, M, c, h⟩ := h
  exact h σ H (.refl _ _) c.rh c.rs⟩
theorem es_expr (he : EE X W e we) (hs : swapsWith e none pos.line X.env = pure false := by rfl) : ES X W (.Expr e pos) (wDrop we) := by
  refine ⟨fun EP D D' s M k h => he.mono _ _ _ _ _ (fun _ _ z => k.nx _ _ z) h, ps_weak (ps_expr he.run hs) ?_⟩
  rintro D σ H ⟨EP, s, M, c, h⟩
  exact c.use he.mono h fun p M1 v H1 h1 S c1 r => h1 σ H1 S c1.rh c1.rs
theorem es_ret (he : EE X W e we) : ES X W (.Return (some e) pos) (wRet we) := by
  refine ⟨fun EP D D' s M k h => he.mono _ _ _ _ _ (fun _ _ z => k.rt _ _ z) h, ps_weak (ps_ret he.run) ?_⟩
  rintro D σ H ⟨EP, s, M, c, h⟩
  exact c.use he.mono h fun p M1 v H1 h1 S c1 r => h1 v H1 S c1.rh r
theorem es_retN : ES X W (.Return none pos) wRetN := ⟨fun _ _ _ _ _ k h => k.rt _ _ h, ps_weak ps_retN fun D σ H h => by
  obtain ⟨EP, s, M, c, h⟩ := h
  exact h .non H (.refl _ _) c.rh (by rw [Rep])⟩
theorem es_if {c : Expr} {a b : List Stmt} {tc : WT} (hc : ET X W c tc) (ha : EB X W a t) (hb : EB X W b u) : ES X W (.If c a b pos) (wIf tc t u) := by
  refine ⟨fun EP D D' s M k h => hc.mono _ _ _ _ _ (fun d M1 z => ?_) h, ps_weak (ps_if hc.run ha.run hb.run) ?_⟩
  · cases d with
    | true => exact ha.mono _ _ _ _ _ k z
    | false => exact hb.mono _ _ _ _ _ k z
  · rintro D σ H ⟨EP, s, M, c, h⟩
    refine c.useT hc.mono h fun d M1 H1 h1 S c1 => ?_
    cases d with
    | true => exact c1.useS ha.mono h1 (dn_on S)
    | false => exact c1.useS hb.mono h1 (dn_on S)
theorem es_set {i : Nat} {x : Str} {pos' : Pos} (hN : X.N.Nodup) (he : EE X W e we) (hi : X.N[i]? = some x := by rfl) (hx : Loc X.env.scope x := by first | exact .inl rfl | exact .inr rfl) (hs : swapsWith e (some (.Name x pos')) pos.line X.env = pure false := by rfl) (hf : X.fn x = true ∨ X.env.scope.names.lookup x = some .local := by first | exact .inl rfl | exact .inr rfl | assumption) :
    ES X W (.Assign [.Name x pos'] e pos) (wSet i we) := by
  refine ⟨fun EP D D' s M k h => he.mono _ _ _ _ _ (fun _ _ z => k.nx _ _ z) h, ps_weak (ps_set hN hi hx he.run hs hf) ?_⟩
  rintro D σ H ⟨EP, s, M, c, h⟩
  exact c.use he.mono h fun p M1 v H1 h1 S c1 r => h1 _ H1 S c1.rh (c1.rs.set r i)
end
/-! ## targets -/
abbrev WG := PV → PSt → PH → (PSt → PH → Prop) → Prop
def MonoG (g : WG) : Prop := ∀ p s M Q Q', (∀ s' M', Q s' M' → Q' s' M') → g p s M Q → g p s M Q'
theorem MonoG.app {g : WG} (m : MonoG g) {p : PV} {s : PSt} {M : PH} {Q Q' : PSt → PH → Prop} (h : g p s M Q) (k : ∀ s' M', Q s' M' → Q' s' M') : g p s M Q' := m _ _ _ _ _ k h
def gNm (i : Nat) : WG := fun p s M Q => Q (s.set i (some p)) M
def gAll : List WG → List PV → PSt → PH → (PSt → PH → Prop) → Prop
  | [], [], s, M, Q => Q s M
  | g :: gs, x :: xs, s, M, Q => g x s M fun s' M' => gAll gs xs s' M' Q
  | _, _, _, _, _ => False
def gTp (gs : List WG) : WG := fun p s M Q => match p with
  | .tup xs => gAll gs xs s M Q
  | _ => False
def DnG (K : Fg) (M : PH) (H : Hp) (Q : St → Hp → Prop) : PSt → PH → Prop := fun s' M' => ∀ σ' H', Step M H M' H' → RepH K H' M' → RepS K H' s' σ' → Q σ' H'
def upG (K : Fg) (g : WG) : TG := fun v σ H Q => ∃ p s M, RepS K H s σ ∧ RepH K H M ∧ Rep K H p v ∧ g p s M (DnG K M H Q)
def upGs (K : Fg) (gs : List WG) : TGs := fun vs σ H Q => ∃ ps s M, RepS K H s σ ∧ RepH K H M ∧ Reps K H ps vs ∧ gAll gs ps s M (DnG K M H Q)
structure EG (X : Cx) (tg : Expr) (g : WG) : Prop where
  mono : MonoG g
  run : PG X tg (upG X.K g)
structure EGs (X : Cx) (ts : List Expr) (gs : List WG) : Prop where
  mono : ∀ ps s M Q Q', (∀ s' M', Q s' M' → Q' s' M') → gAll gs ps s M Q → gAll gs ps s M Q'
  run : PGs X ts (upGs X.K gs)
theorem pg_weak {X : Cx} {e : Expr} {t t' : TG} (h : PG X e t) (k : ∀ v σ H Q, t' v σ H Q → t v σ H Q) : PG X e t' := ⟨fun pins s σ H v u Q I r q => h.run pins s σ H v u Q I r (k _ _ _ _ q)⟩
theorem pgs_weak {X : Cx} {e : List Expr} {t t' : TGs} (h : PGs X e t) (k : ∀ v σ H Q, t' v σ H Q → t v σ H Q) : PGs X e t' := ⟨fun pins s σ H v u Q I r q => h.run pins s σ H v u Q I r (k _ _ _ _ q)⟩
section
variable {X : Cx} {pos : Pos}
theorem eg_name (i : Nat) {x : Str} (hN : X.N.Nodup) (hi : X.N[i]? = some x := by rfl) (hx : Loc X.env.scope x := by first | exact .inl rfl | exact .inr rfl) (hf : X.fn x = true ∨ X.env.scope.names.lookup x = some .local := by first | exact .inl rfl | exact .inr rfl | assumption) : EG X (.Name x pos) (gNm i) := by
  refine ⟨fun p s M Q Q' k h => k _ _ h, pg_weak (pg_name hN hi hx hf) ?_⟩
  rintro v σ H Q ⟨p, s, M, rs, rh, r, h⟩
  exact h _ H (.refl _ _) rh (rs.set r i)
theorem egs_nil : EGs X [] [] := by
  refine ⟨fun ps s M Q Q' k h => ?_, pgs_weak pgs_nil ?_⟩
  · cases ps with
    | nil => exact k _ _ h
    | cons x r => exact h
  · rintro v σ H Q ⟨p, s, M, rs, rh, r, h⟩
    cases p with
    | nil => rw [Reps] at r; exact ⟨r, h _ H (.refl _ _) rh rs⟩
    | cons x t => exact h.elim
theorem egs_cons {e : Expr} {es : List Expr} {g : WG} {gs : List WG} (h1 : EG X e g) (h2 : EGs X es gs)
    (hs : (assignEach (e :: es) X.env).map (·.2) = assign e X.env :: (assignEach es X.env).map (·.2) := by rfl) : EGs X (e :: es) (g :: gs) := by
  refine ⟨fun ps s M Q Q' k h => ?_, pgs_weak (pgs_cons h1.run h2.run hs) ?_⟩
  · cases ps with
    | nil => exact h
    | cons x r => exact h1.mono _ _ _ _ _ (fun s' M' z => h2.mono _ _ _ _ _ k z) h
  · rintro vs σ H Q ⟨ps, s, M, rs, rh, r, h⟩
    cases ps with
    | nil => exact h.elim
    | cons x t =>
      rw [Reps] at r
      obtain ⟨v, vr, rfl, rv, rr⟩ := r
      refine ⟨v, vr, rfl, x, s, M, rs, rh, rv, h1.mono _ _ _ _ _ (fun s' M' z σ' H' S rh' rs' => ?_) h⟩
      exact ⟨t, s', M', rs', rh', rr.tk (S.tk rh), h2.mono _ _ _ _ _ (fun s2 M2 z2 σ2 H2 S2 rh2 rs2 => z2 σ2 H2 (S.trans S2) rh2 rs2) z⟩
theorem gAll_len {gs : List WG} : ∀ {ps : List PV} {s : PSt} {M : PH} {Q : PSt → PH → Prop} (hm : ∀ g ∈ gs, MonoG g), gAll gs ps s M Q → (∃ s' M', Q s' M') ∨ True := fun _ _ => .inr trivial
theorem eg_tup {es : List Expr} {k : Nat} {gs : List WG} (hc : X.calm = true) (h : EGs X es gs) 
    (hn : (assignEach es X.env).length = gs.length := by rfl) (hst : (assignEach es X.env).findIdx? (·.1) = none := by rfl) (hl : ∀ (ps : List PV) s M Q, gAll gs ps s M Q → ps.length = gs.length) : EG X (.Tuple es k pos) (gTp gs) := by
  refine ⟨fun p s M Q Q' k h' => ?_, pg_weak (pg_tup hc h.run hn hst) ?_⟩
  · cases p with
    | tup xs => exact h.mono _ _ _ _ _ k h'
    | _ => exact h'
  · rintro v σ H Q ⟨p, s, M, rs, rh, r, h'⟩
    cases p with
    | tup xs =>
      rw [Rep] at r
      obtain ⟨a, vs, rfl, hs, rr⟩ := r
      exact ⟨a, vs, rfl, hs, by rw [← rr.length]; exact hl _ _ _ _ h', xs, s, M, rs, rh, rr, h'⟩
    | _ => exact h'.elim
theorem gl2 {i j : Nat} : ∀ (ps : List PV) s M Q, gAll [gNm i, gNm j] ps s M Q → ps.length = [gNm i, gNm j].length
  | [_, _], _, _, _, _ => rfl
  | [], _, _, _, h => h.elim
  | [_], _, _, _, h => h.elim
  | _ :: _ :: _ :: _, _, _, _, h => h.elim
theorem gl3 {i j k : Nat} : ∀ (ps : List PV) s M Q, gAll [gNm i, gNm j, gNm k] ps s M Q → ps.length = [gNm i, gNm j, gNm k].length
  | [_, _, _], _, _, _, _ => rfl
  | [], _, _, _, h => h.elim
  | [_], _, _, _, h => h.elim
  | [_, _], _, _, _, h => h.elim
  | _ :: _ :: _ :: _ :: _, _, _, _, h => h.elim
theorem gl4 {i j k l : Nat} : ∀ (ps : List PV) s M Q, gAll [gNm i, gNm j, gNm k, gNm l] ps s M Q → ps.length = [gNm i, gNm j, gNm k, gNm l].length
  | [_, _, _, _], _, _, _, _ => rfl
  | [], _, _, _, h => h.elim
  | [_], _, _, _, h => h.elim
  | [_, _], _, _, _, h => h.elim
  | [_, _, _], _, _, _, h => h.elim
  | _ :: _ :: _ :: _ :: _ :: _, _, _, _, h => h.elim
/-- a, b = e -/
def wAsg (e : WE) (g : WG) : WS := fun EP D s M => e EP s M fun p M1 => g p s M1 D.nx
theorem es_asg {W : WX} {tg e : Expr} {we : WE} {g : WG} (he : EE X W e we) (hg : EG X tg g) (hs : swapsWithSole [tg] e pos.line X.env = pure false := by rfl) (hw : swappedStores [tg] e X.env = pure none := by rfl)
    (h1 : (assignEach [tg] X.env).map (·.2) = [assign tg X.env] := by rfl) : ES X W (.Assign [tg] e pos) (wAsg we g) := by
  refine ⟨fun EP D D' s M k h => he.mono _ _ _ _ _ (fun p M1 z => hg.mono _ _ _ _ _ k.nx z) h, ps_weak (ps_asg he.run hg.run hs hw h1) ?_⟩
  rintro D σ H ⟨EP, s, M, c, h⟩
  refine c.use he.mono h fun p M1 v H1 h1 S c1 r => ?_
  exact ⟨p, s, M1, c1.rs, c1.rh, r, hg.mono _ _ _ _ _ (fun s' M' z σ' H' S' rh' rs' => z σ' H' (S.trans S') rh' rs') h1⟩
end
/-! ## what is walked -/
structure PSrc where
  items : List PV
  ok : PH → Prop := fun _ => True
abbrev WI := PX → PSt → PH → (PSrc → PH → Prop) → Prop
def MonoI (w : WI) : Prop := ∀ EP s M Q Q', (∀ p M', Q p M' → Q' p M') → w EP s M Q → w EP s M Q'
def ItOk (K : Fg) (J : It) (src : PSrc) (M1 : PH) (H1 : Hp) : Prop :=
  ∀ (i : Nat) M H, Step M1 H1 M H → RepH K H M → src.ok M → (∀ p, src.items[i]? = some p → J.go i H ∧ ∀ x H', J.yld i H x H' → Step M H M H' ∧ RepH K H' M ∧ Rep K H' p x) ∧ (i = src.items.length → J.stop i H)
def DnI (K : Fg) (M : PH) (H : Hp) (R : It → Hp → Prop) : PSrc → PH → Prop := fun src M1 => ∀ J H1, Step M H M1 H1 → RepH K H1 M1 → ItOk K J src M1 H1 → R J H1
def upI (K : Fg) (W : WX) (w : WI) : TI := fun σ H R => ∃ EP s M, Cur K W EP s M σ H ∧ w EP s M (DnI K M H R)
structure EI (X : Cx) (W : WX) (tg iter : Expr) (w : WI) : Prop where
  mono : MonoI w
  run : PI X tg iter (upI X.K W w)
theorem pi_weak {X : Cx} {tg e : Expr} {t t' : TI} (h : PI X tg e t) (k : ∀ σ H Q, t' σ H Q → t σ H Q) : PI X tg e t' := ⟨fun pins s σ H Q I q => h.run pins s σ H Q I (k _ _ _ q)⟩
theorem Cur.useI {K : Fg} {W : WX} {EP : PX} {s : PSt} {M : PH} {σ : St} {H : Hp} {w : WI} (c : Cur K W EP s M σ H) (hm : MonoI w) {R : PSrc → PH → Prop} (h : w EP s M R) {Q : It → Hp → Prop}
    (k : ∀ src M1 J H1, R src M1 → Step M H M1 H1 → Cur K W EP s M1 σ H1 → ItOk K J src M1 H1 → Q J H1) : upI K W w σ H Q :=
  ⟨EP, s, M, c, hm _ _ _ _ _ (fun src M1 r J H1 S rh io => k src M1 J H1 r S (c.step S rh) io) h⟩
/-- over a tuple -/
def iTp (e : WE) : WI := fun EP s M Q => e EP s M fun p M1 => match p with
  | .tup xs => Q ⟨xs, fun _ => True⟩ M1
  | _ => False
/-- over a list that stands -/
def iLs (e : WE) : WI := fun EP s M Q => e EP s M fun p M1 => match p with
  | .ref a => ∃ xs, M1 a = some (.lst xs) ∧ Q ⟨xs, fun M => M a = some (.lst xs)⟩ M1
  | _ => False
/-- over a list just made -/
def iNw (l : WL) : WI := fun EP s M Q => l EP s M fun xs M1 => Q ⟨xs, fun _ => True⟩ M1
/-- over the signs of a text -/
def iSt (e : WE) : WI := fun EP s M Q => e EP s M fun p M1 => match p with
  | .str z => Q ⟨z.cps.toList.map fun c => .str ⟨#[c]⟩, fun _ => True⟩ M1
  | _ => False
section
variable {X : Cx} {W : WX} {tg e : Expr} {we : WE} {wl : WL}
theorem ei_tup (h : EE X W e we) : EI X W tg e (iTp we) := by
  refine ⟨fun EP s M Q Q' k q => h.mono _ _ _ _ _ (fun p M1 z => ?_) q, pi_weak (pi_tup h.run) ?_⟩
  · cases p with
    | tup xs => exact k _ _ z
    | _ => exact z
  · rintro σ H R ⟨EP, s, M, c, q⟩
    refine c.use h.mono q fun p M1 v H1 h1 S c1 r => ?_
    cases p with
    | tup xs =>
      rw [Rep] at r
      obtain ⟨a, vs, rfl, hs, rr⟩ := r
      refine ⟨a, rfl, ⟨vs, hs⟩, h1 _ H1 S c1.rh fun i M2 H2 S2 rh2 _ => ⟨fun p hp => ?_, fun hi => ?_⟩⟩
      · obtain ⟨v, hv, rv⟩ := rr.get hp
        have hs2 := sqt_keep (S2.tk c1.rh) hs
        refine ⟨⟨vs, v, hs2, hv⟩, fun x H' hy => ?_⟩
        obtain ⟨rfl, hy⟩ := hy
        have e1 := hy vs hs2
        rw [hv] at e1; cases e1
        exact ⟨.refl _ _, rh2, rv.tk (S2.tk c1.rh)⟩
      · exact ⟨vs, sqt_keep (S2.tk c1.rh) hs, by rw [← rr.length, hi]; exact Nat.le_refl _⟩
    | _ => exact h1.elim
theorem ei_list (h : EE X W e we) : EI X W tg e (iLs we) := by
  refine ⟨fun EP s M Q Q' k q => h.mono _ _ _ _ _ (fun p M1 z => ?_) q, pi_weak (pi_list h.run) ?_⟩
  · cases p with
    | ref a => exact let ⟨xs, e, z⟩ := z; ⟨xs, e, k _ _ z⟩
    | _ => exact z
  · rintro σ H R ⟨EP, s, M, c, q⟩
    refine c.use h.mono q fun p M1 v H1 h1 S c1 r => ?_
    cases p with
    | ref a =>
      rw [Rep] at r; subst r
      obtain ⟨xs, e1, h1⟩ := h1
      obtain ⟨vs1, hv1, _⟩ := c1.rh a _ e1
      refine ⟨a, rfl, ⟨vs1, SqL.of hv1⟩, h1 _ H1 S c1.rh fun i M2 H2 S2 rh2 ok => ?_⟩
      have ok : M2 a = some (.lst xs) := ok
      obtain ⟨vs, hv, rr⟩ := rh2 a _ ok
      refine ⟨fun p hp => ?_, fun hi => ⟨vs, SqL.of hv, by rw [← rr.length, hi]; exact Nat.le_refl _⟩⟩
      obtain ⟨v, hvv, rv⟩ := rr.get hp
      refine ⟨⟨vs, v, SqL.of hv, hvv⟩, fun x H' hy => ?_⟩
      obtain ⟨rfl, hy⟩ := hy
      have e2 := hy vs (SqL.of hv)
      rw [hvv] at e2; cases e2
      exact ⟨.refl _ _, rh2, rv⟩
    | _ => exact h1.elim
theorem ei_new (h : EL X W e wl) : EI X W tg e (iNw wl) := by
  refine ⟨fun EP s M Q Q' k q => h.mono _ _ _ _ _ (fun p M1 z => k _ _ z) q, pi_weak (pi_list h.run) ?_⟩
  rintro σ H R ⟨EP, s, M, c, q⟩
  refine c.useL h.mono q fun xs M1 D vs H1 h1 S c1 n w e1 rr z => ?_
  refine ⟨D, rfl, ⟨vs, SqL.of e1⟩, h1 _ H1 S c1.rh fun i M2 H2 S2 rh2 _ => ?_⟩
  have e2 : H2 D = some (.lst vs) := S2.keep D _ e1 w
  have r2 := rr.tk (S2.tk c1.rh)
  refine ⟨fun p hp => ?_, fun hi => ⟨vs, SqL.of e2, by rw [← rr.length, hi]; exact Nat.le_refl _⟩⟩
  obtain ⟨v, hvv, rv⟩ := r2.get hp
  refine ⟨⟨vs, v, SqL.of e2, hvv⟩, fun x H' hy => ?_⟩
  obtain ⟨rfl, hy⟩ := hy
  have e3 := hy vs (SqL.of e2)
  rw [hvv] at e3; cases e3
  exact ⟨.refl _ _, rh2, rv⟩
theorem ei_str (h : EE X W e we) : EI X W tg e (iSt we) := by
  refine ⟨fun EP s M Q Q' k q => h.mono _ _ _ _ _ (fun p M1 z => ?_) q, pi_weak (pi_str h.run) ?_⟩
  · cases p with
    | str xs => exact k _ _ z
    | _ => exact z
  · rintro σ H R ⟨EP, s, M, c, q⟩
    refine c.use h.mono q fun p M1 v H1 h1 S c1 r => ?_
    cases p with
    | str x =>
      rw [Rep] at r; subst r
      refine ⟨x, rfl, h1 _ H1 S c1.rh fun i M2 H2 S2 rh2 _ => ⟨fun p hp => ?_, fun hi => ?_⟩⟩
      · have hp' : (x.cps.toList.map fun c => PV.str ⟨#[c]⟩)[i]? = some p := hp
        rw [List.getElem?_map] at hp'
        obtain ⟨cc, e1, e2⟩ := Option.map_eq_some_iff.mp hp'
        have e3 : x.cps[i]? = some cc := by simpa using e1
        have hlt : i < x.cps.size := (Array.getElem?_eq_some_iff.mp e3).1
        refine ⟨hlt, fun y H' hy => ?_⟩
        obtain ⟨rfl, c', e4, rfl⟩ := hy
        rw [e3] at e4; cases e4
        exact ⟨.refl _ _, rh2, by rw [← e2, Rep]⟩
      · have hi' : i = (x.cps.toList.map fun c => PV.str ⟨#[c]⟩).length := hi
        simp only [List.length_map, Array.length_toList] at hi'
        exact Nat.le_of_eq hi'.symm
    | _ => exact h1.elim
end
/-! ## for -/
def forW (ok : PH → Prop) (g : WG) (b : WS) (EP : PX) (D : PEnds) : List PV → PSt → PH → Prop
  | [], s, M => ok M ∧ D.nx s M
  | x :: xs, s, M => ok M ∧ g x s M fun s2 M2 => b EP { D with nx := forW ok g b EP D xs, ct := forW ok g b EP D xs, bk := D.nx } s2 M2
def wFor (i : WI) (g : WG) (b : WS) : WS := fun EP D s M => i EP s M fun src M1 => forW src.ok g b EP D src.items s M1
theorem forW_mono {ok : PH → Prop} {g : WG} {b : WS} {EP : PX} {D D' : PEnds} (hg : MonoG g) (hb : MonoS b) (k : D.Le D') : ∀ (xs : List PV) s M, forW ok g b EP D xs s M → forW ok g b EP D' xs s M
  | [], s, M, h => ⟨h.1, k.nx _ _ h.2⟩
  | x :: xs, s, M, h => ⟨h.1, hg.app h.2 fun s2 M2 z => hb.app z ⟨forW_mono hg hb k xs, k.rt, k.nx, forW_mono hg hb k xs⟩⟩
theorem es_for {X : Cx} {W : WX} {tg iter : Expr} {body : List Stmt} {wi : WI} {g : WG} {wb : WS} {pos : Pos} (hp : PassesOwn (model X.prog X.w) X.A X.env X.xe) (hc : X.calm = true) (hi : EI X W tg iter wi) (hg : EG X tg g) (hb : EB X W body wb)
    (hs : ∀ x, foldedSetIterable iter X.env x = pure x := by intro _; rfl) : ES X W (.For tg iter body [] pos) (wFor wi g wb) := by
  refine ⟨fun EP D D' s M k h => hi.mono _ _ _ _ _ (fun src M1 z => forW_mono hg.mono hb.mono k _ _ _ z) h, ps_weak (ps_for hp hc hi.run hg.run hb.run hs) ?_⟩
  rintro D σ H ⟨EP, s, M, c, h⟩
  refine c.useI hi.mono h fun src M1 J H1 h1 S1 c1 io => ?_
  refine ⟨fun i m σ' H' => ∃ s' M', i + m = src.items.length ∧ Step M1 H1 M' H' ∧ RepH X.K H' M' ∧ RepS X.K H' s' σ' ∧ forW src.ok g wb EP (dn X.K M1 H1 D) (src.items.drop i) s' M', ⟨src.items.length, s, M1, by omega, .refl _ _, c1.rh, c1.rs, forW_mono hg.mono hb.mono (dn_on S1) _ _ _ h1⟩, fun i m σ' H' hW => ?_⟩
  obtain ⟨s', M', em, S', rh', rs', hf⟩ := hW
  by_cases hlt : i < src.items.length
  · have ed : src.items.drop i = src.items[i] :: src.items.drop (i + 1) := List.drop_eq_getElem_cons hlt
    rw [ed] at hf
    have hio := io i M' H' S' rh' hf.1
    obtain ⟨hgo, hy⟩ := hio.1 src.items[i] (List.getElem?_eq_getElem hlt)
    refine .inr ⟨hgo, fun σ2 H2 => ∃ s2 M2, Step M1 H1 M2 H2 ∧ RepH X.K H2 M2 ∧ RepS X.K H2 s2 σ2 ∧ forW src.ok g wb EP (dn X.K M1 H1 D) (src.items.drop (i + 1)) s2 M2, fun σ2 H2 hN => ?_, fun x H2 hyl => ?_⟩
    · obtain ⟨s2, M2, a1, a2, a3, a4⟩ := hN
      exact ⟨m - 1, by omega, s2, M2, by omega, a1, a2, a3, a4⟩
    · obtain ⟨S2, rh2, rx⟩ := hy x H2 hyl
      refine ⟨src.items[i], s', M', rs'.tk (S2.tk rh'), rh2, rx, hg.mono _ _ _ _ _ (fun s3 M3 z σ3 H3 S3 rh3 rs3 => ?_) hf.2⟩
      have SS := (S'.trans S2).trans S3
      have c3 : Cur X.K W EP s3 M3 σ3 H3 := (c1.step SS rh3).at rs3
      refine ⟨EP, s3, M3, c3, hb.mono.app z ⟨fun s4 M4 z4 σ4 H4 S4 rh4 rs4 => ⟨s4, M4, SS.trans S4, rh4, rs4, z4⟩, fun p M4 z4 v H4 S4 rh4 r4 => z4 v H4 (SS.trans S4) rh4 r4,
        fun s4 M4 z4 σ4 H4 S4 rh4 rs4 => z4 σ4 H4 (SS.trans S4) rh4 rs4, fun s4 M4 z4 σ4 H4 S4 rh4 rs4 => ⟨s4, M4, SS.trans S4, rh4, rs4, z4⟩⟩⟩
  · have ei : i = src.items.length := by omega
    rw [List.drop_eq_nil_of_le (by omega)] at hf
    exact .inl ⟨(io i M' H' S' rh' hf.1).2 ei, hf.2 σ' H' S' rh' rs'⟩
/-- the rule one uses: an invariant over the turn -/
theorem forW_inv {ok : PH → Prop} {g : WG} {b : WS} {EP : PX} {D : PEnds} {xs : List PV} (P : Nat → PSt → PH → Prop) (hg : MonoG g) (hb : MonoS b) {s : PSt} {M : PH} (h0 : P 0 s M) (hok : ∀ i s M, i ≤ xs.length → P i s M → ok M)
    (hs : ∀ i x s M, xs[i]? = some x → P i s M → g x s M fun s2 M2 => b EP { D with nx := P (i + 1), ct := P (i + 1), bk := D.nx } s2 M2) (hd : ∀ s M, P xs.length s M → D.nx s M) : forW ok g b EP D xs s M := by
  have go : ∀ (m i : Nat) (s : PSt) (M : PH), i + m = xs.length → P i s M → forW ok g b EP D (xs.drop i) s M := by
    intro m
    induction m with
    | zero =>
      intro i s M e h
      rw [List.drop_eq_nil_of_le (by omega)]
      have ei : i = xs.length := by omega
      exact ⟨hok i s M (by omega) h, hd s M (ei ▸ h)⟩
    | succ m ih =>
      intro i s M e h
      have hlt : i < xs.length := by omega
      rw [List.drop_eq_getElem_cons hlt]
      exact ⟨hok i s M (by omega) h, hg.app (hs i xs[i] s M (List.getElem?_eq_getElem hlt) h) fun s2 M2 z => hb.app z ⟨fun s' M' z' => ih (i + 1) s' M' (by omega) z', fun _ _ z' => z', fun _ _ z' => z', fun s' M' z' => ih (i + 1) s' M' (by omega) z'⟩⟩
  have := go xs.length 0 s M (by omega) h0
  simpa using this
/-! ## while -/
def wWhile (t : WT) (b : WS) : WS := fun EP D s M => ∃ P : Nat → PSt → PH → Prop, (∃ m, P m s M) ∧ ∀ m s M, P m s M → t EP s M fun c M1 => if c = true then ∃ N : PSt → PH → Prop, (∀ s' M', N s' M' → ∃ m', m' < m ∧ P m' s' M') ∧ b EP { D with nx := N, ct := N, bk := D.nx } s M1 else D.nx s M1
theorem es_while {X : Cx} {W : WX} {c : Expr} {body : List Stmt} {tc : WT} {wb : WS} {pos : Pos} (hp : PassesOwn (model X.prog X.w) X.A X.env X.xe) (hc : ET X W c tc) (hb : EB X W body wb) : ES X W (.While c body [] pos) (wWhile tc wb) := by
  refine ⟨fun EP D D' s M k h => ?_, ps_weak (ps_while hp hc.run hb.run) ?_⟩
  · obtain ⟨P, h0, h⟩ := h
    refine ⟨P, h0, fun m s M hm => hc.mono _ _ _ _ _ (fun d M1 z => ?_) (h m s M hm)⟩
    cases d with
    | true => exact let ⟨N, a, b⟩ := z; ⟨N, a, hb.mono.app b ⟨fun _ _ q => q, k.rt, k.nx, fun _ _ q => q⟩⟩
    | false => exact k.nx _ _ z
  · rintro D σ H ⟨EP, s, M, cu, P, ⟨m0, h0⟩, h⟩
    refine ⟨fun m σ' H' => ∃ s' M', Step M H M' H' ∧ RepH X.K H' M' ∧ RepS X.K H' s' σ' ∧ P m s' M', ⟨m0, s, M, .refl _ _, cu.rh, cu.rs, h0⟩, fun m σ' H' hW => ?_⟩
    obtain ⟨s', M', S', rh', rs', hP⟩ := hW
    have c' : Cur X.K W EP s' M' σ' H' := (cu.step S' rh').at rs'
    refine c'.useT hc.mono (h m s' M' hP) fun d M1 H1 h1 S1 c1 => ?_
    have SS := S'.trans S1
    cases d with
    | false => exact h1 σ' H1 SS c1.rh c1.rs
    | true =>
      obtain ⟨N, hN, h2⟩ := h1
      refine ⟨fun σ2 H2 => ∃ s2 M2, Step M H M2 H2 ∧ RepH X.K H2 M2 ∧ RepS X.K H2 s2 σ2 ∧ N s2 M2, fun σ2 H2 ⟨s2, M2, a1, a2, a3, a4⟩ => ?_, ?_⟩
      · obtain ⟨m', hm', q⟩ := hN s2 M2 a4
        exact ⟨m', hm', s2, M2, a1, a2, a3, q⟩
      · refine c1.useS hb.mono h2 ⟨fun s4 M4 z4 σ4 H4 S4 rh4 rs4 => ⟨s4, M4, SS.trans S4, rh4, rs4, z4⟩, fun p M4 z4 v H4 S4 rh4 r4 => z4 v H4 (SS.trans S4) rh4 r4,
          fun s4 M4 z4 σ4 H4 S4 rh4 rs4 => z4 σ4 H4 (SS.trans S4) rh4 rs4, fun s4 M4 z4 σ4 H4 S4 rh4 rs4 => ⟨s4, M4, SS.trans S4, rh4, rs4, z4⟩⟩
end PL
set_option autoImplicit true
namespace PL
open PySem PySem.Spec L2
open PyProof.Rows hiding St

/-! ## list comprehensions -/
def pwipe (s : PSt) : List Nat → PSt
  | [] => s
  | v :: vs => (pwipe s vs).set v none
theorem RepS.wipe {K : Fg} {H : Hp} {s : PSt} {σ : St} (h : RepS K H s σ) : ∀ vs : List Nat, RepS K H (pwipe s vs) (L2.wipe σ vs)
  | [] => h
  | v :: vs => (RepS.wipe h vs).setN v
theorem wipe_set (σ : St) (i : Nat) (x : Option V) : ∀ vs : List Nat, L2.wipe (σ.set i x) vs = if i ∈ vs then L2.wipe σ vs else (L2.wipe σ vs).set i x
  | [] => by simp [L2.wipe]
  | v :: vs => by
    show (L2.wipe (σ.set i x) vs).set v none = _
    rw [wipe_set σ i x vs]
    by_cases h : i ∈ vs
    · rw [if_pos h, if_pos (List.mem_cons_of_mem _ h)]; rfl
    · rw [if_neg h]
      by_cases e : i = v
      · subst e
        rw [if_pos List.mem_cons_self, List.set_set]; rfl
      · rw [if_neg (by simp [e, h]), List.set_comm _ _ e]; rfl
theorem wipe_wipe (σ : St) : ∀ vs : List Nat, L2.wipe (L2.wipe σ vs) vs = L2.wipe σ vs := by
  have key : ∀ (us vs : List Nat), (∀ u ∈ us, u ∈ vs) → L2.wipe (L2.wipe σ us) vs = L2.wipe σ vs := by
    intro us
    induction us with
    | nil => intro vs _; rfl
    | cons u us ih =>
      intro vs h
      show L2.wipe ((L2.wipe σ us).set u none) vs = _
      rw [wipe_set, if_pos (h u List.mem_cons_self)]
      exact ih vs fun x hx => h x (List.mem_cons_of_mem _ hx)
  exact fun vs => key vs vs fun _ h => h
/-- names stored one after the other -/
def setsV (σ : St) : List Nat → List V → St
  | i :: is, v :: vs => setsV (σ.set i (some v)) is vs
  | _, _ => σ
def gsN : List Nat → TGs
  | [] => gNil
  | i :: is => gCons (gName i) (gsN is)
theorem gsN_run {H : Hp} : ∀ (is : List Nat) (vs : List V) (σ : St) (Q : St → Hp → Prop), vs.length = is.length → Q (setsV σ is vs) H → gsN is vs σ H Q
  | [], [], σ, Q, _, q => ⟨rfl, q⟩
  | i :: is, v :: vs, σ, Q, h, q => ⟨v, vs, rfl, gsN_run is vs _ Q (by simpa using h) q⟩
theorem wipe_sets {vs : List Nat} : ∀ (is : List Nat) (xs : List V) (σ : St), (∀ i ∈ is, i ∈ vs) → L2.wipe (setsV σ is xs) vs = L2.wipe σ vs
  | [], _, _, _ => by simp [setsV]
  | i :: is, [], _, _ => by simp [setsV]
  | i :: is, x :: xs, σ, h => by
    show L2.wipe (setsV (σ.set i (some x)) is xs) vs = _
    rw [wipe_sets is xs _ fun j hj => h j (List.mem_cons_of_mem _ hj), wipe_set, if_pos (h i List.mem_cons_self)]
theorem gAll_sets {K : Fg} {H : Hp} {M : PH} : ∀ (is : List Nat) (ps : List PV) (vs : List V) (s : PSt) (σ : St) (Q : PSt → PH → Prop), RepS K H s σ → Reps K H ps vs → gAll (is.map gNm) ps s M Q → vs.length = is.length ∧ ∃ s', RepS K H s' (setsV σ is vs) ∧ Q s' M
  | [], [], vs, s, σ, Q, rs, r, h => by rw [Reps] at r; subst r; exact ⟨rfl, s, rs, h⟩
  | [], p :: ps, vs, s, σ, Q, rs, r, h => h.elim
  | i :: is, [], vs, s, σ, Q, rs, r, h => h.elim
  | i :: is, p :: ps, vs, s, σ, Q, rs, r, h => by
    rw [Reps] at r
    obtain ⟨v, t, rfl, r1, r2⟩ := r
    have := gAll_sets is ps t _ _ Q (rs.set r1 i) r2 h
    exact ⟨by simp [this.1], this.2⟩
/-- a comprehension's target: one name, or a tuple of names -/
inductive CTg where
  | one (i : Nat)
  | many (is : List Nat)
def CTg.g : CTg → WG
  | .one i => gNm i
  | .many is => gTp (is.map gNm)
def CTg.t (K : Fg) : CTg → TG
  | .one i => gName i
  | .many is => gTup K is.length (gsN is)
def CTg.ix : CTg → List Nat
  | .one i => [i]
  | .many is => is
theorem pgs_names {X : Cx} {pos : Pos} : ∀ (is : List Nat), True := fun _ => trivial

def lcW (ok : PH → Prop) (g : WG) (t : WT) (e : WE) (sw : PSt) (Q : List PV → PH → Prop) : List PV → List PV → PH → Prop
  | [], acc, M => ok M ∧ Q acc M
  | x :: xs, acc, M => ok M ∧ g x sw M fun s2 M2 => t (fun _ _ _ _ => False) s2 M2 fun b M3 =>
      if b = true then e (fun _ _ _ _ => False) s2 M3 fun y M4 => acc.length < sizeLine ∧ lcW ok g t e sw Q xs (acc ++ [y]) M4 else lcW ok g t e sw Q xs acc M3
def wLc (i : WI) (g : CTg) (t : WT) (e : WE) (vs : List Nat) : WL := fun EP s M Q => i EP s M fun src M1 => lcW src.ok g.g t e (pwipe s vs) Q src.items [] M1
theorem CTg.mono : ∀ g : CTg, MonoG g.g
  | .one i => fun p s M Q Q' k h => k _ _ h
  | .many is => fun p s M Q Q' k h => by
    have go : ∀ (is : List Nat) (ps : List PV) (s : PSt), gAll (is.map gNm) ps s M Q → gAll (is.map gNm) ps s M Q' := by
      intro is
      induction is with
      | nil => intro ps s h; cases ps with
        | nil => exact k _ _ h
        | cons => exact h
      | cons i is ih => intro ps s h; cases ps with
        | nil => exact h
        | cons p ps => exact ih ps _ h
    cases p with
    | tup xs => exact go is xs s h
    | _ => exact h
theorem lcW_mono {ok : PH → Prop} {g : WG} {t : WT} {e : WE} {sw : PSt} {Q Q' : List PV → PH → Prop} (hg : MonoG g) (ht : MonoT t) (he : MonoE e) (k : ∀ xs M, Q xs M → Q' xs M) : ∀ (xs acc : List PV) (M : PH), lcW ok g t e sw Q xs acc M → lcW ok g t e sw Q' xs acc M
  | [], acc, M, h => ⟨h.1, k _ _ h.2⟩
  | x :: xs, acc, M, h => ⟨h.1, hg.app h.2 fun s2 M2 z => ht _ _ _ _ _ (fun b M3 z3 => by
    cases b with
    | true => exact he _ _ _ _ _ (fun y M4 z4 => ⟨z4.1, lcW_mono hg ht he k xs _ M4 z4.2⟩) z3
    | false => exact lcW_mono hg ht he k xs _ M3 z3) z⟩
abbrev W0 : WX := fun _ _ _ _ => False
structure ETs (X : Cx) (ifs : List Expr) (w : WT) : Prop where
  mono : MonoT w
  run : PTs X ifs (upT X.K W0 w)
def wYes : WT := fun _ _ M Q => Q true M
theorem pts_weak {X : Cx} {e : List Expr} {t t' : TT} (h : PTs X e t) (k : ∀ σ H Q, t' σ H Q → t σ H Q) : PTs X e t' := ⟨fun pins s σ H Q I q => h.run pins s σ H Q I (k _ _ _ q)⟩
theorem ets_nil {X : Cx} : ETs X [] wYes := ⟨fun _ _ _ _ _ k h => k _ _ h, pts_weak pts_nil fun σ H Q h => by
  obtain ⟨EP, s, M, c, h⟩ := h
  exact h H (.refl _ _) c.rh⟩
theorem ets_one {X : Cx} {c : Expr} {w : WT} (h : ET X W0 c w) : ETs X [c] w := ⟨h.mono, pts_one h.run⟩
theorem cur0 {K : Fg} {s : PSt} {M : PH} {σ : St} {H : Hp} (rs : RepS K H s σ) (rh : RepH K H M) : Cur K W0 (fun _ _ _ _ => False) s M σ H := ⟨rs, rh, fun _ _ _ _ _ _ _ _ _ _ _ h => h⟩
theorem wr_no {M M' : PH} {H H' : Hp} (S : Step M H M' H') {a : Addr} {o : HO} (n : ¬ Wr M a) (e : H a = some o) : ¬ Wr M' a := fun w => by
  have := S.fresh a w n
  rw [e] at this; cases this
theorem up_lc {K : Fg} {W : WX} {wi : WI} {g : CTg} {wt : WT} {we : WE} {vs : List Nat} (hi : MonoI wi) (ht : MonoT wt) (he : MonoE we) (hv : ∀ i ∈ g.ix, i ∈ vs) :
    ∀ σ H Q, upL K W (wLc wi g wt we vs) σ H Q → tLc (upI K W wi) (g.t K) (upT K W0 wt) (up K W0 we) vs σ H Q := by
  rintro σ H Q ⟨EP, s, M0, c, h⟩
  refine c.useI hi h fun src M1 J H1 h1 S1 c1 io => ?_
  intro D hD
  have nD := c1.rh.free hD
  refine ⟨fun i m H' => ∃ acc M us, i + m = src.items.length ∧ Step M1 H1 M H' ∧ RepH K H' M ∧ ¬ Wr M D ∧ H' D = some (.lst us) ∧ Reps K H' acc us ∧ acc.length ≤ sizeLine ∧
    lcW src.ok g.g wt we (pwipe s vs) (DnL K M0 H Q) (src.items.drop i) acc M, ⟨src.items.length, [], M1, [], by omega, Step.hidden hD, c1.rh.upd_free hD, nD, upd_same, .nil, by simp, h1⟩, fun i m H' hW => ?_⟩
  obtain ⟨acc, M, us, em, S', rh', nw, eD, ra, hz, hl⟩ := hW
  by_cases hlt : i < src.items.length
  · rw [List.drop_eq_getElem_cons hlt] at hl
    have hio := io i M H' S' rh' hl.1
    obtain ⟨hgo, hy⟩ := hio.1 src.items[i] (List.getElem?_eq_getElem hlt)
    refine .inr ⟨hgo, fun H2 => ∃ acc M us, Step M1 H1 M H2 ∧ RepH K H2 M ∧ ¬ Wr M D ∧ H2 D = some (.lst us) ∧ Reps K H2 acc us ∧ acc.length ≤ sizeLine ∧
      lcW src.ok g.g wt we (pwipe s vs) (DnL K M0 H Q) (src.items.drop (i + 1)) acc M, fun H2 hN => ?_, fun x H2 hyl => ?_⟩
    · obtain ⟨acc, M, us, a1, a2, a3, a4, a5, a6, a7⟩ := hN
      exact ⟨m - 1, by omega, acc, M, us, by omega, a1, a2, a3, a4, a5, a6, a7⟩
    · obtain ⟨S2, rh2, rx⟩ := hy x H2 hyl
      have e2 : H2 D = some (.lst us) := S2.keep D _ eD nw
      have rs2 : RepS K H2 (pwipe s vs) (L2.wipe σ vs) := ((c1.rs.tk (S'.tk c1.rh)).tk (S2.tk rh')).wipe vs
      -- behind the target
      have body : ∀ (s2 : PSt) (σ2 : St), RepS K H2 s2 σ2 → (wt (fun _ _ _ _ => False) s2 M fun b M3 =>
          if b = true then we (fun _ _ _ _ => False) s2 M3 fun y M4 => acc.length < sizeLine ∧ lcW src.ok g.g wt we (pwipe s vs) (DnL K M0 H Q) (src.items.drop (i + 1)) (acc ++ [y]) M4
          else lcW src.ok g.g wt we (pwipe s vs) (DnL K M0 H Q) (src.items.drop (i + 1)) acc M3) →
          upT K W0 wt σ2 H2 fun b H3 => if b = true then up K W0 we σ2 H3 fun y H4 => ∃ acc', H4 D = some (.lst acc') ∧ acc'.length < sizeLine ∧ (∃ acc M us, Step M1 H1 M (upd H4 D (.lst (acc' ++ [y]))) ∧ RepH K (upd H4 D (.lst (acc' ++ [y]))) M ∧ ¬ Wr M D ∧ upd H4 D (.lst (acc' ++ [y])) D = some (.lst us) ∧ Reps K (upd H4 D (.lst (acc' ++ [y]))) acc us ∧ acc.length ≤ sizeLine ∧
      lcW src.ok g.g wt we (pwipe s vs) (DnL K M0 H Q) (src.items.drop (i + 1)) acc M) else ∃ acc M us, Step M1 H1 M H3 ∧ RepH K H3 M ∧ ¬ Wr M D ∧ H3 D = some (.lst us) ∧ Reps K H3 acc us ∧ acc.length ≤ sizeLine ∧
      lcW src.ok g.g wt we (pwipe s vs) (DnL K M0 H Q) (src.items.drop (i + 1)) acc M := by
        intro s2 σ2 r2 hb
        refine (cur0 r2 rh2).useT ht hb fun b M3 H3 h3 S3 c3 => ?_
        have e3 : H3 D = some (.lst us) := S3.keep D _ e2 nw
        have n3 : ¬ Wr M3 D := wr_no S3 nw e2
        have r3 := (ra.tk (S2.tk rh')).tk (S3.tk rh2)
        cases b with
        | false => exact ⟨acc, M3, us, (S'.trans S2).trans S3, c3.rh, n3, e3, r3, hz, h3⟩
        | true =>
          refine c3.use he h3 fun y M4 v H4 h4 S4 c4 ry => ?_
          have e4 : H4 D = some (.lst us) := S4.keep D _ e3 n3
          have n4 : ¬ Wr M4 D := wr_no S4 n3 e3
          have r4 := r3.tk (S4.tk c3.rh)
          have hn4 : (∀ xs, H4 D ≠ some (.tup xs)) ∧ ∀ o xs, H4 D ≠ some (.frz o xs) := by
            rw [e4]; exact ⟨fun _ z => (by cases z), fun _ _ z => (by cases z)⟩
          have t4 : TKeep H4 (upd H4 D (.lst (us ++ [v]))) := tk_upd hn4
          refine ⟨us, e4, by rw [← r4.length]; exact h4.1, acc ++ [y], M4, us ++ [v], ((((S'.trans S2).trans S3).trans S4).over hD), c4.rh.upd_out n4 hn4, n4, upd_same, (r4.tk t4).append (.cons (ry.tk t4) .nil), ?_, h4.2⟩
          rw [List.length_append]
          exact h4.1
      cases g with
      | one j =>
        refine ⟨?_, body _ _ (rs2.set rx j) hl.2⟩
        rw [wipe_set, if_pos (hv j (by simp [CTg.ix])), wipe_wipe]
      | many is =>
        have hl2 := hl.2
        generalize src.items[i] = pp at rx hl2
        cases pp with
        | tup ps =>
          rw [Rep] at rx
          obtain ⟨a, xs, rfl, hs, rr⟩ := rx
          obtain ⟨hlen, s', rs', q⟩ := gAll_sets is ps xs _ _ _ rs2 rr hl2
          refine ⟨a, xs, rfl, hs, hlen, gsN_run is xs _ _ hlen ⟨?_, body _ _ rs' q⟩⟩
          rw [wipe_sets is xs _ fun j hj => hv j hj, wipe_wipe]
        | _ => exact hl2.elim
  · have ei : i = src.items.length := by omega
    rw [List.drop_eq_nil_of_le (by omega)] at hl
    exact .inl ⟨(io i M H' S' rh' hl.1).2 ei, hl.2 D us H' (S1.trans S') rh' (S1.free hD) nw eD ra hz⟩
structure EC (X : Cx) (tg : Expr) (g : CTg) : Prop where
  run : PG X tg (g.t X.K)
theorem ec_one {X : Cx} {pos : Pos} (i : Nat) {x : Str} (hN : X.N.Nodup) (hi : X.N[i]? = some x := by rfl) (hx : Loc X.env.scope x := by first | exact .inl rfl | exact .inr rfl) (hf : X.fn x = true ∨ X.env.scope.names.lookup x = some .local := by first | exact .inl rfl | exact .inr rfl | assumption) : EC X (.Name x pos) (.one i) := ⟨pg_name hN hi hx hf⟩
structure ECs (X : Cx) (ts : List Expr) (is : List Nat) : Prop where
  run : PGs X ts (gsN is)
theorem ecs_nil {X : Cx} : ECs X [] [] := ⟨pgs_nil⟩
theorem ecs_cons {X : Cx} {pos : Pos} {es : List Expr} {is : List Nat} (i : Nat) {x : Str} (hN : X.N.Nodup) (h2 : ECs X es is) (hi : X.N[i]? = some x := by rfl) (hx : Loc X.env.scope x := by first | exact .inl rfl | exact .inr rfl) (hf : X.fn x = true ∨ X.env.scope.names.lookup x = some .local := by first | exact .inl rfl | exact .inr rfl | assumption)
    (hs : (assignEach (.Name x pos :: es) X.env).map (·.2) = assign (.Name x pos) X.env :: (assignEach es X.env).map (·.2) := by rfl) : ECs X (.Name x pos :: es) (i :: is) := ⟨pgs_cons (pg_name hN hi hx hf) h2.run hs⟩
theorem ec_many {X : Cx} {es : List Expr} {is : List Nat} {k : Nat} {pos : Pos} (hc : X.calm = true) (h : ECs X es is) (hn : (assignEach es X.env).length = is.length := by rfl) (hst : (assignEach es X.env).findIdx? (·.1) = none := by rfl) : EC X (.Tuple es k pos) (.many is) := ⟨pg_tup hc h.run hn hst⟩
section
variable {X : Cx} {W : WX} {elt tg iter : Expr} {ifs : List Expr} {scope : Scope} {own : List (Str × Nat)} {pos : Pos} {wi : WI} {g : CTg} {wt : WT} {we : WE}
theorem wLc_mono {vs : List Nat} (hi : MonoI wi) (ht : MonoT wt) (he : MonoE we) : MonoA (wLc wi g wt we vs) := fun EP s M Q Q' k h =>
  hi _ _ _ _ _ (fun src M1 z => lcW_mono g.mono ht he k _ _ _ z) h
theorem el_lc (hc : X.calm = true) (hN : X.N.Nodup) (hi : EI X W tg iter wi) (ok : BlkOk X.N X.env.scope scope own)
    (hg : ∀ (s : Shared) (H : Hp) (C : Addr) (cl : List (Str × Addr)) (fp : List Addr), EC (X.blk s H scope (compEnvC scope cl C X.env) fp) tg g)
    (ht : ∀ (s : Shared) (H : Hp) (C : Addr) (cl : List (Str × Addr)) (fp : List Addr), ETs (X.blk s H scope (compEnvC scope cl C X.env) fp) ifs wt)
    (he : ∀ (s : Shared) (H : Hp) (C : Addr) (cl : List (Str × Addr)) (fp : List Addr), EE (X.blk s H scope (compEnvC scope cl C X.env) fp) W0 elt we)
    (hv : ∀ i ∈ g.ix, i ∈ own.map (·.2) := by decide) (hs : ∀ x, foldedSetIterable iter X.env x = pure x := by intro _; rfl) :
    EL X W (.ListComp elt [⟨tg, iter, ifs, 0⟩] scope pos) (wLc wi g wt we (own.map (·.2))) := by
  have ht0 := (ht X.s_0 X.H_0 0 [] []).mono
  have he0 := (he X.s_0 X.H_0 0 [] []).mono
  exact ⟨wLc_mono hi.mono ht0 he0, pe_weak (pe_lc hc hN hi.run ok (fun s H C cl fp => (hg s H C cl fp).run) (fun s H C cl fp => (ht s H C cl fp).run) (fun s H C cl fp => (he s H C cl fp).run) hs) (up_lc hi.mono ht0 he0 hv)⟩
theorem up_new {K : Fg} {l : WL} (hl : MonoA l) : ∀ σ H Q, up K W (wNew l) σ H Q → upL K W l σ H Q := by
  rintro σ H Q ⟨EP, s, M, c, q⟩
  refine c.useL hl q fun xs M1 D vs H1 h1 S1 c1 n w e r z => ?_
  have e1 : upd H1 D (.lst vs) = H1 := by
    funext b
    by_cases hb : b = D
    · subst hb; rw [upd_same, e]
    · rw [upd_ne hb]
  have hn : (∀ xs, H1 D ≠ some (.tup xs)) ∧ ∀ o xs, H1 D ≠ some (.frz o xs) := by
    rw [e]; exact ⟨fun _ z => (by cases z), fun _ _ z => (by cases z)⟩
  have rh : RepH K H1 (pupd M1 D (.lst xs)) := by
    have := c1.rh.upd_both (o := .lst vs) (p := .lst xs) hn ⟨vs, upd_same, by rw [e1]; exact r⟩
    rwa [e1] at this
  refine h1 D (c.rh.free n) w (.ref D) H1 ⟨S1.keep, fun b wb nb => ?_, S1.there⟩ rh (by rw [Rep])
  rcases wr_pupd wb with e2 | e2
  · rw [e2]; exact n
  · exact S1.fresh b e2 nb
/-- y = [..] -/
theorem es_setLc {i : Nat} {y : Str} {py spos : Pos} (hc : X.calm = true) (hN : X.N.Nodup) (hi : EI X W tg iter wi) (ok : BlkOk X.N X.env.scope scope own)
    (hg : ∀ (s : Shared) (H : Hp) (C : Addr) (cl : List (Str × Addr)) (fp : List Addr), EC (X.blk s H scope (compEnvC scope cl C X.env) fp) tg g)
    (ht : ∀ (s : Shared) (H : Hp) (C : Addr) (cl : List (Str × Addr)) (fp : List Addr), ETs (X.blk s H scope (compEnvC scope cl C X.env) fp) ifs wt)
    (he : ∀ (s : Shared) (H : Hp) (C : Addr) (cl : List (Str × Addr)) (fp : List Addr), EE (X.blk s H scope (compEnvC scope cl C X.env) fp) W0 elt we)
    (hsw : swapsWith (.ListComp elt [⟨tg, iter, ifs, 0⟩] scope pos) (some (.Name y py)) spos.line X.env = pure true) (hyl : X.env.scope.names.lookup y = some .local := by rfl)
    (hy : X.N[i]? = some y := by rfl) (hv : ∀ i ∈ g.ix, i ∈ own.map (·.2) := by decide) (hs : ∀ x, foldedSetIterable iter X.env x = pure x := by intro _; rfl) :
    ES X W (.Assign [.Name y py] (.ListComp elt [⟨tg, iter, ifs, 0⟩] scope pos) spos) (wSet i (wNew (wLc wi g wt we (own.map (·.2))))) := by
  have ht0 := (ht X.s_0 X.H_0 0 [] []).mono
  have he0 := (he X.s_0 X.H_0 0 [] []).mono
  have hm : MonoA (wLc wi g wt we (own.map (·.2))) := wLc_mono hi.mono ht0 he0
  have hm2 : MonoE (wNew (wLc wi g wt we (own.map (·.2)))) := fun EP s M Q Q' k q => hm _ _ _ _ _ (fun xs M1 z D w w1 => k _ _ (z D w w1)) q
  refine ⟨fun EP D D' s M k h => hm2 _ _ _ _ _ (fun _ _ z => k.nx _ _ z) h, ps_weak (ps_setLc (i := i) (g := g.t X.K) (tt := upT X.K W0 wt) (te := up X.K W0 we) hc hN hy hyl hsw hi.run ok (fun s H C cl fp => (hg s H C cl fp).run) (fun s H C cl fp => (ht s H C cl fp).run) (fun s H C cl fp => (he s H C cl fp).run) hs) ?_⟩
  rintro D σ H ⟨EP, s, M, c, h⟩
  refine up_lc (W := W) hi.mono ht0 he0 hv σ H _ (up_new hm σ H _ ?_)
  exact c.use hm2 h fun p M1 v H1 h1 S c1 r => h1 _ H1 S c1.rh (c1.rs.set r i)
end
/-! the rule one uses: each turn by itself, without a change -/
theorem lcW_pure {ok : PH → Prop} {g : WG} {t : WT} {e : WE} {sw : PSt} {Q : List PV → PH → Prop} {M : PH} (f : PV → Option PV) (ho : ok M) : ∀ (xs acc : List PV), (∀ x ∈ xs, ∀ R : Option PV → Prop, R (f x) → g x sw M fun s2 M2 => t (fun _ _ _ _ => False) s2 M2 fun b M3 => if b = true then e (fun _ _ _ _ => False) s2 M3 fun y M4 => M4 = M ∧ R (some y) else M3 = M ∧ R none) →
    MonoG g → MonoT t → MonoE e → acc.length + xs.length ≤ sizeLine → Q (acc ++ xs.filterMap f) M → lcW ok g t e sw Q xs acc M
  | [], acc, _, _, _, _, _, q => ⟨ho, by simpa using q⟩
  | x :: xs, acc, h, hg, ht, he, hz, q => by
    refine ⟨ho, ?_⟩
    rw [List.length_cons] at hz
    cases ef : f x with
    | none =>
      have h1 := h x List.mem_cons_self (fun o => o = none) ef
      refine hg.app h1 fun s2 M2 z => ht _ _ _ _ _ (fun b M3 z3 => ?_) z
      cases b with
      | true => exact he _ _ _ _ _ (fun y M4 z4 => by cases z4.2) z3
      | false =>
        have e3 : M3 = M := z3.1
        subst e3
        exact lcW_pure f ho xs acc (fun y hy => h y (List.mem_cons_of_mem _ hy)) hg ht he (by omega) (by rw [List.filterMap_cons_none ef] at q; exact q)
    | some y0 =>
      have h1 := h x List.mem_cons_self (fun o => o = some y0) ef
      refine hg.app h1 fun s2 M2 z => ht _ _ _ _ _ (fun b M3 z3 => ?_) z
      cases b with
      | false => cases z3.2
      | true =>
        refine he _ _ _ _ _ (fun y M4 z4 => ?_) z3
        obtain ⟨e4, e5⟩ := z4
        subst e4
        cases e5
        exact ⟨by omega, lcW_pure f ho xs _ (fun y hy => h y (List.mem_cons_of_mem _ hy)) hg ht he (by simp; omega) (by rw [List.filterMap_cons_some ef] at q; simpa using q)⟩
end PL
set_option autoImplicit false
namespace PL
open PySem PySem.Spec L2
open PyProof.Rows hiding St

/-! ## defs -/
abbrev PX1 := Value → List (Str × PV) → PH → Prop
abbrev PSp := List PV → PH → QE → PX1 → Prop
def MonoP (p : PSp) : Prop := ∀ ps M Q Q' E E', (∀ v M', Q v M' → Q' v M') → (∀ c f M', E c f M' → E' c f M') → p ps M Q E → p ps M Q' E'
def DnX (K : Fg) (M : PH) (H : Hp) (E : XK) : PX1 := fun C fs M' => ∀ od H', Step M H M' H' → RepH K H' M' → ExcAt K H' od fs → E C od H'
def spOf (K : Fg) (n : Nat) (p : PSp) : Sp := fun vs H Q E => ∃ ps M, ps.length = n ∧ Reps K H ps vs ∧ RepH K H M ∧ p ps M (Dn K M H Q) (DnX K M H E)
/-- a def keeps its promise, wherever nothing is being written as text -/
structure FnG (P : Program) (w : World) (K : Fg) (mg : Str → Option Value) (base : Heap) (k : Nat) (f : Addr) (fd : FuncData) (ps : List Str) (p : PSp) : Prop where
  mono : MonoP p
  run : ∀ (A : Around) (outer : List Env) (s : Shared) (H : Hp) (args : Args) (us : List Value) (vs : List V) (Q : VK) (E : XK), Room k A → A.guards = some [] → Env0 P w K mg base A outer s H → BindsTo s fd args (ps.zip us) → Vals vs us →
    spOf K ps.length p vs H Q E → codeAny (model P w) A (.call (.ref f) args) (CR (L2.CX P w) outer P w H s Q E) s
theorem FnG.up {P : Program} {w : World} {K : Fg} {mg : Str → Option Value} {base : Heap} {j k : Nat} {f : Addr} {fd : FuncData} {ps : List Str} {p : PSp} (F : FnG P w K mg base j f fd ps p) (h : j ≤ k) : FnG P w K mg base k f fd ps p :=
  ⟨F.mono, fun A outer s H args us vs Q E hr => F.run A outer s H args us vs Q E (hr.mono h)⟩
/-- the walk of a def: its text at f, its body's reading at the entry -/
def EDef (E : PX1) : PX := fun C fs _ M => E C fs M
def DDef (Q : QE) : PEnds where
  nx := fun _ M' => ∃ M'', PLe M'' M' ∧ Q .non M''
  rt := fun v M' => ∃ M'', PLe M'' M' ∧ Q v M''
def startP (n : Nat) (ps : List PV) : PSt := ps.map some ++ List.replicate (n - ps.length) none
theorem startP_rep {K : Fg} {H : Hp} {N : List Str} : ∀ {ps : List PV} {vs : List V}, Reps K H ps vs → RepS K H (startP N.length ps) (L2.start N vs) := fun {ps vs} r => by
  have hl := r.length
  refine ⟨by simp [startP, L2.start, hl], fun i p e => ?_⟩
  unfold startP at e
  unfold L2.start
  rw [List.getElem?_append] at e
  split at e
  · rename_i h
    rw [List.getElem?_map] at e
    obtain ⟨q, e1, e2⟩ := Option.map_eq_some_iff.mp e
    cases e2
    obtain ⟨v, a, b⟩ := r.get e1
    refine ⟨v, ?_, b⟩
    rw [List.getElem?_append_left (by simpa [hl] using h), List.getElem?_map, a]
    rfl
  · exfalso
    have := List.mem_of_getElem? e
    have h2 := List.eq_of_mem_replicate this
    cases h2
section
variable {P : Program} {w : World} {K : Fg} {mg : Str → Option Value} {base : Heap}
/-- the context of a def's body -/
abbrev XOf (P : Program) (w : World) (K : Fg) (mg : Str → Option Value) (base : Heap) (N : List Str) (qual : Str) (scope : Scope) (f : Addr) (cd : Value) (A : Around) (outer : List Env) (s : Shared) (H : Hp) (E : XK) : Cx := cxOf (L2.CX P w) P w K mg base N qual scope f cd A outer s H E
abbrev WOf (E : XK) : WX := fun cls d _ H => E cls d H
theorem fnG_of {k : Nat} {f : Addr} {name qual : Str} {params : Arguments} {body : List Stmt} {scope : Scope} {dV kV doc pm cdv ct oc : Value} {an od : Option Addr}
    {osl : Array (Option Value)} {N ps : List Str} {p : PSp} {wb : WS} (lk : K.lookup f = some ⟨oc, od, .func (PySem.W.fnOf name qual params body scope dV kV doc pm an cdv ct), osl⟩) (hcd : PySem.W.codeIn K cdv qual = true) (S : FnScope N ps scope) (hmp : MonoP p)
    (hbody : ∀ (A : Around) (outer : List Env) (s : Shared) (H : Hp) (E : XK), Room k (A.deeper (envOfC qual scope s.heap.objs.size f cdv)) → A.guards = some [] → EB (XOf P w K mg base N qual scope f cdv A outer s H E) (WOf E) body wb)
    (spec : ∀ (args : List PV) (M : PH) (Q : QE) (E : PX1), args.length = ps.length → p args M Q E → wb (EDef E) (DDef Q) (startP N.length args) M) :
    FnG P w K mg base (k + 1) f (PySem.W.fnOf name qual params body scope dV kV doc pm an cdv ct) ps p := by
  refine ⟨hmp, fun A outer s H args us vs Q E room hgd e0 hb r hsp => ?_⟩
  obtain ⟨pvs, M, hlen, rp, rh, hp⟩ := hsp
  have hlv : vs.length = ps.length := by rw [← rp.length]; exact hlen
  have inK : K.In s.heap := e0.mod.kin.keeps fun b o e => (e0.bs b o e).1
  have nolim : s.heap.NoLimit := e0.mod.nolimit.keeps fun b o e => (e0.bs b o e).1
  have kinds : ∀ y ∈ ps.zip us, scope.names.lookup y.1 = some .local ∨ (scope.names.lookup y.1 = some .cell ∧ ((cellsFrom (s.heap.objs.size + 1) scope.names []).lookup y.1).isSome = true) := by
    rintro ⟨n, v⟩ hy
    rcases S.par n (List.of_mem_zip hy).1 with q | q
    · left; exact q
    · right; exact ⟨q, PySem.W.cellsFrom_some _ _ _ (.inl q)⟩
  refine codeAny_call_function room.depth (inK _ _ lk) rfl S.co S.gen rfl (PySem.W.codeRec_of inK hcd) (hb _ _ _ _ ?_)
  refine wpAny_newFunctionEnv_cells S.kind kinds fun env he s1 x => ?_
  subst he
  refine ⟨nolim.keeps x.toInCall.keep, codeAny_func ?_⟩
  have I : Inv (XOf P w K mg base N qual scope f cdv A outer s H E) [] (L2.start N vs) H s1 := inv_start S room.hd e0 hlv r x
  have hB := hbody A outer s H E (room.deeper _) hgd
  have hq : upS K (WOf E) wb { nx := fun _ H' => Q .non H', rt := Q } (L2.start N vs) H := by
    refine ⟨EDef (DnX K M H E), startP N.length pvs, M, ⟨startP_rep rp, rh, fun C od fs ps' σ' M' H' S' _ r2 r3 q => q od H' S' r2 r3⟩, ?_⟩
    refine hB.mono.app (spec pvs M _ _ hlen hp) ⟨fun s' M' ⟨M'', hle, q⟩ σ' H' S' rh' rs' => q .non H' (S'.le hle) (rh'.le hle) (by rw [Rep]), fun v M' ⟨M'', hle, q⟩ u H' S' rh' ru => q u H' (S'.le hle) (rh'.le hle) ru, fun _ _ z => z.elim, fun _ _ z => z.elim⟩
  refine wpAny_mono (hB.run.run [] s1 (L2.start N vs) H _ I hq) (fun fl s' hs => ?_) fun e s' hs => hs
  cases fl with
  | ret u =>
    obtain ⟨v, σ', H', J, rv, q⟩ := hs
    exact ⟨v, H', J.os, J.bare, J.base, J.hok, rv, q⟩
  | next =>
    obtain ⟨σ', H', J, q⟩ := hs
    exact ⟨.non, H', J.os, J.bare, J.base, J.hok, rfl, q⟩
  | brk => exact hs.elim fun _ z => z.elim fun _ z => z.2.elim
  | cont => exact hs.elim fun _ z => z.elim fun _ z => z.2.elim
theorem fnG_ok {x qual : Str} {st : Stmt} {f : Addr} {fd : FuncData} {N ps : List Str} {k : Nat} {p : PSp} {wb : WS} (F : Fun K x qual st f fd) (S : FnScope N ps (defScope st)) (hmp : MonoP p)
    (hbody : ∀ (cdv : Value) (A : Around) (outer : List Env) (s : Shared) (H : Hp) (E : XK), Room k (A.deeper (envOfC qual (defScope st) s.heap.objs.size f cdv)) → A.guards = some [] → EB (XOf P w K mg base N qual (defScope st) f cdv A outer s H E) (WOf E) (defBody st) wb)
    (spec : ∀ (args : List PV) (M : PH) (Q : QE) (E : PX1), args.length = ps.length → p args M Q E → wb (EDef E) (DDef Q) (startP N.length args) M) : FnG P w K mg base (k + 1) f fd ps p := by
  obtain ⟨oc, od, kV, doc, pm, an, cdv, ct, osl, rfl, lk, hcd⟩ := F.ex
  exact fnG_of lk hcd S hmp (fun A outer s H E => hbody cdv A outer s H E) spec
end
/-! ## the call -/
def wCall (p : PSp) (a : WA) (dv : List PV) : WE := fun EP s M Q => a EP s M fun ps M1 => p (ps ++ dv) M1 Q fun C fs M' => EP C fs s M'
def wCallK (p : PSp) (n m : Nat) (a ka : WA) (g : List PV → List PV → List PV) : WE := fun EP s M Q => a EP s M fun ps M1 => ka EP s M1 fun ks M2 => ps.length = n ∧ ks.length = m ∧ p (g ps ks) M2 Q fun C fs M' => EP C fs s M'
section
variable {X : Cx} {W : WX} {k : Nat} {f : Addr} {fd : FuncData} {ps : List Str} {p : PSp}
theorem run_fnG {ds : List Value} {dvs : List V} {pins : List (Addr × Obj)} {σ : St} {H : Hp} {s : Shared} {Q : VK} {us : List Value} {vs : List V} (F : FnG X.prog X.w X.K X.mg X.base k f fd ps p) (hr : Room k X.A) (hgd : X.A.guards = some []) (tk : Takes X W) (hb : Binds X.K fd ps ds) (hd : Vals dvs ds)
    (I : Inv X pins σ H s) (r : Vals vs us) (h : spOf X.K ps.length p (vs ++ dvs) H Q fun c d H' => W c d σ H') : wpAny (model X.prog X.w) X.A (call (.ref f) us) (EP X pins σ Q) X.xe s := by
  have r2 : Vals (vs ++ dvs) (us ++ ds) := r.append hd
  have hl : (us ++ ds).length = ps.length := by
    obtain ⟨pv, M, e, rp, _⟩ := h
    rw [← r2.length, ← rp.length]; exact e
  refine wpAny_call (codeAny_mono (F.run X.A X.stack s H ⟨us, []⟩ (us ++ ds) (vs ++ dvs) Q _ hr hgd I.env0 (hb s us I.kIn hl) r2 h) fun res s' hq => ?_)
  match res, hq with
  | .error e, hq => exact tk _ _ (XE.of_call I (fun _ _ _ z => z) hq)
  | .ok (.ret u), hq => exact I.after hq
  | .ok .next, hq => exact hq.elim
  | .ok .brk, hq => exact hq.elim
  | .ok .cont, hq => exact hq.elim
theorem run_fnKG {n : Nat} {ks : List Str} {g : List Value → List Value → List Value} {gV : List V → List V → List V} {pins : List (Addr × Obj)} {σ : St} {H : Hp} {s : Shared} {Q : VK} {us ws : List Value} {vs zs : List V} (F : FnG X.prog X.w X.K X.mg X.base k f fd ps p) (hr : Room k X.A) (hgd : X.A.guards = some []) (tk : Takes X W) (hb : KBn X.K fd ps n ks g gV)
    (I : Inv X pins σ H s) (r : Vals vs us) (rz : Vals zs ws) (l1 : vs.length = n) (l2 : zs.length = ks.length) (h : spOf X.K ps.length p (gV vs zs) H Q fun c d H' => W c d σ H') : wpAny (model X.prog X.w) X.A (call (.ref f) us (ks.zip ws)) (EP X pins σ Q) X.xe s := by
  have r2 : Vals (gV vs zs) (g us ws) := hb.rel r rz
  refine wpAny_call (codeAny_mono (F.run X.A X.stack s H ⟨us, ks.zip ws⟩ (g us ws) (gV vs zs) Q _ hr hgd I.env0 (hb.to s us ws I.kIn (by rw [← r.length]; exact l1) (by rw [← rz.length]; exact l2)) r2 h) fun res s' hq => ?_)
  match res, hq with
  | .error e, hq => exact tk _ _ (XE.of_call I (fun _ _ _ z => z) hq)
  | .ok (.ret u), hq => exact I.after hq
  | .ok .next, hq => exact hq.elim
  | .ok .brk, hq => exact hq.elim
  | .ok .cont, hq => exact hq.elim
variable {x : Str} {pp pos : Pos} {e : Expr} {es : List Expr} {wa : WA}
/-- from plain arguments to the promise -/
theorem Cur.sp {K : Fg} {EP : PX} {s : PSt} {M0 M : PH} {σ : St} {H0 H : Hp} (c : Cur K W EP s M σ H) (S : Step M0 H0 M H) (hm : MonoP p) {args : List PV} {vs : List V} {n : Nat} (hn : args.length = n) (r : Reps K H args vs) {Q : VK}
    (h : p args M (Dn K M0 H0 Q) fun C fs M' => EP C fs s M') : spOf K n p vs H Q fun cl d H' => W cl d σ H' :=
  ⟨args, M, hn, r, c.rh, hm _ _ _ _ _ _ (fun v M' q => q.on S) (fun C fs M' q od H' S' rh' ex => c.tk C od fs s σ M' H' S' (c.rs.tk (S'.tk c.rh)) rh' ex q) h⟩
def LenP (p : PSp) (n : Nat) : Prop := ∀ ps M Q E, p ps M Q E → ps.length = n
theorem mono_call (hm : MonoP p) (ha : MonoA wa) {dv : List PV} : MonoE (wCall p wa dv) := fun EP s M Q Q' k h => ha _ _ _ _ _ (fun ps M1 z => hm _ _ _ _ _ _ (fun v M' q => k _ _ q) (fun _ _ _ q => q) z) h
theorem ee_call {dv : List PV} {dvs : List V} {ds : List Value} (F : FnG X.prog X.w X.K X.mg X.base k f fd ps p) (hlen : LenP p ps.length) (hr : Room k X.A) (hgd : X.A.guards = some []) (tk : Takes X W) (hm : X.mg x = some (.ref f)) (hk : PySem.W.keepIn X.K (.ref f) = true) (hb : Binds X.K fd ps ds) (hd : Vals dvs ds) (hdv : ∀ H, Reps X.K H dv dvs)
    (ha : EA X W (e :: es) wa) (hg : Gl X x := by rfl) (hdb : (x == ("__debug__" : Str)) = false := by decide) (he : starEach (e :: es) X.env = (false, eval e X.env) :: starEach es X.env := by rfl) (hpl : (backTo pos (starEach es X.env)).any (·.1) = false := by rfl) :
    EE X W (.Call (.Name x pp) (e :: es) [] pos) (wCall p wa dv) := by
  refine ⟨mono_call F.mono ha.mono, ⟨fun pins s σ H Q I h => ?_⟩⟩
  obtain ⟨EP, sp, M, c, h⟩ := h
  refine wpAny_Call_Name_kw (ld_glob I hg hm ?_ hdb)
  have hA : upA X.K W wa σ H fun vs H1 => spOf X.K ps.length p (vs ++ dvs) H1 Q fun cl d H' => W cl d σ H' := by
    refine c.useA ha.mono h fun qs M1 vs H1 h1 S1 c1 r1 => ?_
    exact c1.sp S1 F.mono (hlen _ _ _ _ h1) (r1.append (hdv H1)) h1
  exact PySem.W.callWith_K (h₀ := X.base) I.ok.mod.kin hk (thn (ha.run.run pos pins s σ H _ I hA) fun us s1 ⟨vs, H1, I1, r, q⟩ => ⟨I1.kIn, run_fnG F hr hgd tk hb hd I1 r q⟩) he hpl
theorem ee_call0 {dv : List PV} {dvs : List V} {ds : List Value} (F : FnG X.prog X.w X.K X.mg X.base k f fd ps p) (hlen : LenP p ps.length) (hr : Room k X.A) (hgd : X.A.guards = some []) (tk : Takes X W) (hm : X.mg x = some (.ref f)) (hk : PySem.W.keepIn X.K (.ref f) = true) (hb : Binds X.K fd ps ds) (hd : Vals dvs ds) (hdv : ∀ H, Reps X.K H dv dvs)
    (hg : Gl X x := by rfl) (hdb : (x == ("__debug__" : Str)) = false := by decide) : EE X W (.Call (.Name x pp) [] [] pos) (wCall p wNil dv) := by
  refine ⟨mono_call F.mono (ea_nil (X := X) (W := W)).mono, ⟨fun pins s σ H Q I h => ?_⟩⟩
  obtain ⟨EP, sp, M, c, h⟩ := h
  refine wpAny_Call_Name_kw (ld_glob I hg hm ?_ hdb)
  refine PySem.W.callWith_K0 I.kIn hk (run_fnG (us := []) (vs := []) F hr hgd tk hb hd I .nil ?_)
  exact c.sp (.refl _ _) F.mono (hlen _ _ _ _ h) (hdv H) h
/-- f(a, .., k = b, ..) -/
structure EK (X : Cx) (W : WX) (kws : List Keyword) (w : WA) : Prop where
  mono : MonoA w
  run : PK X kws (upA X.K W w)
theorem ek_nil : EK X W [] wNil := ⟨fun _ _ _ _ _ k h => k _ _ h, ⟨fun pos pins s σ H Q I h => by
  obtain ⟨EP, sp, M, c, q⟩ := h
  exact pk_nil.run pos pins s σ H Q I (q [] H (.refl _ _) c.rh .nil)⟩⟩
theorem ek_cons {nm : Option Str} {kpos : Pos} {kws : List Keyword} {we : WE} {wr : WA} (ha : EE X W e we) (hr : EK X W kws wr) : EK X W (⟨nm, e, kpos⟩ :: kws) (wCons we wr) := by
  refine ⟨fun EP s M Q Q' k h => ha.mono _ _ _ _ _ (fun p M1 h1 => hr.mono _ _ _ _ _ (fun ps M2 h2 => k _ _ h2) h1) h, ⟨fun pos pins s σ H Q I h => (pk_cons ha.run hr.run).run pos pins s σ H Q I ?_⟩⟩
  obtain ⟨EP, s, M, c, h⟩ := h
  refine c.use ha.mono h fun p M1 v H1 h1 S1 c1 r1 => ?_
  refine c1.useA hr.mono h1 fun ps M2 vs H2 h2 S2 c2 r2 => ?_
  exact h2 (v :: vs) H2 (S1.trans S2) c2.rh (.cons (r1.tk (S2.tk c1.rh)) r2)
theorem ee_callK {n m : Nat} {ks : List Str} {kws : List Keyword} {wk : WA} {g : List Value → List Value → List Value} {gV : List V → List V → List V} {gP : List PV → List PV → List PV} (F : FnG X.prog X.w X.K X.mg X.base k f fd ps p) (hlen : LenP p ps.length) (hr : Room k X.A) (hgd : X.A.guards = some []) (tk : Takes X W) (hm : X.mg x = some (.ref f)) (hk : PySem.W.keepIn X.K (.ref f) = true) (hb : KBn X.K fd ps n ks g gV)
    (hgP : ∀ {H : Hp} {qs rs : List PV} {vs zs : List V}, Reps X.K H qs vs → Reps X.K H rs zs → Reps X.K H (gP qs rs) (gV vs zs)) (ha : EA X W (e :: es) wa) (hkw : EK X W kws wk)
    (hg : Gl X x := by rfl) (hall : (backToKw pos (keywordEach kws X.env)).all (·.1.isSome) = true := by rfl) (hks : (backToKw pos (keywordEach kws X.env)).filterMap (·.1) = ks := by rfl) (hdb : (x == ("__debug__" : Str)) = false := by decide) (he : starEach (e :: es) X.env = (false, eval e X.env) :: starEach es X.env := by rfl)
    (hpl : ((backTo pos (starEach (e :: es) X.env)).any (·.1) || (backToKw pos (keywordEach kws X.env)).any (·.1.isNone)) = false := by rfl) (hml : ks.length = m := by rfl) : EE X W (.Call (.Name x pp) (e :: es) kws pos) (wCallK p n m wa wk gP) := by
  subst hml
  refine ⟨fun EP s M Q Q' k h => ha.mono _ _ _ _ _ (fun ps M1 z => hkw.mono _ _ _ _ _ (fun qs M2 z2 => ⟨z2.1, z2.2.1, F.mono _ _ _ _ _ _ (fun v M' q => k _ _ q) (fun _ _ _ q => q) z2.2.2⟩) z) h, ⟨fun pins s σ H Q I h => ?_⟩⟩
  obtain ⟨EP, sp, M, c, h⟩ := h
  refine wpAny_Call_Name_kw (ld_glob I hg hm ?_ hdb)
  have hA : upA X.K W wa σ H fun vs H1 => upA X.K W wk σ H1 fun zs H2 => vs.length = n ∧ zs.length = ks.length ∧ spOf X.K ps.length p (gV vs zs) H2 Q fun cl d H' => W cl d σ H' := by
    refine c.useA ha.mono h fun qs M1 vs H1 h1 S1 c1 r1 => ?_
    refine c1.useA hkw.mono h1 fun rs M2 zs H2 h2 S2 c2 r2 => ?_
    exact ⟨by rw [← r1.length]; exact h2.1, by rw [← r2.length]; exact h2.2.1, c2.sp (S1.trans S2) F.mono (hlen _ _ _ _ h2.2.2) (hgP (r1.tk (S2.tk c1.rh)) r2) h2.2.2⟩
  refine PySem.W.callWith_KW (h₀ := X.base) I.ok.mod.kin hk hall (thn (ha.run.run pos pins s σ H _ I hA) fun us s1 ⟨vs, H1, I1, r, q⟩ => ?_) hpl he
  refine thn (hkw.run.run pos pins s1 σ H1 _ I1 q) fun ws s2 ⟨zs, H2, I2, rz, q2⟩ => ⟨I2.kIn, ?_⟩
  rw [hks]
  exact run_fnKG F hr hgd tk hb I2 r rz q2.1 q2.2.1 q2.2.2
/-- f(k = b, ..) -/
theorem ee_callK0 {m : Nat} {ks : List Str} {kws : List Keyword} {wk : WA} {g : List Value → List Value → List Value} {gV : List V → List V → List V} {gP : List PV → List PV → List PV} (F : FnG X.prog X.w X.K X.mg X.base k f fd ps p) (hlen : LenP p ps.length) (hr : Room k X.A) (hgd : X.A.guards = some []) (tk : Takes X W) (hm : X.mg x = some (.ref f)) (hk : PySem.W.keepIn X.K (.ref f) = true) (hb : KBn X.K fd ps 0 ks g gV)
    (hgP : ∀ {H : Hp} {qs rs : List PV} {vs zs : List V}, Reps X.K H qs vs → Reps X.K H rs zs → Reps X.K H (gP qs rs) (gV vs zs)) (hkw : EK X W kws wk)
    (hg : Gl X x := by rfl) (hall : (backToKw pos (keywordEach kws X.env)).all (·.1.isSome) = true := by rfl) (hks : (backToKw pos (keywordEach kws X.env)).filterMap (·.1) = ks := by rfl) (hdb : (x == ("__debug__" : Str)) = false := by decide)
    (hpl : ((backTo pos (starEach [] X.env)).any (·.1) || (backToKw pos (keywordEach kws X.env)).any (·.1.isNone)) = false := by rfl) (hml : ks.length = m := by rfl) : EE X W (.Call (.Name x pp) [] kws pos) (wCallK p 0 m wNil wk gP) := by
  subst hml
  refine ⟨fun EP s M Q Q' k h => hkw.mono _ _ _ _ _ (fun qs M2 z2 => ⟨z2.1, z2.2.1, F.mono _ _ _ _ _ _ (fun v M' q => k _ _ q) (fun _ _ _ q => q) z2.2.2⟩) h, ⟨fun pins s σ H Q I h => ?_⟩⟩
  obtain ⟨EP, sp, M, c, h⟩ := h
  refine wpAny_Call_Name_kw (ld_glob I hg hm ?_ hdb)
  have hA : upA X.K W wk σ H fun zs H2 => zs.length = ks.length ∧ spOf X.K ps.length p (gV [] zs) H2 Q fun cl d H' => W cl d σ H' := by
    refine c.useA hkw.mono h fun rs M2 zs H2 h2 S2 c2 r2 => ?_
    exact ⟨by rw [← r2.length]; exact h2.2.1, c2.sp S2 F.mono (hlen _ _ _ _ h2.2.2) (hgP .nil r2) h2.2.2⟩
  refine PySem.W.callWith_KW0 (h₀ := X.base) I.ok.mod.kin hk hall (thn (hkw.run.run pos pins s σ H _ I hA) fun ws s2 ⟨zs, H2, I2, rz, q2⟩ => ⟨I2.kIn, ?_⟩) hpl
  rw [hks]
  exact run_fnKG (us := []) (vs := []) F hr hgd tk hb I2 .nil rz rfl q2.1 q2.2
end
/-! how keywords bind, where there are no defaults -/
theorem kbn_of {K : Fg} {x qual : Str} {st : Stmt} {f : Addr} {fd : FuncData} {ps ks : List Str} {n : Nat} (F : Fun K x qual st f fd) (g : {α : Type} → List α → List α → List α)
    (h : ∀ (kV doc pm : Value) (an : Option Addr) (cdv ct : Value) (us ws : List Value), us.length = n → ws.length = ks.length → bindArgs (PySem.W.fnOf x qual (defArgs st) (defBody st) (defScope st) .none kV doc pm an cdv ct) ⟨us, ks.zip ws⟩ = pure (ps.zip (g us ws)))
    (hr : ∀ {vs : List V} {us : List Value} {zs : List V} {ws : List Value}, Vals vs us → Vals zs ws → Vals (g vs zs) (g us ws)) : KBn K fd ps n ks (fun us ws => g us ws) (fun vs zs => g vs zs) := by
  obtain ⟨oc, od, kV, doc, pm, an, cdv, ct, osl, rfl, lk, hcd⟩ := F.ex
  exact ⟨fun s us ws _ h1 h2 => .of_eq (h kV doc pm an cdv ct us ws h1 h2), hr⟩
end PL
set_option autoImplicit false
namespace PL
open PySem PySem.Spec L2
open PyProof.Rows hiding St

/-! ## plain data -/
mutual
def dat : PV → PyData
  | .non => .none
  | .bl b => .bool b
  | .int i => .int i
  | .str x => .str x
  | .tup xs => .tuple (dats xs)
  | .ref _ => .none
  | .ty _ => .none
  | .bx _ xs => .list (dats xs)
def dats : List PV → List PyData
  | [] => []
  | x :: xs => dat x :: dats xs
end
mutual
/-- no address within -/
def pur : PV → Bool
  | .ref _ => false
  | .ty _ => false
  | .bx _ _ => false
  | .tup xs => purs xs
  | _ => true
def purs : List PV → Bool
  | [] => true
  | x :: xs => pur x && purs xs
end
mutual
theorem dp_of {K : Fg} {H : Hp} : ∀ {p : PV} {v : V}, pur p = true → Rep K H p v → Dp K H v (dat p)
  | .non, _, _, h => by rw [Rep] at h; subst h; rw [dat]; exact .non
  | .bl b, _, _, h => by rw [Rep] at h; subst h; rw [dat]; exact .bl b
  | .int b, _, _, h => by rw [Rep] at h; subst h; rw [dat]; exact .int b
  | .str b, _, _, h => by rw [Rep] at h; subst h; rw [dat]; exact .str b
  | .ref _, _, z, _ => by rw [pur] at z; cases z
  | .ty _, _, z, _ => by rw [pur] at z; cases z
  | .bx _ _, _, z, _ => by rw [pur] at z; cases z
  | .tup xs, _, z, h => by
    rw [Rep] at h
    obtain ⟨a, vs, rfl, hs, r⟩ := h
    rw [pur] at z
    rw [dat]
    exact .tup hs (dps_of z r)
theorem dps_of {K : Fg} {H : Hp} : ∀ {ps : List PV} {vs : List V}, purs ps = true → Reps K H ps vs → DpAll K H vs (dats ps)
  | [], _, _, h => by rw [Reps] at h; subst h; rw [dats]; exact .nil
  | x :: xs, _, z, h => by
    rw [Reps] at h
    obtain ⟨v, r, rfl, h1, h2⟩ := h
    rw [purs, Bool.and_eq_true] at z
    rw [dats]
    exact .cons (dp_of z.1 h1) (dps_of z.2 h2)
end
/-- what data a value is: no address within, or a list of such -/
def datM (M : PH) (p : PV) : Option PyData := match p with
  | .ref a => match M a with
    | some (.lst xs) => if purs xs = true then some (.list (dats xs)) else none
    | _ => none
  | p => if pur p = true then some (dat p) else none
theorem datM_dp {K : Fg} {H : Hp} {M : PH} {p : PV} {v : V} {d : PyData} (rh : RepH K H M) (r : Rep K H p v) (h : datM M p = some d) : Dp K H v d := by
  cases p with
  | ref a =>
    rw [Rep] at r; subst r
    unfold datM at h
    dsimp only at h
    split at h
    · rename_i xs e
      split at h
      · rename_i hp
        cases h
        obtain ⟨vs, hv, rr⟩ := rh a _ e
        exact .lst (SqL.of hv) (dps_of hp rr)
      · cases h
    · cases h
  | ty n => simp [datM, pur] at h
  | bx k xs => simp [datM, pur] at h
  | non => simp [datM, pur] at h; subst h; exact dp_of rfl r
  | bl b => simp [datM, pur] at h; subst h; exact dp_of rfl r
  | int b => simp [datM, pur] at h; subst h; exact dp_of rfl r
  | str b => simp [datM, pur] at h; subst h; exact dp_of rfl r
  | tup xs =>
    unfold datM at h
    dsimp only at h
    split at h
    · rename_i hp; cases h; exact dp_of hp r
    · cases h
/-- small enough to be looked at -/
def shp (d : PyData) : Bool := SeqAt.shaped d

/-! ## two-place operators -/
theorem lift_or {K : Fg} {r : PR2} {r0 r1 : R2} (h : Lift2 K r r0) : Lift2 K r (fun x y H Q => r0 x y H Q ∨ r1 x y H Q) := fun rh rx ry q => .inl (h rh rx ry q)
def rAdd : PR2 := fun x y M Q => match x, y with
  | .int i, .int j => Q (.int (i + j)) M
  | .str i, .str j => i.length + j.length ≤ sizeLine ∧ Q (.str (i ++ j)) M
  | .tup xs, .tup ys => xs.length + ys.length ≤ sizeLine ∧ Q (.tup (xs ++ ys)) M
  | .ref a, .ref b => ∃ xs ys, M a = some (.lst xs) ∧ M b = some (.lst ys) ∧ xs.length + ys.length ≤ sizeLine ∧ ∀ D, ¬ Wr M D → Q (.ref D) (pupd M D (.lst (xs ++ ys)))
  | _, _ => False
def r0Add (K : Fg) : R2 := fun x y H Q => (((rI0 fun i j => .int (i + j)) x y H Q ∨ ∃ i j, x = .str i ∧ y = .str j ∧ i.length + j.length ≤ sizeLine ∧ Q (.str (i ++ j)) H) ∨ rCatA K x y H Q) ∨ rCat x y H Q
theorem op_add' {X : Cx} : OpR X (binaryOp .Add) (r0Add X.K) := OpR.or (OpR.or (OpR.or op_add op_add_str) op_catA) op_cat
theorem notup_none {H : Hp} {a : Addr} (h : H a = none) : (∀ xs, H a ≠ some (.tup xs)) ∧ ∀ o xs, H a ≠ some (.frz o xs) := by
  rw [h]; exact ⟨fun _ z => (by cases z), fun _ _ z => (by cases z)⟩
/-- a new list is laid -/
theorem dn_newlist {K : Fg} {M : PH} {H : Hp} {Q : VK} {xs : List PV} {vs : List V} (rh : RepH K H M) (r : Reps K H xs vs) (h : ∀ D, ¬ Wr M D → Dn K M H Q (.ref D) (pupd M D (.lst xs))) : ∀ p, H p = none → Q (.ref p) (upd H p (.lst vs)) := fun p hp =>
  h p (rh.free hp) (.ref p) _ (Step.new hp) (rh.upd_both (notup_none hp) ⟨vs, upd_same, r.tk (tk_new hp)⟩) (by rw [Rep])
theorem dn_newtup {K : Fg} {M : PH} {H : Hp} {Q : VK} {xs : List PV} {vs : List V} (rh : RepH K H M) (r : Reps K H xs vs) (h : Dn K M H Q (.tup xs) M) : ∀ p, H p = none → Q (.ref p) (upd H p (.tup vs)) := fun p hp =>
  h (.ref p) _ (Step.hidden hp) (rh.upd_free hp) (by rw [Rep]; exact ⟨p, vs, rfl, SqT.of upd_same, r.tk (tk_new hp)⟩)
theorem dn_here {K : Fg} {M : PH} {H : Hp} {Q : VK} {p : PV} {v : V} (rh : RepH K H M) (r : Rep K H p v) (h : Dn K M H Q p M) : Q v H := h v H (.refl _ _) rh r
theorem mono_add : Mono2 rAdd := by
  intro x y M Q Q' k h
  unfold rAdd at h ⊢
  split at h
  · exact k _ _ h
  · exact ⟨h.1, k _ _ h.2⟩
  · exact ⟨h.1, k _ _ h.2⟩
  · obtain ⟨xs, ys, a, b, c, d⟩ := h
    exact ⟨xs, ys, a, b, c, fun D n => k _ _ (d D n)⟩
  · exact h
theorem Reps.nil_iff {K : Fg} {H : Hp} {ps : List PV} {vs : List V} (r : Reps K H ps vs) : vs = [] ↔ ps = [] := by
  have := r.length
  cases ps <;> cases vs <;> simp_all
theorem lift_add {K : Fg} : Lift2 K rAdd (r0Add K) := by
  intro M H x y v u Q rh rx ry h
  unfold rAdd at h
  split at h
  · rw [Rep] at rx ry; exact .inl (.inl (.inl ⟨_, _, rx, ry, dn_here rh (by rw [Rep]) h⟩))
  · rw [Rep] at rx ry; exact .inl (.inl (.inr ⟨_, _, rx, ry, h.1, dn_here rh (by rw [Rep]) h.2⟩))
  · rename_i xs ys
    have rx0 := rx
    have ry0 := ry
    rw [Rep] at rx ry
    obtain ⟨a, vs, rfl, hs, r1⟩ := rx
    obtain ⟨b, us, rfl, ht, r2⟩ := ry
    refine .inl (.inr ⟨a, b, vs, us, rfl, rfl, hs, ht, by rw [← r1.length, ← r2.length]; exact h.1, fun e => ?_, fun _ e => ?_, fun _ _ => dn_newtup rh (r1.append r2) h.2⟩)
    · have e1 : xs = [] := r1.nil_iff.mp e
      subst e1
      exact h.2 _ H (.refl _ _) rh ry0
    · have e1 : ys = [] := r2.nil_iff.mp e
      subst e1
      exact h.2 _ H (.refl _ _) rh (by rw [List.append_nil]; exact rx0)
  · rw [Rep] at rx ry
    obtain ⟨xs, ys, e1, e2, hz, q⟩ := h
    obtain ⟨vs, hv, r1⟩ := rh _ _ e1
    obtain ⟨us, hu, r2⟩ := rh _ _ e2
    exact .inr ⟨_, _, vs, us, rx, ry, hv, hu, by rw [← r1.length, ← r2.length]; exact hz, dn_newlist rh (r1.append r2) q⟩
  · exact h.elim
/-- ints -/
def rInt (C : Int → Int → Prop) (g : Int → Int → PV) : PR2 := fun x y M Q => match x, y with
  | .int i, .int j => C i j ∧ Q (g i j) M
  | _, _ => False
theorem mono_int {C : Int → Int → Prop} {g : Int → Int → PV} : Mono2 (rInt C g) := by
  intro x y M Q Q' k h
  unfold rInt at h ⊢
  split at h
  · exact ⟨h.1, k _ _ h.2⟩
  · exact h
theorem lift_int {K : Fg} {C : Int → Int → Prop} {g : Int → Int → PV} {g0 : Int → Int → V} (e : ∀ H i j, Rep K H (g i j) (g0 i j)) : Lift2 K (rInt C g) (rI C g0) := by
  intro M H x y v u Q rh rx ry h
  unfold rInt at h
  split at h
  · rw [Rep] at rx ry; exact ⟨_, _, rx, ry, h.1, dn_here rh (e _ _ _) h.2⟩
  · exact h.elim
theorem lift_int0 {K : Fg} {g : Int → Int → PV} {g0 : Int → Int → V} (e : ∀ H i j, Rep K H (g i j) (g0 i j)) : Lift2 K (rInt (fun _ _ => True) g) (rI0 g0) := by
  intro M H x y v u Q rh rx ry h
  unfold rInt at h
  split at h
  · rw [Rep] at rx ry; exact ⟨_, _, rx, ry, dn_here rh (e _ _ _) h.2⟩
  · exact h.elim
def rSub : PR2 := rInt (fun _ _ => True) fun i j => .int (i - j)
theorem lift_sub {K : Fg} : Lift2 K rSub (rI0 fun i j => .int (i - j)) := lift_int0 fun _ _ _ => by rw [Rep]
def rMod : PR2 := rInt (fun _ j => j ≠ 0) fun i j => .int (i.fmod j)
theorem lift_mod {K : Fg} : Lift2 K rMod (rI (fun _ j => j ≠ 0) fun i j => .int (i.fmod j)) := lift_int fun _ _ _ => by rw [Rep]
def rFdiv : PR2 := rInt CDivN fun i j => .int (i.fdiv j)
theorem lift_fdiv {K : Fg} : Lift2 K rFdiv (rI CDivN fun i j => .int (i.fdiv j)) := lift_int fun _ _ _ => by rw [Rep]
def rPow : PR2 := rInt CPow fun i j => .int (i ^ j.toNat)
theorem lift_pow {K : Fg} : Lift2 K rPow (rI CPow fun i j => .int (i ^ j.toNat)) := lift_int fun _ _ _ => by rw [Rep]
/-! multiplication: ints, a tuple by an int -/
theorem tuple_mul1 (l : Addr) (items : Array Value) (n : Nat) (dd : Option Addr) (sl : Array (Option Value)) (u : Tok) (hi : items.isEmpty = false) :
    Meets (Builtin.«tuple.__mul__» ⟨[.ref l, .int 1 u], []⟩) (fun _ R s => s.heap.get? l = some { cls := .type "tuple", dict := dd, data := .seq items n, slots := sl } ∧ R (.ok (.ret (Value.ref l))) s) :=
  .of_wp fun prog w A R s h => by
    obtain ⟨hp, g, d, tk, os⟩ := s
    obtain ⟨hl, h⟩ := h
    have f1 := AutoSeq1.idx_int
    wp_walk using AutoSeq1.wpAny_loadPart' hl
    repeat (first
      | (refine wpAny_ite_true (decide_eq_true (by simp)) ?_; wp_walk using AutoSeq1.wpAny_loadPart' hl)
      | (refine wpAny_ite_false (decide_eq_false (by simp)) ?_; wp_walk using AutoSeq1.wpAny_loadPart' hl))
    exact ⟨_, rfl, h⟩
end PL
set_option autoImplicit false
namespace PL
open PySem PySem.Spec L2
open PyProof.Rows hiding St
section
variable {X : Cx}
/-- t * 1 -/
def r0Rep1 (K : Fg) : R2 := fun x y H Q => ∃ l xs, x = .ref l ∧ y = .int 1 ∧ SqT K H l xs ∧ xs ≠ [] ∧ Q (.ref l) H
theorem op_rep1 : OpR X (binaryOp .Mult) (r0Rep1 X.K) := by
  intro pins s σ H x y v u Q I rx ry h
  obtain ⟨l, xs, rfl, rfl, hT, hne, q⟩ := h
  cases rx
  obtain ⟨t, rfl⟩ := ry
  obtain ⟨its, r, ⟨⟨cls, dd, data, sl⟩, ho, hc, n, hd⟩, hs⟩ := I.tuple hT
  simp only at hc hd
  subst hc hd
  have hi : its.toArray.isEmpty = false := by
    cases its with
    | nil => exact absurd r.length (by cases xs <;> simp_all)
    | cons a b => rfl
  refine wpAny_binaryOp_repeat_ref (T := "tuple") (U := "int") (by decide) ⟨_, ho, rfl⟩ (fun s' => typeIs_int s' 1 t) noFill_tuple_mul F.fills_int_mul F.slot_int_rmul repeat_tuple F.slot_int_index.lookup
    (call_meets F.slot_int_rmul (typeIs_int s 1 t) F.entry_int_rmul (F.args_int_rmul_2 _ _) (int_rmul_tuple 1 t l its.toArray n dd sl)
      ⟨ho, rfl, ⟨_, ho, rfl⟩, call_meets F.slot_tuple_mul ⟨_, ho, rfl⟩ F.entry_tuple_mul (F.args_tuple_mul_2 _ _) (tuple_mul1 l its.toArray n dd sl t hi) ⟨ho, ?_⟩⟩)
  exact ⟨.ref l, H, I, rfl, q⟩
end
def rMul : PR2 := fun x y M Q => match x, y with
  | .int i, .int j => CMul i j ∧ Q (.int (i * j)) M
  | .tup xs, .int k => xs ≠ [] ∧ 1 ≤ k ∧ k ≤ 1000 ∧ xs.length ≤ 1000 ∧ Q (.tup (List.replicate k.toNat xs).flatten) M
  | _, _ => False
def r0Mul (K : Fg) : R2 := fun x y H Q => ((rI CMul fun i j => .int (i * j)) x y H Q ∨ rRepT K x y H Q) ∨ r0Rep1 K x y H Q
theorem op_mul' {X : Cx} : OpR X (binaryOp .Mult) (r0Mul X.K) := OpR.or (OpR.or op_mul op_repT) op_rep1
theorem mono_mul : Mono2 rMul := by
  intro x y M Q Q' k h
  unfold rMul at h ⊢
  split at h
  · exact ⟨h.1, k _ _ h.2⟩
  · exact ⟨h.1, h.2.1, h.2.2.1, h.2.2.2.1, k _ _ h.2.2.2.2⟩
  · exact h
theorem lift_mul {K : Fg} : Lift2 K rMul (r0Mul K) := by
  intro M H x y v u Q rh rx ry h
  unfold rMul at h
  split at h
  · rw [Rep] at rx ry; exact .inl (.inl ⟨_, _, rx, ry, h.1, dn_here rh (by rw [Rep]) h.2⟩)
  · rename_i xs k
    have rx0 := rx
    rw [Rep] at rx
    rw [Rep] at ry
    obtain ⟨a, vs, rfl, hs, r1⟩ := rx
    subst ry
    obtain ⟨h1, h2, h3, h4, q⟩ := h
    have hne : vs ≠ [] := fun e => h1 (r1.nil_iff.mp e)
    by_cases hk : k = 1
    · subst hk
      refine .inr ⟨a, vs, rfl, rfl, hs, hne, ?_⟩
      have e : (List.replicate (1 : Int).toNat xs).flatten = xs := by simp
      rw [e] at q
      exact dn_here rh rx0 q
    · exact .inl (.inr ⟨a, k, vs, rfl, rfl, hs, hne, by omega, h3, by rw [← r1.length]; exact h4, dn_newtup rh (r1.rep k.toNat) q⟩)
  · exact h.elim
/-! ## comparisons -/
def rLt : PR2 := fun x y M Q => match x, y with
  | .int i, .int j => Q (.bl (decide (i < j))) M
  | .str i, .str j => Q (.bl (decide (i.cps.toList < j.cps.toList))) M
  | _, _ => False
def r0Lt : R2 := fun x y H Q => (rI0 fun i j => .bl (decide (i < j))) x y H Q ∨ ∃ i j, x = .str i ∧ y = .str j ∧ Q (.bl (decide (i.cps.toList < j.cps.toList))) H
theorem op_lt' {X : Cx} : OpR X (compareOp .Lt) r0Lt := OpR.or op_lt op_lt_str
theorem mono_lt : Mono2 rLt := by
  intro x y M Q Q' k h
  unfold rLt at h ⊢
  split at h
  · exact k _ _ h
  · exact k _ _ h
  · exact h
theorem lift_lt {K : Fg} : Lift2 K rLt r0Lt := by
  intro M H x y v u Q rh rx ry h
  unfold rLt at h
  split at h
  · rw [Rep] at rx ry; exact .inl ⟨_, _, rx, ry, dn_here rh (by rw [Rep]) h⟩
  · rw [Rep] at rx ry; exact .inr ⟨_, _, rx, ry, dn_here rh (by rw [Rep]) h⟩
  · exact h.elim
def rLe : PR2 := rInt (fun _ _ => True) fun i j => .bl (decide (i ≤ j))
theorem lift_le {K : Fg} : Lift2 K rLe (rI0 fun i j => .bl (decide (i ≤ j))) := lift_int0 fun _ _ _ => by rw [Rep]
def rGt : PR2 := rInt (fun _ _ => True) fun i j => .bl (decide (j < i))
theorem lift_gt {K : Fg} : Lift2 K rGt (rI0 fun i j => .bl (decide (j < i))) := lift_int0 fun _ _ _ => by rw [Rep]
def rGe : PR2 := rInt (fun _ _ => True) fun i j => .bl (decide (j ≤ i))
theorem lift_ge {K : Fg} : Lift2 K rGe (rI0 fun i j => .bl (decide (j ≤ i))) := lift_int0 fun _ _ _ => by rw [Rep]
/-- == and != of data -/
def rEq : PR2 := fun x y M Q => match x, y with
  | .str i, .str j => Q (.bl (decide (i = j))) M
  | x, y => match datM M x, datM M y with
    | some d, some e => shp d = true ∧ shp e = true ∧ Q (.bl (PyData.eqv d e)) M
    | _, _ => False
def rNe : PR2 := fun x y M Q => match x, y with
  | .str i, .str j => Q (.bl (!decide (i = j))) M
  | x, y => match datM M x, datM M y with
    | some d, some e => shp d = true ∧ shp e = true ∧ Q (.bl (!PyData.eqv d e)) M
    | _, _ => False
theorem mono_eq : Mono2 rEq := by
  intro x y M Q Q' k h
  unfold rEq at h ⊢
  split at h
  · exact k _ _ h
  · split at h
    · exact ⟨h.1, h.2.1, k _ _ h.2.2⟩
    · exact h
theorem mono_ne : Mono2 rNe := by
  intro x y M Q Q' k h
  unfold rNe at h ⊢
  split at h
  · exact k _ _ h
  · split at h
    · exact ⟨h.1, h.2.1, k _ _ h.2.2⟩
    · exact h
def r0Eq (K : Fg) : R2 := fun x y H Q => rEqD K x y H Q ∨ L2.rEq x y H Q
def r0Ne (K : Fg) : R2 := fun x y H Q => rNeD K x y H Q ∨ L2.rNe x y H Q
theorem op_eq' {X : Cx} (hu : X.A.units + 64 < cLine) : OpR X (compareOp .Eq) (r0Eq X.K) := OpR.or (op_eqD hu) op_eq
theorem op_ne' {X : Cx} (hu : X.A.units + 64 < cLine) : OpR X (compareOp .NotEq) (r0Ne X.K) := OpR.or (op_neD hu) op_ne
theorem lift_eq {K : Fg} : Lift2 K rEq (r0Eq K) := by
  intro M H x y v u Q rh rx ry h
  unfold rEq at h
  split at h
  · rw [Rep] at rx
    rw [Rep] at ry
    subst rx ry
    refine .inr ⟨rfl, ?_⟩
    have e : ∀ i j : Str, decide (V.str i = V.str j) = decide (i = j) := fun i j => by simp
    rw [e]
    exact dn_here rh (by rw [Rep]) h
  · split at h
    · rename_i d e e1 e2
      exact .inl ⟨d, e, datM_dp rh rx e1, datM_dp rh ry e2, h.1, h.2.1, dn_here rh (by rw [Rep]) h.2.2⟩
    · exact h.elim
theorem lift_ne {K : Fg} : Lift2 K rNe (r0Ne K) := by
  intro M H x y v u Q rh rx ry h
  unfold rNe at h
  split at h
  · rw [Rep] at rx
    rw [Rep] at ry
    subst rx ry
    refine .inr ⟨rfl, ?_⟩
    have e : ∀ i j : Str, decide (V.str i = V.str j) = decide (i = j) := fun i j => by simp
    rw [e]
    exact dn_here rh (by rw [Rep]) h
  · split at h
    · rename_i d e e1 e2
      exact .inl ⟨d, e, datM_dp rh rx e1, datM_dp rh ry e2, h.1, h.2.1, dn_here rh (by rw [Rep]) h.2.2⟩
    · exact h.elim
/-- is None, is not None -/
def rIs : PR2 := fun x y M Q => match y with
  | .non => match x with
    | .non => Q (.bl true) M
    | _ => Q (.bl false) M
  | _ => False
def rIsN : PR2 := fun x y M Q => match y with
  | .non => match x with
    | .non => Q (.bl false) M
    | _ => Q (.bl true) M
  | _ => False
theorem mono_is : Mono2 rIs := by
  intro x y M Q Q' k h
  cases y <;> try exact h
  cases x <;> exact k _ _ h
theorem mono_isN : Mono2 rIsN := by
  intro x y M Q Q' k h
  cases y <;> try exact h
  cases x <;> exact k _ _ h
theorem rep_non {K : Fg} {H : Hp} {p : PV} {v : V} (r : Rep K H p v) : v = .non ↔ p = .non := by
  cases p with
  | tup xs => rw [Rep] at r; obtain ⟨a, vs, rfl, _⟩ := r; simp
  | bx k xs => rw [Rep] at r; exact r.elim
  | _ => rw [Rep] at r; subst r; simp
theorem lift_is {K : Fg} : Lift2 K rIs (fun x y H Q => y = .non ∧ Q (.bl (decide (x = .non))) H) := by
  intro M H x y v u Q rh rx ry h
  cases y <;> try exact h.elim
  rw [Rep] at ry
  refine ⟨ry, ?_⟩
  have e := rep_non rx
  cases x <;> (simp at e; simp only [e, decide_true, decide_false]; exact dn_here rh (by rw [Rep]) h)
theorem lift_isN {K : Fg} : Lift2 K rIsN (fun x y H Q => y = .non ∧ Q (.bl (!decide (x = .non))) H) := by
  intro M H x y v u Q rh rx ry h
  cases y <;> try exact h.elim
  rw [Rep] at ry
  refine ⟨ry, ?_⟩
  have e := rep_non rx
  cases x <;> (simp at e; simp only [e, decide_true, decide_false, Bool.not_true, Bool.not_false]; exact dn_here rh (by rw [Rep]) h)
/-! in, not in -/
section
variable {X : Cx}
def r0InT (K : Fg) (neg : Bool) : R2 := fun x y H Q => ∃ d ds, Dp K H x d ∧ Dp K H y (.tuple ds) ∧ SeqAt.shaped d = true ∧ SeqAt.shaped (.tuple ds) = true ∧ Q (.bl (if neg then !ds.any (fun z => PyData.eqv z d) else ds.any fun z => PyData.eqv z d)) H
theorem op_inT (hu : X.A.units + 65 < cLine) : OpR X (compareOp .In) (r0InT X.K false) := by
  intro pins s σ H x y v u Q I rx ry h
  obtain ⟨d, ds, hd, he, sd, se, q⟩ := h
  obtain ⟨as, r1⟩ := Dp.reads I d x v hd rx
  obtain ⟨bs, r2⟩ := Dp.reads I (.tuple ds) y u he ry
  exact SeqAt.in_tuple_reads r2 r1 (SeqAt.canLay_of_shaped se) (SeqAt.canLay_of_shaped sd) (room_in_shaped sd hu) ⟨.bl _, H, I, rfl, q⟩
theorem op_notInT (hu : X.A.units + 65 < cLine) : OpR X (compareOp .NotIn) (r0InT X.K true) := by
  intro pins s σ H x y v u Q I rx ry h
  obtain ⟨d, ds, hd, he, sd, se, q⟩ := h
  obtain ⟨as, r1⟩ := Dp.reads I d x v hd rx
  obtain ⟨bs, r2⟩ := Dp.reads I (.tuple ds) y u he ry
  exact SeqAt.notIn_tuple_reads r2 r1 (SeqAt.canLay_of_shaped se) (SeqAt.canLay_of_shaped sd) (room_in_shaped sd hu) ⟨.bl _, H, I, rfl, q⟩
end
/-- whether one text stands within another -/
def inStr (i j : Str) : Bool := !(Builtin.Str.occurrences j i 0 j.length 1).isEmpty
def dKeyOf : PV → Option Key
  | .int i => some (.inl i)
  | .str x => some (.inr x)
  | _ => none
def hasK {α : Type} (kvs : List (Key × α)) (k : Key) : Bool := kvs.any fun kv => decide (kv.1 = k)
def rInG (neg : Bool) : PR2 := fun x y M Q => match y with
  | .str j => match x with
    | .str i => Q (.bl (if neg then !inStr i j else inStr i j)) M
    | _ => False
  | .ref a => match M a with
    | some (.dK kvs) => match dKeyOf x with
      | some k => Q (.bl (if neg then !hasK kvs k else hasK kvs k)) M
      | none => False
    | _ => match datM M x, datM M y with
      | some d, some (.list ds) => shp d = true ∧ shp (.list ds) = true ∧ Q (.bl (if neg then !ds.any (fun z => PyData.eqv z d) else ds.any fun z => PyData.eqv z d)) M
      | _, _ => False
  | y => match datM M x, datM M y with
    | some d, some (.tuple ds) => shp d = true ∧ shp (.tuple ds) = true ∧ Q (.bl (if neg then !ds.any (fun z => PyData.eqv z d) else ds.any fun z => PyData.eqv z d)) M
    | _, _ => False
theorem mono_in {neg : Bool} : Mono2 (rInG neg) := by
  intro x y M Q Q' k h
  unfold rInG at h ⊢
  split at h
  · split at h
    · exact k _ _ h
    · exact h
  · split at h
    · split at h
      · exact k _ _ h
      · exact h
    · split at h
      · exact ⟨h.1, h.2.1, k _ _ h.2.2⟩
      · exact h
  · split at h
    · exact ⟨h.1, h.2.1, k _ _ h.2.2⟩
    · exact h
end PL
set_option autoImplicit false
namespace PL
open PySem PySem.Spec L2
open PyProof.Rows hiding St

/-! ## in, not in -/
def r0In (K : Fg) (neg : Bool) : R2 := fun x y H Q =>
  (((∃ i j, x = .str i ∧ y = .str j ∧ Q (.bl (if neg then !inStr i j else inStr i j)) H) ∨ (∃ a ov, y = .ref a ∧ DGet H a x ov ∧ Q (.bl (if neg then !ov.isSome else ov.isSome)) H)) ∨
    (∃ d ds, Dp K H x d ∧ Dp K H y (.list ds) ∧ SeqAt.shaped d = true ∧ SeqAt.shaped (.list ds) = true ∧ Q (.bl (if neg then !ds.any (fun z => PyData.eqv z d) else ds.any fun z => PyData.eqv z d)) H)) ∨ r0InT K neg x y H Q
section
variable {X : Cx}
theorem op_in' (hu : X.A.units + 65 < cLine) : OpR X (compareOp .In) (r0In X.K false) := by
  refine OpR.or (OpR.or (OpR.or op_in_str ?_) (op_inD hu)) (op_inT hu)
  intro pins s σ H x y v u Q I rx ry h
  obtain ⟨a, ov, rfl, g, q⟩ := h
  cases ry
  exact d_in (by omega) I g rx fun s' I' => ⟨.bl _, H, I', rfl, q⟩
theorem op_notin' (hu : X.A.units + 65 < cLine) : OpR X (compareOp .NotIn) (r0In X.K true) := by
  refine OpR.or (OpR.or (OpR.or op_notin_str ?_) (op_notInD hu)) (op_notInT hu)
  intro pins s σ H x y v u Q I rx ry h
  obtain ⟨a, ov, rfl, g, q⟩ := h
  cases ry
  exact d_notIn (by omega) I g rx fun s' I' => ⟨.bl _, H, I', rfl, q⟩
end
theorem rep_key {K : Fg} {H : Hp} {p : PV} {v : V} {k : Key} (r : Rep K H p v) (h : dKeyOf p = some k) : v = kV k := by
  cases p <;> simp [dKeyOf] at h <;> subst h <;> rw [Rep] at r <;> subst r <;> rfl
theorem valV_rep {K : Fg} {H : Hp} {kvs : List (Key × PV)} {vs : List (Key × V)} (r : RepK K H kvs vs) (k : Key) : (valV vs k).isSome = hasK kvs k := by
  have e : kvs.map (·.1) = vs.map (·.1) := r.1
  have h1 : ∀ {α : Type} (l : List (Key × α)), (l.any fun kv => decide (kv.1 = k)) = (l.map (·.1)).any fun x => decide (x = k) := fun l => by rw [List.any_map]; rfl
  rw [← valV_any, hasK, h1, h1, e]
theorem lift_in {K : Fg} {neg : Bool} : Lift2 K (rInG neg) (r0In K neg) := by
  intro M H x y v u Q rh rx ry h
  unfold rInG at h
  split at h
  · split at h
    · rw [Rep] at rx
      rw [Rep] at ry
      exact .inl (.inl (.inl ⟨_, _, rx, ry, dn_here rh (by rw [Rep]) h⟩))
    · exact h.elim
  · split at h
    · rename_i e
      split at h
      · rename_i k ek
        obtain ⟨vs, hv, rr⟩ := rh _ _ e
        rw [Rep] at ry
        have ev := rep_key rx ek
        refine .inl (.inl (.inr ⟨_, valV vs k, ry, by rw [ev]; exact DGet.k hv, ?_⟩))
        rw [valV_rep rr]
        exact dn_here rh (by rw [Rep]) h
      · exact h.elim
    · split at h
      · rename_i d ds e1 e2
        exact .inl (.inr ⟨d, ds, datM_dp rh rx e1, datM_dp rh ry e2, h.1, h.2.1, dn_here rh (by rw [Rep]) h.2.2⟩)
      · exact h.elim
  · split at h
    · rename_i d ds e1 e2
      exact .inr ⟨d, ds, datM_dp rh rx e1, datM_dp rh ry e2, h.1, h.2.1, dn_here rh (by rw [Rep]) h.2.2⟩
    · exact h.elim
/-! ## subscripts, slices -/
def listAt (M : PH) (a : Addr) : Option (List PV) := match M a with
  | some (.lst xs) => some xs
  | some (.rol xs) => some xs
  | _ => none
def seqAt (M : PH) (p : PV) : Option (List PV) := match p with
  | .tup xs => some xs
  | .ref a => listAt M a
  | _ => none
theorem listAt_rd {K : Fg} {H : Hp} {M : PH} {a : Addr} {xs : List PV} (rh : RepH K H M) (h : listAt M a = some xs) : ∃ vs, Reps K H xs vs ∧ SqL K H a vs := by
  unfold listAt at h
  split at h
  · rename_i e
    cases h
    obtain ⟨vs, hv, rr⟩ := rh _ _ e
    exact ⟨vs, rr, SqL.of hv⟩
  · rename_i e
    cases h
    obtain ⟨vs, hv, rr⟩ := rh _ _ e
    refine ⟨vs, rr, ?_⟩
    rcases hv with ⟨o, hv⟩ | hv
    · exact .inl (.inr ⟨o, hv⟩)
    · exact .inr hv
  · cases h
def rIxP : PR2 := fun x y M Q => match y with
  | .int i => match x with
    | .str z => z.length ≤ sizeLine ∧ match atI z.cps.toList i with
      | some c => Q (.str ⟨#[c]⟩) M
      | none => False
    | x => match seqAt M x with
      | some xs => match atI xs i with
        | some p => Q p M
        | none => False
      | none => False
  | _ => False
theorem mono_ix : Mono2 rIxP := by
  intro x y M Q Q' k h
  unfold rIxP at h ⊢
  split at h
  · split at h
    · refine ⟨h.1, ?_⟩
      have h2 := h.2
      split at h2
      · exact k _ _ h2
      · exact h2
    · split at h
      · rename_i e
        split at h
        · rename_i e2; exact k _ _ h
        · exact h
      · exact h
  · exact h
theorem seqAt_rd {K : Fg} {H : Hp} {M : PH} {p : PV} {v : V} {xs : List PV} (rh : RepH K H M) (r : Rep K H p v) (h : seqAt M p = some xs) : ∃ a vs, v = .ref a ∧ Reps K H xs vs ∧ (SqL K H a vs ∨ SqT K H a vs) := by
  unfold seqAt at h
  split at h
  · cases h
    rw [Rep] at r
    obtain ⟨a, vs, e, hs, rr⟩ := r
    exact ⟨a, vs, e, rr, .inr hs⟩
  · rw [Rep] at r
    obtain ⟨vs, rr, hs⟩ := listAt_rd rh h
    exact ⟨_, vs, r, rr, .inl hs⟩
  · cases h
theorem atI_rep {K : Fg} {H : Hp} {xs : List PV} {vs : List V} (r : Reps K H xs vs) {i : Int} {p : PV} (h : atI xs i = some p) : ∃ v, atI vs i = some v ∧ Rep K H p v := by
  unfold atI at h ⊢
  rw [← r.length]
  cases e : ixN xs.length i with
  | none => rw [e] at h; cases h
  | some j =>
    rw [e] at h
    exact r.get h
theorem lift_ix {K : Fg} : Lift2 K rIxP (rIx K) := by
  intro M H x y v u Q rh rx ry h
  unfold rIxP at h
  split at h
  · rw [Rep] at ry
    split at h
    · rw [Rep] at rx
      have h2 := h.2
      split at h2
      · rename_i e
        exact .inr (.inr ⟨_, _, _, rx, ry, h.1, e, dn_here rh (by rw [Rep]) h2⟩)
      · exact h2.elim
    · split at h
      · rename_i xs e
        split at h
        · rename_i p e2
          obtain ⟨a, vs, e3, rr, hs⟩ := seqAt_rd rh rx e
          obtain ⟨w, e4, rw'⟩ := atI_rep rr e2
          rcases hs with hs | hs
          · exact .inl ⟨a, vs, _, w, e3, ry, hs, e4, dn_here rh rw' h⟩
          · exact .inr (.inl ⟨a, vs, _, w, e3, ry, hs, e4, dn_here rh rw' h⟩)
        · exact h.elim
      · exact h.elim
  · exact h.elim
theorem ee_ix {X : Cx} {W : WX} {a b : Expr} {wa wb : WE} {pos : Pos} (ha : EE X W a wa) (hb : EE X W b wb) (hs : PlainIx b := by exact fun _ _ => rfl) : EE X W (.Subscript a b pos) (wOp rIxP wa wb) :=
  ⟨mono_op mono_ix ha.mono hb.mono, pe_weak (pe_ix ix_seq ha.run hb.run hs) (up_op mono_ix lift_ix ha.mono hb.mono)⟩
/-- a[lo:hi] -/
abbrev WO := PX → PSt → PH → (Option Int → PH → Prop) → Prop
def MonoO (w : WO) : Prop := ∀ EP s M Q Q', (∀ p M', Q p M' → Q' p M') → w EP s M Q → w EP s M Q'
def upO (K : Fg) (W : WX) (w : WO) : TO := fun σ H Q => ∃ EP s M, Cur K W EP s M σ H ∧ w EP s M fun o M' => ∀ H', Step M H M' H' → RepH K H' M' → Q o H'
structure EO (X : Cx) (W : WX) (e : Option Expr) (w : WO) : Prop where
  mono : MonoO w
  run : L2.PO X e (upO X.K W w)
def wNoP : WO := fun _ _ M Q => Q none M
def wPt (e : WE) : WO := fun EP s M Q => e EP s M fun p M1 => match p with
  | .int i => Q (some i) M1
  | _ => False
theorem po_weak {X : Cx} {e : Option Expr} {t t' : TO} (h : L2.PO X e t) (k : ∀ σ H Q, t' σ H Q → t σ H Q) : L2.PO X e t' := ⟨fun pins s σ H Q I q => h.run pins s σ H Q I (k _ _ _ q)⟩
theorem eo_none {X : Cx} {W : WX} : EO X W none wNoP := ⟨fun _ _ _ _ _ k h => k _ _ h, po_weak po_none fun σ H Q h => by
  obtain ⟨EP, s, M, c, h⟩ := h
  exact h H (.refl _ _) c.rh⟩
theorem eo_some {X : Cx} {W : WX} {e : Expr} {w : WE} (h : EE X W e w) : EO X W (some e) (wPt w) := by
  refine ⟨fun EP s M Q Q' k q => h.mono _ _ _ _ _ (fun p M1 z => by
    cases p with
    | int i => exact k _ _ z
    | _ => exact z) q, po_weak (po_some h.run) ?_⟩
  rintro σ H Q ⟨EP, s, M, c, q⟩
  refine c.use h.mono q fun p M1 v H1 h1 S c1 r => ?_
  cases p with
  | int i => rw [Rep] at r; exact ⟨i, r, h1 H1 S c1.rh⟩
  | _ => exact h1.elim
def pcut {α : Type} (xs : List α) (lo hi : Option Int) : List α := (xs.drop (HT.sIx xs.length 0 lo)).take (HT.sIx xs.length xs.length hi - HT.sIx xs.length 0 lo)
theorem pcut_rep {K : Fg} {H : Hp} {xs : List PV} {vs : List V} (r : Reps K H xs vs) (lo hi : Option Int) : Reps K H (pcut xs lo hi) (cutV vs lo hi) := by
  unfold pcut cutV
  rw [← r.length]
  exact (r.drop _).take _
theorem pcut_whole {α : Type} {xs : List α} {lo hi : Option Int} (h : HT.sIx xs.length 0 lo = 0 ∧ HT.sIx xs.length xs.length hi = xs.length) : pcut xs lo hi = xs := by
  unfold pcut
  rw [h.1, h.2]
  simp
def rSlP (p : PV) (lo hi : Option Int) (M : PH) (Q : QE) : Prop := match p with
  | .tup xs => Q (.tup (pcut xs lo hi)) M
  | .str z => z.length ≤ sizeLine ∧ Q (.str (cutS z lo hi)) M
  | .ref a => match listAt M a with
    | some xs => ∀ D, ¬ Wr M D → Q (.ref D) (pupd M D (.lst (pcut xs lo hi)))
    | none => False
  | _ => False
def r0Sl (K : Fg) : V → Option Int → Option Int → Hp → VK → Prop := fun x lo hi H Q => (rSlA K x lo hi H Q ∨ rSlS x lo hi H Q) ∨ rSlL K x lo hi H Q
theorem sl_all {X : Cx} : SlR X (r0Sl X.K) := SlR.or (SlR.or sl_tupA sl_str) sl_list
theorem mono_sl {p : PV} {lo hi : Option Int} {M : PH} {Q Q' : QE} (k : ∀ p M', Q p M' → Q' p M') (h : rSlP p lo hi M Q) : rSlP p lo hi M Q' := by
  unfold rSlP at h ⊢
  split at h
  · exact k _ _ h
  · exact ⟨h.1, k _ _ h.2⟩
  · split at h
    · rename_i e; exact fun D n => k _ _ (h D n)
    · exact h
  · exact h
theorem lift_sl {K : Fg} {M : PH} {H : Hp} {p : PV} {v : V} {lo hi : Option Int} {Q : VK} (rh : RepH K H M) (r : Rep K H p v) (h : rSlP p lo hi M (Dn K M H Q)) : r0Sl K v lo hi H Q := by
  unfold rSlP at h
  split at h
  · have r0 := r
    rw [Rep] at r
    obtain ⟨a, vs, rfl, hs, rr⟩ := r
    refine .inl (.inl ⟨a, vs, rfl, hs, fun e => ?_, fun _ => dn_newtup rh (pcut_rep rr lo hi) h⟩)
    rw [← rr.length] at e
    rw [pcut_whole e] at h
    exact dn_here rh r0 h
  · rw [Rep] at r
    exact .inl (.inr ⟨_, r, h.1, dn_here rh (by rw [Rep]) h.2⟩)
  · split at h
    · rename_i xs e
      obtain ⟨vs, rr, hs⟩ := listAt_rd rh e
      rw [Rep] at r
      exact .inr ⟨_, vs, r, hs, dn_newlist rh (pcut_rep rr lo hi) h⟩
    · exact h.elim
  · exact h.elim
end PL
set_option autoImplicit false
namespace PL
open PySem PySem.Spec L2
open PyProof.Rows hiding St

def wSl (e : WE) (l h : WO) : WE := fun EP s M Q => e EP s M fun p M1 => l EP s M1 fun lo M2 => h EP s M2 fun hi M3 => rSlP p lo hi M3 Q
theorem ee_sl {X : Cx} {W : WX} {e : Expr} {lo hi : Option Expr} {we : WE} {wl wh : WO} {p2 pos : Pos} (he : EE X W e we) (hl : EO X W lo wl) (hh : EO X W hi wh) : EE X W (.Subscript e (.Slice lo hi none p2) pos) (wSl we wl wh) := by
  refine ⟨fun EP s M Q Q' k h => he.mono _ _ _ _ _ (fun p M1 h1 => hl.mono _ _ _ _ _ (fun o M2 h2 => hh.mono _ _ _ _ _ (fun o2 M3 h3 => mono_sl k h3) h2) h1) h, pe_weak (pe_slice sl_all he.run hl.run hh.run) ?_⟩
  rintro σ H Q ⟨EP, s, M, c, h⟩
  refine c.use he.mono h fun p M1 v H1 h1 S1 c1 r1 => ?_
  refine ⟨EP, s, M1, c1, hl.mono _ _ _ _ _ (fun o M2 h2 H2 S2 rh2 => ?_) h1⟩
  have c2 := c1.step S2 rh2
  refine ⟨EP, s, M2, c2, hh.mono _ _ _ _ _ (fun o2 M3 h3 H3 S3 rh3 => ?_) h2⟩
  exact lift_sl rh3 ((r1.tk (S2.tk c1.rh)).tk (S3.tk rh2)) (mono_sl (fun p M' q => q.on ((S1.trans S2).trans S3)) h3)

/-! ## calls of built-ins -/
abbrev PC := List PV → PH → QE → Prop
abbrev PCL := List PV → PH → (List PV → PH → Prop) → Prop
def MonoC (r : PC) : Prop := ∀ ps M Q Q', (∀ p M', Q p M' → Q' p M') → r ps M Q → r ps M Q'
def MonoCL (r : PCL) : Prop := ∀ ps M Q Q', (∀ p M', Q p M' → Q' p M') → r ps M Q → r ps M Q'
def wCB (r : PC) (a : WA) : WE := fun EP s M Q => a EP s M fun ps M1 => r ps M1 Q
def wCBL (r : PCL) (a : WA) : WL := fun EP s M Q => a EP s M fun ps M1 => r ps M1 Q
/-- values in, a value out; a new list out; a new list in -/
def LiftC (K : Fg) (r : PC) (r0 : List V → Hp → VK → Prop) : Prop := ∀ {M : PH} {H : Hp} {ps : List PV} {vs : List V} {Q : VK}, RepH K H M → Reps K H ps vs → r ps M (Dn K M H Q) → r0 vs H Q
def LiftCL (K : Fg) (r : PCL) (r0 : List V → Hp → VK → Prop) : Prop := ∀ {M : PH} {H : Hp} {ps : List PV} {vs : List V} {Q : VK}, RepH K H M → Reps K H ps vs → r ps M (DnL K M H Q) → r0 vs H Q
def LiftL (K : Fg) (r : PC) (r0 : List V → Hp → VK → Prop) : Prop := ∀ {M : PH} {H : Hp} {xs : List PV} {D : Addr} {vs : List V} {Q : VK}, RepH K H M → ¬ Wr M D → H D = some (.lst vs) → Reps K H xs vs → xs.length ≤ sizeLine → r xs M (Dn K M H Q) → r0 [.ref D] H Q
def LiftLL (K : Fg) (r : PCL) (r0 : List V → Hp → VK → Prop) : Prop := ∀ {M : PH} {H : Hp} {xs : List PV} {D : Addr} {vs : List V} {Q : VK}, RepH K H M → ¬ Wr M D → H D = some (.lst vs) → Reps K H xs vs → xs.length ≤ sizeLine → r xs M (DnL K M H Q) → r0 [.ref D] H Q
section
variable {X : Cx} {W : WX} {x : Str} {p pos : Pos} {e : Expr} {es : List Expr} {wa : WA} {id T : String} {r0 : List V → Hp → VK → Prop} {r : PC} {rl : PCL}
theorem up_cb (hl : LiftC X.K r r0) (hr : MonoC r) (ha : MonoA wa) : ∀ σ H Q, up X.K W (wCB r wa) σ H Q → tCB r0 (upA X.K W wa) σ H Q := by
  rintro σ H Q ⟨EP, s, M, c, h⟩
  exact c.useA ha h fun ps M1 vs H1 h1 S c1 r1 => hl c1.rh r1 (hr _ _ _ _ (fun p M' q => q.on S) h1)
theorem up_cbL (hl : LiftCL X.K rl r0) (hr : MonoCL rl) (ha : MonoA wa) : ∀ σ H Q, upL X.K W (wCBL rl wa) σ H Q → tCB r0 (upA X.K W wa) σ H Q := by
  rintro σ H Q ⟨EP, s, M, c, h⟩
  exact c.useA ha h fun ps M1 vs H1 h1 S c1 r1 => hl c1.rh r1 (hr _ _ _ _ (fun p M' q => q.on S) h1)
theorem up_cl (hl : LiftL X.K r r0) (hr : MonoC r) (ha : MonoA wa) : ∀ σ H Q, up X.K W (wCB r wa) σ H Q → tCB r0 (tCons (upL X.K W wa) tNil) σ H Q := by
  rintro σ H Q ⟨EP, s, M, c, h⟩
  exact c.useL ha h fun xs M1 D vs H1 h1 S c1 n w e1 r1 z => hl c1.rh w e1 r1 z (hr _ _ _ _ (fun p M' q => q.on S) h1)
theorem up_clL (hl : LiftLL X.K rl r0) (hr : MonoCL rl) (ha : MonoA wa) : ∀ σ H Q, upL X.K W (wCBL rl wa) σ H Q → tCB r0 (tCons (upL X.K W wa) tNil) σ H Q := by
  rintro σ H Q ⟨EP, s, M, c, h⟩
  exact c.useL ha h fun xs M1 D vs H1 h1 S c1 n w e1 r1 z => hl c1.rh w e1 r1 z (hr _ _ _ _ (fun p M' q => q.on S) h1)
theorem mono_cb (hr : MonoC r) (ha : MonoA wa) : MonoE (wCB r wa) := fun EP s M Q Q' k h => ha _ _ _ _ _ (fun ps M1 z => hr _ _ _ _ k z) h
theorem mono_cbL (hr : MonoCL rl) (ha : MonoA wa) : MonoA (wCBL rl wa) := fun EP s M Q Q' k h => ha _ _ _ _ _ (fun ps M1 z => hr _ _ _ _ k z) h
/-- f(a, ..) -/
theorem ee_cb (hc : CallR X (.builtin id) r0) (hl : LiftC X.K r r0) (hr : MonoC r) (hm : X.mg x = none) (hv : bootBuiltins x = some (.builtin id)) (ha : EA X W (e :: es) wa) (hg : Gl X x := by rfl) (hn : x ≠ "__name__" := by decide) (hdb : (x == ("__debug__" : Str)) = false := by decide)
    (he : starEach (e :: es) X.env = (false, eval e X.env) :: starEach es X.env := by rfl) (hpl : (backTo pos (starEach es X.env)).any (·.1) = false := by rfl) : EE X W (.Call (.Name x p) (e :: es) [] pos) (wCB r wa) :=
  ⟨mono_cb hr ha.mono, pe_weak (pe_callB hc hg hm hv ha.run hn hdb he hpl) (up_cb hl hr ha.mono)⟩
theorem ee_ct (hc : CallR X (.type T) r0) (hl : LiftC X.K r r0) (hr : MonoC r) (hm : X.mg x = none) (hv : bootBuiltins x = some (.type T)) (ha : EA X W (e :: es) wa) (hg : Gl X x := by rfl) (hn : x ≠ "__name__" := by decide) (hdb : (x == ("__debug__" : Str)) = false := by decide)
    (he : starEach (e :: es) X.env = (false, eval e X.env) :: starEach es X.env := by rfl) (hpl : (backTo pos (starEach es X.env)).any (·.1) = false := by rfl) : EE X W (.Call (.Name x p) (e :: es) [] pos) (wCB r wa) :=
  ⟨mono_cb hr ha.mono, pe_weak (pe_callTy hc hg hm hv ha.run hn hdb he hpl) (up_cb hl hr ha.mono)⟩
theorem el_cb (hc : CallR X (.builtin id) r0) (hl : LiftCL X.K rl r0) (hr : MonoCL rl) (hm : X.mg x = none) (hv : bootBuiltins x = some (.builtin id)) (ha : EA X W (e :: es) wa) (hg : Gl X x := by rfl) (hn : x ≠ "__name__" := by decide) (hdb : (x == ("__debug__" : Str)) = false := by decide)
    (he : starEach (e :: es) X.env = (false, eval e X.env) :: starEach es X.env := by rfl) (hpl : (backTo pos (starEach es X.env)).any (·.1) = false := by rfl) : EL X W (.Call (.Name x p) (e :: es) [] pos) (wCBL rl wa) :=
  ⟨mono_cbL hr ha.mono, pe_weak (pe_callB hc hg hm hv ha.run hn hdb he hpl) (up_cbL hl hr ha.mono)⟩
theorem el_ct (hc : CallR X (.type T) r0) (hl : LiftCL X.K rl r0) (hr : MonoCL rl) (hm : X.mg x = none) (hv : bootBuiltins x = some (.type T)) (ha : EA X W (e :: es) wa) (hg : Gl X x := by rfl) (hn : x ≠ "__name__" := by decide) (hdb : (x == ("__debug__" : Str)) = false := by decide)
    (he : starEach (e :: es) X.env = (false, eval e X.env) :: starEach es X.env := by rfl) (hpl : (backTo pos (starEach es X.env)).any (·.1) = false := by rfl) : EL X W (.Call (.Name x p) (e :: es) [] pos) (wCBL rl wa) :=
  ⟨mono_cbL hr ha.mono, pe_weak (pe_callTy hc hg hm hv ha.run hn hdb he hpl) (up_cbL hl hr ha.mono)⟩
/-- f(l), l a list just made -/
theorem pa_l {wl : WL} (h : EL X W e wl) (hs : starEach [e] X.env = (false, eval e X.env) :: starEach [] X.env := by rfl) : PA X [e] (tCons (upL X.K W wl) tNil) := pa_cons h.run pa_nil hs
theorem ee_cbl {wl : WL} (hc : CallR X (.builtin id) r0) (hl : LiftL X.K r r0) (hr : MonoC r) (hm : X.mg x = none) (hv : bootBuiltins x = some (.builtin id)) (ha : EL X W e wl) (hg : Gl X x := by rfl) (hn : x ≠ "__name__" := by decide) (hdb : (x == ("__debug__" : Str)) = false := by decide)
    (he : starEach [e] X.env = (false, eval e X.env) :: starEach [] X.env := by rfl) (hpl : (backTo pos (starEach [] X.env)).any (·.1) = false := by rfl) : EE X W (.Call (.Name x p) [e] [] pos) (wCB r wl) :=
  ⟨mono_cb hr ha.mono, pe_weak (pe_callB hc hg hm hv (pa_l ha he) hn hdb he hpl) (up_cl hl hr ha.mono)⟩
theorem ee_ctl {wl : WL} (hc : CallR X (.type T) r0) (hl : LiftL X.K r r0) (hr : MonoC r) (hm : X.mg x = none) (hv : bootBuiltins x = some (.type T)) (ha : EL X W e wl) (hg : Gl X x := by rfl) (hn : x ≠ "__name__" := by decide) (hdb : (x == ("__debug__" : Str)) = false := by decide)
    (he : starEach [e] X.env = (false, eval e X.env) :: starEach [] X.env := by rfl) (hpl : (backTo pos (starEach [] X.env)).any (·.1) = false := by rfl) : EE X W (.Call (.Name x p) [e] [] pos) (wCB r wl) :=
  ⟨mono_cb hr ha.mono, pe_weak (pe_callTy hc hg hm hv (pa_l ha he) hn hdb he hpl) (up_cl hl hr ha.mono)⟩
theorem el_cbl {wl : WL} (hc : CallR X (.builtin id) r0) (hl : LiftLL X.K rl r0) (hr : MonoCL rl) (hm : X.mg x = none) (hv : bootBuiltins x = some (.builtin id)) (ha : EL X W e wl) (hg : Gl X x := by rfl) (hn : x ≠ "__name__" := by decide) (hdb : (x == ("__debug__" : Str)) = false := by decide)
    (he : starEach [e] X.env = (false, eval e X.env) :: starEach [] X.env := by rfl) (hpl : (backTo pos (starEach [] X.env)).any (·.1) = false := by rfl) : EL X W (.Call (.Name x p) [e] [] pos) (wCBL rl wl) :=
  ⟨mono_cbL hr ha.mono, pe_weak (pe_callB hc hg hm hv (pa_l ha he) hn hdb he hpl) (up_clL hl hr ha.mono)⟩
end
/-! ### len -/
def cLen : PC := fun ps M Q => match ps with
  | [.str y] => y.length ≤ sizeLine ∧ Q (.int y.length) M
  | [.ref a] => match M a with
    | some (.dK kvs) => Q (.int kvs.length) M
    | _ => match listAt M a with
      | some xs => Q (.int xs.length) M
      | none => False
  | [.tup xs] => Q (.int xs.length) M
  | _ => False
def r0Len (K : Fg) : List V → Hp → VK → Prop := fun xs H Q => (∃ x n, xs = [x] ∧ LenV K x H n ∧ Q (.int n) H) ∨ ∃ d kvs, xs = [.ref d] ∧ H d = some (.dK kvs) ∧ Q (.int kvs.length) H
theorem mono_len : MonoC cLen := by
  intro ps M Q Q' k h
  unfold cLen at h ⊢
  split at h
  · exact ⟨h.1, k _ _ h.2⟩
  · split at h
    · exact k _ _ h
    · split at h
      · exact k _ _ h
      · exact h
  · exact k _ _ h
  · exact h
theorem reps1 {K : Fg} {H : Hp} {p : PV} {vs : List V} (h : Reps K H [p] vs) : ∃ v, vs = [v] ∧ Rep K H p v := by
  rw [Reps] at h
  obtain ⟨v, r, e, h1, h2⟩ := h
  rw [Reps] at h2
  subst h2
  exact ⟨v, e, h1⟩
theorem reps2 {K : Fg} {H : Hp} {p q : PV} {vs : List V} (h : Reps K H [p, q] vs) : ∃ v u, vs = [v, u] ∧ Rep K H p v ∧ Rep K H q u := by
  rw [Reps] at h
  obtain ⟨v, r, e, h1, h2⟩ := h
  obtain ⟨u, e2, h3⟩ := reps1 h2
  subst e2
  exact ⟨v, u, e, h1, h3⟩
theorem lift_len {K : Fg} : LiftC K cLen (r0Len K) := by
  intro M H ps vs Q rh r h
  unfold cLen at h
  split at h
  · obtain ⟨v, rfl, rv⟩ := reps1 r
    rw [Rep] at rv; subst rv
    exact .inl ⟨_, _, rfl, ⟨h.1, rfl⟩, dn_here rh (by rw [Rep]) h.2⟩
  · obtain ⟨v, rfl, rv⟩ := reps1 r
    rw [Rep] at rv; subst rv
    split at h
    · rename_i e
      obtain ⟨us, hu, rr⟩ := rh _ _ e
      have e1 := congrArg List.length rr.1
      simp only [List.length_map] at e1
      refine .inr ⟨_, us, rfl, hu, ?_⟩
      rw [← e1]
      exact dn_here rh (by rw [Rep]) h
    · split at h
      · rename_i e
        obtain ⟨us, rr, hs⟩ := listAt_rd rh e
        refine .inl ⟨_, _, rfl, .inl ⟨us, hs, rfl⟩, ?_⟩
        rw [← rr.length]
        exact dn_here rh (by rw [Rep]) h
      · exact h.elim
  · obtain ⟨v, rfl, rv⟩ := reps1 r
    rw [Rep] at rv
    obtain ⟨a, us, rfl, hs, rr⟩ := rv
    refine .inl ⟨_, _, rfl, .inr ⟨us, hs, rfl⟩, ?_⟩
    rw [← rr.length]
    exact dn_here rh (by rw [Rep]) h
  · exact h.elim
theorem call_len' {X : Cx} : CallR X (.builtin "len") (r0Len X.K) := by
  refine CallR.or call_len ?_
  intro pins s σ H xs us Q I r h
  obtain ⟨d, kvs, rfl, hd, q⟩ := h
  exact call_lenD pins s σ H _ us Q I r ⟨d, kvs, rfl, hd, q⟩
def cLenL : PC := fun xs M Q => Q (.int xs.length) M
theorem mono_lenL : MonoC cLenL := fun ps M Q Q' k h => k _ _ h
theorem lift_lenL {K : Fg} : LiftL K cLenL (r0Len K) := by
  intro M H xs D vs Q rh w e r z h
  refine .inl ⟨_, _, rfl, .inl ⟨vs, SqL.of e, rfl⟩, ?_⟩
  rw [← r.length]
  exact dn_here rh (by rw [Rep]) h
/-! ### tuple, list -/
def cTup : PC := fun ps M Q => match ps with
  | [p] => match seqAt M p with
    | some xs => Q (.tup xs) M
    | none => False
  | _ => False
def r0Tup (K : Fg) : List V → Hp → VK → Prop := fun xs H Q => ∃ p ys, xs = [.ref p] ∧ ((SqL K H p ys ∧ ∀ l, H l = none → Q (.ref l) (upd H l (.tup ys))) ∨ (SqT K H p ys ∧ Q (.ref p) H))
theorem mono_tup : MonoC cTup := by
  intro ps M Q Q' k h
  unfold cTup at h ⊢
  split at h
  · split at h
    · exact k _ _ h
    · exact h
  · exact h
theorem lift_tup {K : Fg} : LiftC K cTup (r0Tup K) := by
  intro M H ps vs Q rh r h
  unfold cTup at h
  split at h
  · obtain ⟨v, rfl, rv⟩ := reps1 r
    split at h
    · rename_i xs e
      obtain ⟨a, us, rfl, rr, hs⟩ := seqAt_rd rh rv e
      rcases hs with hs | hs
      · exact ⟨a, us, rfl, .inl ⟨hs, dn_newtup rh rr h⟩⟩
      · exact ⟨a, us, rfl, .inr ⟨hs, h (.ref a) H (.refl _ _) rh (by rw [Rep]; exact ⟨a, us, rfl, hs, rr⟩)⟩⟩
    · exact h.elim
  · exact h.elim
def cTupL : PC := fun xs M Q => Q (.tup xs) M
theorem mono_tupL : MonoC cTupL := fun ps M Q Q' k h => k _ _ h
theorem lift_tupL {K : Fg} : LiftL K cTupL (r0Tup K) := by
  intro M H xs D vs Q rh w e r z h
  exact ⟨D, vs, rfl, .inl ⟨SqL.of e, dn_newtup rh r h⟩⟩
def cList : PCL := fun ps M Q => match ps with
  | [p] => match seqAt M p with
    | some xs => xs.length ≤ sizeLine ∧ Q xs M
    | none => False
  | _ => False
theorem mono_list : MonoCL cList := by
  intro ps M Q Q' k h
  unfold cList at h ⊢
  split at h
  · split at h
    · exact ⟨h.1, k _ _ h.2⟩
    · exact h
  · exact h
/-- a new list of represented values -/
theorem dnL_new {K : Fg} {M : PH} {H : Hp} {Q : VK} {xs : List PV} {vs : List V} (rh : RepH K H M) (r : Reps K H xs vs) (hz : xs.length ≤ sizeLine) (h : DnL K M H Q xs M) : ∀ l, H l = none → Q (.ref l) (upd H l (.lst vs)) := fun l hl =>
  h l vs _ (Step.hidden hl) (rh.upd_free hl) hl (rh.free hl) upd_same (r.tk (tk_new hl)) hz
theorem lift_list {K : Fg} : LiftCL K cList (fun xs H Q => ∃ p ys, xs = [.ref p] ∧ (SqL K H p ys ∨ SqT K H p ys) ∧ ∀ l, H l = none → Q (.ref l) (upd H l (.lst ys))) := by
  intro M H ps vs Q rh r h
  unfold cList at h
  split at h
  · split at h
    · rename_i e
      obtain ⟨v, rfl, rv⟩ := reps1 r
      obtain ⟨a, us, rfl, rr, hs⟩ := seqAt_rd rh rv e
      exact ⟨a, us, rfl, hs, dnL_new rh rr h.1 h.2⟩
    · exact h.elim
  · exact h.elim
/-! ### all, any -/
def boolsOf : List PV → Option (List Bool)
  | [] => some []
  | .bl b :: r => (boolsOf r).map (b :: ·)
  | _ => none
theorem boolsOf_rep {K : Fg} {H : Hp} : ∀ {xs : List PV} {vs : List V} {bs : List Bool}, boolsOf xs = some bs → Reps K H xs vs → vs = bs.map V.bl
  | [], vs, bs, e, r => by
    rw [Reps] at r
    cases e
    exact r
  | .bl b :: t, vs, bs, e, r => by
    rw [Reps] at r
    obtain ⟨v, u, rfl, h1, h2⟩ := r
    rw [Rep] at h1; subst h1
    simp only [boolsOf, Option.map_eq_some_iff] at e
    obtain ⟨cs, e1, rfl⟩ := e
    rw [boolsOf_rep e1 h2]
    rfl
theorem boolsOf_map : ∀ bs : List Bool, boolsOf (bs.map PV.bl) = some bs
  | [] => rfl
  | b :: r => by simp [boolsOf, boolsOf_map r]
def cAllL : PC := fun xs M Q => match boolsOf xs with
  | some bs => Q (.bl (bs.all id)) M
  | none => False
def cAnyL : PC := fun xs M Q => match boolsOf xs with
  | some bs => Q (.bl (bs.any id)) M
  | none => False
theorem mono_allL : MonoC cAllL := by
  intro ps M Q Q' k h
  unfold cAllL at h ⊢
  split at h
  · exact k _ _ h
  · exact h
theorem mono_anyL : MonoC cAnyL := by
  intro ps M Q Q' k h
  unfold cAnyL at h ⊢
  split at h
  · exact k _ _ h
  · exact h
theorem lift_allL {K : Fg} : LiftL K cAllL (rAll K) := by
  intro M H xs D vs Q rh w e r z h
  unfold cAllL at h
  split at h
  · rename_i bs e1
    have e2 := boolsOf_rep e1 r
    subst e2
    exact ⟨D, bs, rfl, SqL.of e, dn_here rh (by rw [Rep]) h⟩
  · exact h.elim
theorem lift_anyL {K : Fg} : LiftL K cAnyL (rAny K) := by
  intro M H xs D vs Q rh w e r z h
  unfold cAnyL at h
  split at h
  · rename_i bs e1
    have e2 := boolsOf_rep e1 r
    subst e2
    exact ⟨D, bs, rfl, SqL.of e, dn_here rh (by rw [Rep]) h⟩
  · exact h.elim
end PL
set_option autoImplicit false
namespace PL
open PySem PySem.Spec L2
open PyProof.Rows hiding St

/-! ## sorted -/
/-- pairs of what stands here and what stands there -/
def pairsV : List PV → List V → List (PV × V)
  | p :: ps, v :: vs => (p, v) :: pairsV ps vs
  | _, _ => []
theorem pairs_fst {K : Fg} {H : Hp} : ∀ {ps : List PV} {vs : List V}, Reps K H ps vs → (pairsV ps vs).map (·.1) = ps ∧ (pairsV ps vs).map (·.2) = vs ∧ ∀ q ∈ pairsV ps vs, Rep K H q.1 q.2
  | [], vs, r => by rw [Reps] at r; subst r; exact ⟨rfl, rfl, fun q hq => by cases hq⟩
  | p :: ps, vs, r => by
    rw [Reps] at r
    obtain ⟨v, t, rfl, h1, h2⟩ := r
    obtain ⟨a, b, c⟩ := pairs_fst h2
    refine ⟨by simp [pairsV, a], by simp [pairsV, b], fun q hq => ?_⟩
    rcases List.mem_cons.mp hq with rfl | hq
    · exact h1
    · exact c q hq
theorem reps_pairs {K : Fg} {H : Hp} : ∀ (l : List (PV × V)), (∀ q ∈ l, Rep K H q.1 q.2) → Reps K H (l.map (·.1)) (l.map (·.2))
  | [], _ => .nil
  | q :: l, h => .cons (h q List.mem_cons_self) (reps_pairs l fun x hx => h x (List.mem_cons_of_mem _ hx))
theorem each_vals {us : List Value} : ∀ {l : List (PV × V)}, PySem.W.EachIs (fun u (q : PV × V) => RelV q.2 u) us l → Vals (l.map (·.2)) us := by
  intro l e
  induction e with
  | nil => exact .nil
  | cons h t ih => exact .cons h ih
theorem each_of {K : Fg} {H : Hp} : ∀ {ps : List PV} {vs : List V} {us : List Value}, Reps K H ps vs → Vals vs us → PySem.W.EachIs (fun u (q : PV × V) => RelV q.2 u) us (pairsV ps vs)
  | [], vs, us, r, h => by
    rw [Reps] at r; subst r
    cases h
    exact .nil
  | p :: ps, vs, us, r, h => by
    rw [Reps] at r
    obtain ⟨v, t, rfl, h1, h2⟩ := r
    cases h with
    | cons a b => exact .cons a (each_of h2 b)
/-- the order by which Python sorts data -/
def leP (x y : PV) : Bool := PySem.W.dataLe false dat x y
def sortP (xs : List PV) : List PV := xs.mergeSort leP
def Srtb (xs : List PV) : Prop := purs xs = true ∧ PySem.W.AllAlike (dats xs) ∧ PySem.W.Sortable (dats xs) ∧ ∀ x ∈ xs, (dat x).depth ≤ 60
theorem dats_map : ∀ xs : List PV, dats xs = xs.map dat
  | [] => by rw [dats]; rfl
  | x :: xs => by rw [dats, dats_map xs]; rfl
theorem purs_mem : ∀ {xs : List PV}, purs xs = true → ∀ x ∈ xs, pur x = true
  | [], _, x, hx => by cases hx
  | y :: ys, h, x, hx => by
    rw [purs, Bool.and_eq_true] at h
    rcases List.mem_cons.mp hx with rfl | hx
    · exact h.1
    · exact purs_mem h.2 x hx
def r0Sorted (K : Fg) : List V → Hp → VK → Prop := fun vs H Q => ∃ a xs us, vs = [V.ref a] ∧ SqL K H a us ∧ Reps K H xs us ∧ Srtb xs ∧ ∀ p ws, H p = none → Reps K H (sortP xs) ws → Q (.ref p) (upd H p (.lst ws))
theorem call_sorted' {X : Cx} (hu : X.A.units + 100 < cLine) : CallR X (.builtin "sorted") (r0Sorted X.K) := by
  intro pins s σ H vs us Q I r h
  obtain ⟨a, xs, ws, rfl, hs, rr, ⟨h1, h2, h3, h4⟩, q⟩ := h
  obtain ⟨its, rv, hl, hz⟩ := I.list hs
  obtain ⟨u, rfl, ru⟩ := vals1 r
  obtain rfl : u = Value.ref a := ru
  obtain ⟨p1, p2, p3⟩ := pairs_fst rr
  have e := each_of rr rv
  have hmap : (pairsV xs ws).map (fun q => dat q.1) = dats xs := by rw [dats_map, ← p1, List.map_map]; simp [p1]
  have hlen : (pairsV xs ws).length = xs.length := by rw [← p1, List.length_map, p1]
  have er : PySem.W.EachIs (fun u (q : PV × V) => ∃ as, Reads s.heap u (dat q.1) as) its (pairsV xs ws) := by
    have key : ∀ {ps : List PV} {vs : List V} {us : List Value}, purs ps = true → Reps X.K H ps vs → Vals vs us → PySem.W.EachIs (fun u (q : PV × V) => ∃ as, Reads s.heap u (dat q.1) as) us (pairsV ps vs) := by
      intro ps
      induction ps with
      | nil => intro vs us _ r h; rw [Reps] at r; subst r; cases h; exact .nil
      | cons p ps ih =>
        intro vs us hp r h
        rw [Reps] at r
        obtain ⟨v, t, rfl, g1, g2⟩ := r
        rw [purs, Bool.and_eq_true] at hp
        cases h with
        | cons a b => exact .cons (Dp.reads I _ _ _ (dp_of hp.1 g1) a) (ih hp.2 g2 b)
    exact key h1 rr rv
  refine PySem.W.sorted_data (enc := fun q : PV × V => dat q.1) hl.isList e er (by rw [hmap]; exact h2) (by rw [hmap]; exact h3) (by rw [hlen, rr.length]; exact hz) (fun b hb => ?_) fun out ho eo => ?_
  · have hm : b.1 ∈ xs := by rw [← p1]; exact List.mem_map_of_mem hb
    have := h4 _ hm
    omega
  · have hv := each_vals eo
    have hperm := List.mergeSort_perm (pairsV xs ws) (PySem.W.dataLe false fun q : PV × V => dat q.1)
    have hm1 : ((pairsV xs ws).mergeSort (PySem.W.dataLe false fun q : PV × V => dat q.1)).map (·.1) = sortP xs := by
      unfold sortP
      conv => rhs; rw [← p1]
      refine List.map_mergeSort ?_
      intro x _ y _
      rfl
    have hrep : Reps X.K H (sortP xs) (((pairsV xs ws).mergeSort (PySem.W.dataLe false fun q : PV × V => dat q.1)).map (·.2)) := by
      rw [← hm1]
      exact reps_pairs _ fun q hq => p3 q (hperm.mem_iff.mp hq)
    have keep : ∀ b o, s.heap.get? b = some o → (sortedAll s.heap its (List.toArray out)).get? b = some o := fun b o hb => sortedAll_old hb
    obtain ⟨c, hc⟩ := sortedAll_at s.heap its (List.toArray out)
    have hD : H (s.heap.objs.size + 1) = none := I.hok.fresh (by omega)
    refine ⟨.ref (s.heap.objs.size + 1), _, I.laid (t' := s.toks) (o := .lst _) keep (by omega) ⟨?_, out, c, hv, hc⟩, rfl, q _ _ hD hrep⟩
    rw [List.length_map, hperm.length_eq, hlen, rr.length]
    exact hz
theorem srtb_len {xs : List PV} : (sortP xs).length = xs.length := (List.mergeSort_perm xs leP).length_eq
def cSorted : PCL := fun ps M Q => match ps with
  | [.ref a] => match listAt M a with
    | some xs => Srtb xs ∧ xs.length ≤ sizeLine ∧ Q (sortP xs) M
    | none => False
  | _ => False
theorem mono_sorted : MonoCL cSorted := by
  intro ps M Q Q' k h
  unfold cSorted at h ⊢
  split at h
  · split at h
    · exact ⟨h.1, h.2.1, k _ _ h.2.2⟩
    · exact h
  · exact h
theorem lift_sorted {K : Fg} : LiftCL K cSorted (r0Sorted K) := by
  intro M H ps vs Q rh r h
  unfold cSorted at h
  split at h
  · obtain ⟨v, rfl, rv⟩ := reps1 r
    rw [Rep] at rv; subst rv
    split at h
    · rename_i xs e
      obtain ⟨us, rr, hs⟩ := listAt_rd rh e
      refine ⟨_, xs, us, rfl, hs, rr, h.1, fun p ws hp hw => ?_⟩
      exact dnL_new rh hw (by rw [srtb_len]; exact h.2.1) h.2.2 p hp
    · exact h.elim
  · exact h.elim
def cSortedL : PCL := fun xs M Q => Srtb xs ∧ Q (sortP xs) M
theorem mono_sortedL : MonoCL cSortedL := fun ps M Q Q' k h => ⟨h.1, k _ _ h.2⟩
theorem lift_sortedL {K : Fg} : LiftLL K cSortedL (r0Sorted K) := by
  intro M H xs D vs Q rh w e r z h
  exact ⟨D, xs, vs, rfl, SqL.of e, r, h.1, fun p ws hp hw => dnL_new rh hw (by rw [srtb_len]; exact z) h.2 p hp⟩
/-! ## repr -/
def r0Repr (K : Fg) : List V → Hp → VK → Prop := fun vs H Q => ∃ x d, vs = [x] ∧ Dp K H x d ∧ d.showable = true ∧ d.hasDict = false ∧ d.depth ≤ 60 ∧ d.shown.length ≤ sizeLine ∧ Q (.str d.shown) H
theorem call_repr' {X : Cx} (hu : X.A.units + 100 < cLine) (hg : X.A.guards = some []) : CallR X (.builtin "repr") (r0Repr X.K) := by
  intro pins s σ H vs us Q I r h
  obtain ⟨x, d, rfl, hd, h1, h2, h3, h4, q⟩ := h
  obtain ⟨u, rfl, ru⟩ := vals1 r
  obtain ⟨as, rd⟩ := Dp.reads I d x u hd ru
  cases hd with
  | non =>
    cases ru
    rw [PyData.shown] at q
    exact PySem.P.repr_of_none ⟨.str _, H, I.tok _, ⟨_, rfl⟩, q⟩
  | bl b =>
    cases ru
    rw [PyData.shown] at q
    exact PySem.P.repr_of_bool ⟨.str _, H, I.tok _, ⟨_, rfl⟩, q⟩
  | int i =>
    obtain ⟨t, rfl⟩ := ru
    rw [PyData.showable] at h1
    rw [PyData.shown] at q
    exact PySem.P.repr_of_int (of_decide_eq_true h1) ⟨.str _, H, I.tok _, ⟨_, rfl⟩, q⟩
  | str z =>
    obtain ⟨t, rfl⟩ := ru
    rw [PyData.shown] at q h4
    exact PySem.P.repr_of_str ⟨.str _, H, I.tok _, ⟨_, rfl⟩, q⟩ h4
  | lst hs ha =>
    cases ru
    exact repr_of_reads' (h₀ := s.heap) rd h1 (PyData.noDict_hsm h2) hg (by omega) (fun _ _ e => e) (fun h' u tk kp => ⟨.str _, H, I.kept kp, ⟨_, rfl⟩, q⟩) h4
  | tup hs ha =>
    cases ru
    exact repr_of_reads' (h₀ := s.heap) rd h1 (PyData.noDict_hsm h2) hg (by omega) (fun _ _ e => e) (fun h' u tk kp => ⟨.str _, H, I.kept kp, ⟨_, rfl⟩, q⟩) h4
/-- may be shown as a text -/
def Shw (d : PyData) : Prop := d.showable = true ∧ d.hasDict = false ∧ d.depth ≤ 60 ∧ d.shown.length ≤ sizeLine
def cRepr : PC := fun ps M Q => match ps with
  | [p] => match datM M p with
    | some d => Shw d ∧ Q (.str d.shown) M
    | none => False
  | _ => False
theorem mono_repr : MonoC cRepr := by
  intro ps M Q Q' k h
  unfold cRepr at h ⊢
  split at h
  · split at h
    · exact ⟨h.1, k _ _ h.2⟩
    · exact h
  · exact h
theorem lift_repr {K : Fg} : LiftC K cRepr (r0Repr K) := by
  intro M H ps vs Q rh r h
  unfold cRepr at h
  split at h
  · obtain ⟨v, rfl, rv⟩ := reps1 r
    split at h
    · rename_i d e
      exact ⟨v, d, rfl, datM_dp rh rv e, h.1.1, h.1.2.1, h.1.2.2.1, h.1.2.2.2, dn_here rh (by rw [Rep]) h.2⟩
    · exact h.elim
  · exact h.elim
/-! ## methods of built-in types -/
abbrev PM := PV → List PV → PH → QE → Prop
def MonoM (r : PM) : Prop := ∀ x ps M Q Q', (∀ p M', Q p M' → Q' p M') → r x ps M Q → r x ps M Q'
def wBM (r : PM) (o : WE) (a : WA) : WE := fun EP s M Q => o EP s M fun x M1 => a EP s M1 fun ps M2 => r x ps M2 Q
/-- of which built-in type -/
def tyP (M : PH) (T : String) (p : PV) : Prop := match p with
  | .str _ => T = "str"
  | .int _ => T = "int"
  | .ref a => match M a with
    | some (.lst _) => T = "list"
    | some (.dK _) => T = "dict"
    | _ => False
  | _ => False
def LiftM (K : Fg) (r : PM) (r0 : V → List V → Hp → VK → Prop) : Prop := ∀ {M : PH} {H : Hp} {x : PV} {ps : List PV} {v : V} {vs : List V} {Q : VK}, RepH K H M → Rep K H x v → Reps K H ps vs → r x ps M (Dn K M H Q) → r0 v vs H Q
theorem tyP_V {K : Fg} {M : PH} {H : Hp} {T : String} {p : PV} {v : V} (rh : RepH K H M) (r : Rep K H p v) (h : tyP M T p) : tyV K T v H := by
  unfold tyP at h
  split at h
  · rw [Rep] at r; subst r; exact h
  · rw [Rep] at r; subst r; exact h
  · rw [Rep] at r; subst r
    split at h
    · rename_i e
      obtain ⟨vs, hv, _⟩ := rh _ _ e
      exact .inl ⟨h, vs, SqL.of hv⟩
    · rename_i e
      obtain ⟨vs, hv, _⟩ := rh _ _ e
      exact .inr (.inr (.inl ⟨h, .inl ⟨vs, hv⟩⟩))
    · exact h.elim
  · exact h.elim
/-- o.m(e, ..): the receiver's type is looked at when it has come -/
def wBMt (T : String) (r : PM) (o : WE) (a : WA) : WE := fun EP s M Q => o EP s M fun x M1 => tyP M1 T x ∧ a EP s M1 fun ps M2 => r x ps M2 Q
section
variable {X : Cx} {W : WX} {o e : Expr} {es : List Expr} {wo : WE} {wa : WA} {name : Str} {apos cpos : Pos} {T id : String} {r : PM} {r0 : V → List V → Hp → VK → Prop}
theorem mono_bm (hr : MonoM r) (ho : MonoE wo) (ha : MonoA wa) : MonoE (wBMt T r wo wa) := fun EP s M Q Q' k h => ho _ _ _ _ _ (fun x M1 z => ⟨z.1, ha _ _ _ _ _ (fun ps M2 z2 => hr _ _ _ _ _ k z2) z.2⟩) h
theorem ee_bm (pa : PlainAttrs T) (slot : Slot T name id) (hty : typeOf (.builtin id) = pure (.type "method_descriptor")) (hm : MtR X id r0) (hl : LiftM X.K r r0) (hr : MonoM r) (ho : EE X W o wo) (ha : EA X W (e :: es) wa)
    (hbase : attributeBase o name X.env (eval o X.env) = eval o X.env := by rfl) (hfew : ((backTo cpos (starEach (e :: es) X.env)).all (fun x => !x.1) && (backToKw cpos (keywordEach [] X.env)).all (fun x => x.1.isSome)
      && decide ((e :: es).length + ([] : List Keyword).length + (if ([] : List Keyword).isEmpty then 0 else 1) < 30)) = true := by rfl)
    (hline : (apos.endLine == cpos.line) = true := by rfl) (hst : starEach (e :: es) X.env = (false, eval e X.env) :: starEach es X.env := by rfl) (hpl : (backTo cpos (starEach es X.env)).any (·.1) = false := by rfl) :
    EE X W (.Call (.Attribute o name apos) (e :: es) [] cpos) (wBMt T r wo wa) := by
  refine ⟨mono_bm hr ho.mono ha.mono, pe_weak (pe_bm pa slot hty hm ho.run ha.run hbase hfew hline hst hpl) ?_⟩
  rintro σ H Q ⟨EP, s, M, c, h⟩
  refine c.use ho.mono h fun x M1 v H1 h1 S1 c1 r1 => ⟨tyP_V c1.rh r1 h1.1, ?_⟩
  refine c1.useA ha.mono h1.2 fun ps M2 vs H2 h2 S2 c2 r2 => ?_
  exact hl c2.rh (r1.tk (S2.tk c1.rh)) r2 (hr _ _ _ _ _ (fun p M' q => q.on (S1.trans S2)) h2)
theorem ee_bm0 (pa : PlainAttrs T) (slot : Slot T name id) (hty : typeOf (.builtin id) = pure (.type "method_descriptor")) (hm : MtR X id r0) (hl : LiftM X.K r r0) (hr : MonoM r) (ho : EE X W o wo)
    (hbase : attributeBase o name X.env (eval o X.env) = eval o X.env := by rfl) (hline : (apos.endLine == cpos.line) = true := by rfl) : EE X W (.Call (.Attribute o name apos) [] [] cpos) (wBMt T r wo wNil) := by
  refine ⟨mono_bm hr ho.mono (fun _ _ _ _ _ k h => k _ _ h), pe_weak (pe_bm0 pa slot hty hm ho.run hbase hline) ?_⟩
  rintro σ H Q ⟨EP, s, M, c, h⟩
  refine c.use ho.mono h fun x M1 v H1 h1 S1 c1 r1 => ⟨tyP_V c1.rh r1 h1.1, ?_⟩
  exact hl c1.rh r1 .nil (hr _ _ _ _ _ (fun p M' q => q.on S1) h1.2)
end
end PL
set_option autoImplicit false
namespace PL
open PySem PySem.Spec L2
open PyProof.Rows hiding St

/-! ## methods of lists and texts -/
def mAppend : PM := fun x ps M Q => match x, ps with
  | .ref a, [p] => ∃ xs, M a = some (.lst xs) ∧ xs.length < sizeLine ∧ Q .non (pupd M a (.lst (xs ++ [p])))
  | _, _ => False
theorem mono_append : MonoM mAppend := by
  intro x ps M Q Q' k h
  unfold mAppend at h ⊢
  split at h
  · exact let ⟨xs, a, b, c⟩ := h; ⟨xs, a, b, k _ _ c⟩
  · exact h
/-- a list is written -/
theorem dn_wr {K : Fg} {M : PH} {H : Hp} {Q : VK} {a : Addr} {p : PV} {v : V} {xs ys : List PV} {us vs : List V} (rh : RepH K H M) (e : M a = some (.lst xs)) (ea : H a = some (.lst us)) (r : Reps K H ys vs) (rp : Rep K H p v) (h : Dn K M H Q p (pupd M a (.lst ys))) : Q v (upd H a (.lst vs)) := by
  have hw : Wr M a := ⟨_, e, rfl⟩
  have t : TKeep H (upd H a (.lst vs)) := tk_upd (rh.notup hw)
  exact h v _ (Step.write hw) (rh.upd_both (rh.notup hw) ⟨vs, upd_same, r.tk t⟩) (rp.tk t)
theorem lift_append {K : Fg} : LiftM K mAppend rAppend := by
  intro M H x ps v vs Q rh rx r h
  unfold mAppend at h
  split at h
  · obtain ⟨u, rfl, ru⟩ := reps1 r
    rw [Rep] at rx; subst rx
    obtain ⟨xs, e, hz, q⟩ := h
    obtain ⟨us, hu, rr⟩ := rh _ _ e
    exact ⟨_, us, u, rfl, rfl, hu, by rw [← rr.length]; exact hz, dn_wr rh e hu (rr.append (.cons ru .nil)) (by rw [Rep]) q⟩
  · exact h.elim
def mPopAt : PM := fun x ps M Q => match x, ps with
  | .ref a, [.int i] => ∃ xs k p, M a = some (.lst xs) ∧ -(2 ^ 63) ≤ i ∧ i < 2 ^ 63 ∧ seqIndex? i xs.length = some k ∧ xs[k]? = some p ∧ Q p (pupd M a (.lst (xs.eraseIdx k)))
  | _, _ => False
theorem mono_popAt : MonoM mPopAt := by
  intro x ps M Q Q' k h
  unfold mPopAt at h ⊢
  split at h
  · exact let ⟨xs, j, p, a, b, c, d, e, f⟩ := h; ⟨xs, j, p, a, b, c, d, e, k _ _ f⟩
  · exact h
theorem lift_popAt {K : Fg} : LiftM K mPopAt rPopAt := by
  intro M H x ps v vs Q rh rx r h
  unfold mPopAt at h
  split at h
  · obtain ⟨u, rfl, ru⟩ := reps1 r
    rw [Rep] at rx; subst rx
    rw [Rep] at ru; subst ru
    obtain ⟨xs, k, p, e, h1, h2, h3, h4, q⟩ := h
    obtain ⟨us, hu, rr⟩ := rh _ _ e
    obtain ⟨y, hy, ry⟩ := rr.get h4
    exact ⟨_, us, _, k, y, rfl, rfl, hu, h1, h2, by rw [← rr.length]; exact h3, hy, dn_wr rh e hu (rr.eraseIdx k) ry q⟩
  · exact h.elim
/-- extend by a list or a tuple -/
def r0ExtT (K : Fg) : V → List V → Hp → VK → Prop := fun x vs H Q => ∃ l b xs zs, x = .ref l ∧ vs = [.ref b] ∧ H l = some (.lst xs) ∧ SqT K H b zs ∧ xs.length + zs.length ≤ sizeLine ∧ Q .non (upd H l (.lst (xs ++ zs)))
theorem list_extend_tup (l : Addr) (items : Array Value) (n : Nat) (b : Addr) (items2 : Array Value) (n2 : Nat) (dd : Option Addr) (sl : Array (Option Value)) (hs0 : ¬(!items.isEmpty && Builtin.List.listTooLong (items.size + items2.size)) = true) (hs1 : items.size ≤ sizeLine) (hs2 : items.size + items2.size ≤ sizeLine + 1) :
    Meets (Builtin.«list.extend» ⟨[.ref l, .ref b], []⟩) (fun _ R s => s.heap.get? l = some { cls := .type "list", dict := none, data := .seq items n, slots := #[] } ∧ s.heap.get? b = some { cls := .type "tuple", dict := dd, data := .seq items2 n2, slots := sl } ∧ R (.ok (.ret Value.none)) { s with heap := s.heap.update l (Obj.mapSeq fun x => x ++ items2), toks := s.toks }) :=
  .of_wp fun prog w A R s h => by
    obtain ⟨hp, g, d, tk, os⟩ := s; obtain ⟨hl, hb, h⟩ := h; have f1 := AutoSeq1.idx_int; have f2 := AutoSeq1.sub_tuple_tuple; have f3 := AutoSeq1.sub_list_list; have f4 := AutoSeq1.sub_tuple_list; have f5 := AutoSeq1.sub_list_tuple
    have hz' : (items ++ items2).size ≤ sizeLine + 1 := by rw [Array.size_append]; exact hs2
    wp_walk using (wpAny_updateSeq hl rfl (hz := hs1) (_hz' := hz')), AutoSeq1.wpAny_loadPart' hl, AutoSeq1.wpAny_loadPart' hb; exact ⟨_, rfl, h⟩
theorem mt_extT {X : Cx} : MtM X "list.extend" (r0ExtT X.K) := by
  intro pins s σ H x vs v us Q I rx rv h
  obtain ⟨l, b, xs, zs, rfl, rfl, hH, hB, hz, q⟩ := h
  cases rx
  obtain ⟨u, rfl, ru⟩ := rv.one
  cases ru
  obtain ⟨z, its, n, r, hl, e⟩ := I.lstM hH
  obtain ⟨its2, r2, ⟨⟨cls, dd, data, sl⟩, e2, hc, n2, hd⟩, hs⟩ := I.tuple hB
  simp only at hc hd
  subst hc hd
  have hl2 := r2.length
  have hsz : its.toArray.size + its2.toArray.size ≤ sizeLine := by rw [List.size_toArray, List.size_toArray]; omega
  have hlong : ¬ (!its.toArray.isEmpty && Builtin.List.listTooLong (its.toArray.size + its2.toArray.size)) = true := by
    rw [notLongL hsz, Bool.and_false]
    exact Bool.false_ne_true
  refine call_meets F.slot_list_extend ⟨_, e, rfl⟩ F.entry_list_extend (F.args_list_extend_2 _ _)
    (list_extend_tup l its.toArray n b its2.toArray n2 dd sl hlong (by rw [List.size_toArray]; omega) (by omega)) ⟨e, e2, ?_⟩
  refine ⟨.non, _, I.lset (its' := its ++ its2) hH e (by simp) (r.append r2) ?_, rfl, q⟩
  rw [List.length_append]
  omega
theorem mtr_of {X : Cx} {id : String} {r : V → List V → Hp → VK → Prop} (h : MtM X id r) : MtR X id r := h
def mExtend : PM := fun x ps M Q => match x, ps with
  | .ref a, [.tup zs] => ∃ xs, M a = some (.lst xs) ∧ xs.length + zs.length ≤ sizeLine ∧ Q .non (pupd M a (.lst (xs ++ zs)))
  | .ref a, [.ref b] => ∃ xs zs, M a = some (.lst xs) ∧ M b = some (.lst zs) ∧ xs.length + zs.length ≤ sizeLine ∧ Q .non (pupd M a (.lst (xs ++ zs)))
  | _, _ => False
theorem mono_extend : MonoM mExtend := by
  intro x ps M Q Q' k h
  unfold mExtend at h ⊢
  split at h
  · exact let ⟨xs, a, b, c⟩ := h; ⟨xs, a, b, k _ _ c⟩
  · exact let ⟨xs, zs, a, b, c, d⟩ := h; ⟨xs, zs, a, b, c, k _ _ d⟩
  · exact h
theorem mt_ext {X : Cx} : MtR X "list.extend" (fun x vs H Q => rExtend x vs H Q ∨ r0ExtT X.K x vs H Q) := MtR.or (mtr_of mt_extend) (mtr_of mt_extT)
theorem lift_extend {K : Fg} : LiftM K mExtend (fun x vs H Q => rExtend x vs H Q ∨ r0ExtT K x vs H Q) := by
  intro M H x ps v vs Q rh rx r h
  unfold mExtend at h
  split at h
  · obtain ⟨u, rfl, ru⟩ := reps1 r
    rw [Rep] at rx; subst rx
    rw [Rep] at ru
    obtain ⟨b, ws, rfl, hs, r2⟩ := ru
    obtain ⟨xs, e, hz, q⟩ := h
    obtain ⟨us, hu, rr⟩ := rh _ _ e
    exact .inr ⟨_, b, us, ws, rfl, rfl, hu, hs, by rw [← rr.length, ← r2.length]; exact hz, dn_wr rh e hu (rr.append r2) (by rw [Rep]) q⟩
  · obtain ⟨u, rfl, ru⟩ := reps1 r
    rw [Rep] at rx; subst rx
    rw [Rep] at ru; subst ru
    obtain ⟨xs, zs, e, e2, hz, q⟩ := h
    obtain ⟨us, hu, rr⟩ := rh _ _ e
    obtain ⟨ws, hw, r2⟩ := rh _ _ e2
    exact .inl ⟨_, _, us, ws, rfl, rfl, hu, hw, by rw [← rr.length, ← r2.length]; exact hz, dn_wr rh e hu (rr.append r2) (by rw [Rep]) q⟩
  · exact h.elim
/-! sep.join of a list just made, of a list or tuple -/
def strsOf : List PV → Option (List Str)
  | [] => some []
  | .str b :: r => (strsOf r).map (b :: ·)
  | _ => none
theorem strsOf_rep {K : Fg} {H : Hp} : ∀ {xs : List PV} {vs : List V} {bs : List Str}, strsOf xs = some bs → Reps K H xs vs → vs = bs.map V.str
  | [], vs, bs, e, r => by
    rw [Reps] at r
    cases e
    exact r
  | .str b :: t, vs, bs, e, r => by
    rw [Reps] at r
    obtain ⟨v, u, rfl, h1, h2⟩ := r
    rw [Rep] at h1; subst h1
    simp only [strsOf, Option.map_eq_some_iff] at e
    obtain ⟨cs, e1, rfl⟩ := e
    rw [strsOf_rep e1 h2]
    rfl
theorem strsOf_map : ∀ bs : List Str, strsOf (bs.map PV.str) = some bs
  | [] => rfl
  | b :: r => by simp [strsOf, strsOf_map r]
/-- sep.join(l), l just made -/
def wJoinL (o : WE) (l : WL) : WE := fun EP s M Q => o EP s M fun x M1 => match x with
  | .str sep => l EP s M1 fun xs M2 => match strsOf xs with
    | some ys => (ys.map (·.length)).sum + ys.length * sep.length ≤ 16777216 ∧ Q (.str (Str.join sep ys)) M2
    | none => False
  | _ => False
theorem txt_join (a : Str) (ys : List Str) : Txt.join a ys = Str.join a ys := TL.join_eq a ys
theorem ee_joinL {X : Cx} {W : WX} {o e : Expr} {wo : WE} {wl : WL} {apos pos : Pos} (ho : EE X W o wo) (he : EL X W e wl) (hs : starEach [e] X.env = [(false, eval e X.env)] := by rfl) (hbase : attributeBase o "join" X.env (eval o X.env) = eval o X.env := by rfl) (hline : (apos.endLine == pos.line) = true := by rfl) :
    EE X W (.Call (.Attribute o "join" apos) [e] [] pos) (wJoinL wo wl) := by
  refine ⟨fun EP s M Q Q' k h => ho.mono _ _ _ _ _ (fun x M1 z => ?_) h, pe_weak (pe_join ho.run he.run hs hbase hline) ?_⟩
  · cases x with
    | str sep => exact he.mono _ _ _ _ _ (fun xs M2 z2 => by
        split at z2
        · exact ⟨z2.1, k _ _ z2.2⟩
        · exact z2) z
    | _ => exact z
  · rintro σ H Q ⟨EP, s, M, c, h⟩
    refine c.use ho.mono h fun x M1 v H1 h1 S1 c1 r1 => ?_
    cases x with
    | str sep =>
      rw [Rep] at r1; subst r1
      refine ⟨⟨_, rfl⟩, ?_⟩
      refine c1.useL he.mono h1 fun xs M2 D vs H2 h2 S2 c2 n w e1 rr z => ?_
      split at h2
      · rename_i ys e2
        have e3 := strsOf_rep e2 rr
        subst e3
        refine ⟨sep, D, ys, rfl, rfl, .inl (SqL.of e1), h2.1, ?_⟩
        rw [txt_join]
        exact h2.2 _ H2 (S1.trans S2) c2.rh (by rw [Rep])
      · exact h2.elim
    | _ => exact h1.elim
/-! ## stores -/
def rStL (o i v : PV) (M : PH) (Q : PH → Prop) : Prop := match o, i with
  | .ref a, .int k => ∃ xs j, M a = some (.lst xs) ∧ ixN xs.length k = some j ∧ Q (pupd M a (.lst (xs.set j v)))
  | _, _ => False
/-- o[i] = e: e first, then o, then i -/
def wStL (o i e : WE) : WS := fun EP D s M => e EP s M fun v M1 => o EP s M1 fun x M2 => i EP s M2 fun y M3 => rStL x y v M3 fun M4 => D.nx s M4
theorem es_stL {X : Cx} {W : WX} {o i e : Expr} {wo wi we : WE} {pos pos' : Pos} (ho : EE X W o wo) (hi : EE X W i wi) (he : EE X W e we)
    (ha : ∀ v, assign (.Subscript o i pos) X.env v = (do
      let ov ← holding [v] (eval o X.env)
      let iv ← holding [v, ov] (eval i X.env)
      standAt pos
      holding [v, ov, iv] (setItem ov iv v)
      release [v, ov, iv] []) := by intro _; rfl)
    (hs : swapsWithSole [.Subscript o i pos] e pos'.line X.env = pure false := by rfl) (hw : swappedStores [.Subscript o i pos] e X.env = pure none := by rfl)
    (h1 : (assignEach [.Subscript o i pos] X.env).map (·.2) = [assign (.Subscript o i pos) X.env] := by rfl) : ES X W (.Assign [.Subscript o i pos] e pos') (wStL wo wi we) := by
  refine ⟨fun EP D D' s M k h => he.mono _ _ _ _ _ (fun v M1 z1 => ho.mono _ _ _ _ _ (fun x M2 z2 => hi.mono _ _ _ _ _ (fun y M3 z3 => ?_) z2) z1) h, ps_weak (ps_asg he.run (pg_sub ho.run hi.run set_list ha) hs hw h1) ?_⟩
  · unfold rStL at z3 ⊢
    split at z3
    · exact let ⟨xs, j, a, b, c⟩ := z3; ⟨xs, j, a, b, k.nx _ _ c⟩
    · exact z3
  · rintro D σ H ⟨EP, s, M, c, h⟩
    refine c.use he.mono h fun v M1 vv H1 h1 S1 c1 r1 => ?_
    refine c1.use ho.mono h1 fun x M2 xv H2 h2 S2 c2 r2 => ?_
    refine c2.use hi.mono h2 fun y M3 yv H3 h3 S3 c3 r3 => ?_
    unfold rStL at h3
    split at h3
    · rename_i a k
      obtain ⟨xs, j, e1, e2, q⟩ := h3
      rw [Rep] at r2; subst r2
      rw [Rep] at r3; subst r3
      obtain ⟨us, hu, rr⟩ := c3.rh _ _ e1
      have hw : Wr M3 a := ⟨_, e1, rfl⟩
      have t : TKeep H3 (upd H3 a (.lst (us.set j vv))) := tk_upd (c3.rh.notup hw)
      have rv : Rep X.K H3 v vv := (r1.tk (S2.tk c1.rh)).tk (S3.tk c2.rh)
      refine ⟨a, us, _, j, rfl, rfl, hu, by rw [← rr.length]; exact e2, ?_⟩
      exact q σ _ (((S1.trans S2).trans S3).trans (Step.write hw)) (c3.rh.upd_both (c3.rh.notup hw) ⟨_, upd_same, (rr.set rv j).tk t⟩) (c3.rs.tk t)
    · exact h3.elim
/-! ## more that is walked -/
def iRg1 (a : WA) : WI := fun EP s M Q => a EP s M fun ps M1 => match ps with
  | [.int j] => -(2 ^ 62) ≤ j ∧ j < 2 ^ 62 ∧ Q ⟨(List.range j.toNat).map fun i => .int (i : Nat), fun _ => True⟩ M1
  | _ => False
def iRg2 (a : WA) : WI := fun EP s M Q => a EP s M fun ps M1 => match ps with
  | [.int i, .int j] => (-(2 ^ 62) ≤ i ∧ i < 2 ^ 62 ∧ -(2 ^ 62) ≤ j ∧ j < 2 ^ 62) ∧ Q ⟨(List.range (j - i).toNat).map fun k => .int (i + (k : Nat)), fun _ => True⟩ M1
  | _ => False
section
variable {X : Cx} {W : WX} {tg : Expr}
theorem itr_ok {K : Fg} {lo : Int} {n : Nat} {M : PH} {H : Hp} : ItOk K (Itr lo n) ⟨(List.range n).map fun k => .int (lo + (k : Nat)), fun _ => True⟩ M H := by
  intro i M2 H2 S2 rh2 _
  refine ⟨fun p hp => ?_, fun hi => ?_⟩
  · have hp' : ((List.range n).map fun k : Nat => PV.int (lo + (k : Nat)))[i]? = some p := hp
    rw [List.getElem?_map] at hp'
    obtain ⟨k, e1, e2⟩ := Option.map_eq_some_iff.mp hp'
    have hlt : i < n := by
      have := (List.getElem?_eq_some_iff.mp e1).1
      simpa using this
    rw [List.getElem?_range hlt] at e1
    cases e1
    refine ⟨hlt, fun x H' hy => ?_⟩
    obtain ⟨rfl, rfl⟩ := hy
    exact ⟨.refl _ _, rh2, by rw [← e2, Rep]⟩
  · have hi' : i = ((List.range n).map fun k : Nat => PV.int (lo + (k : Nat))).length := hi
    simp only [List.length_map, List.length_range] at hi'
    exact Nat.le_of_eq hi'.symm
theorem ei_range1 {a : Expr} {wa : WA} {p pos : Pos} (hm : X.mg "range" = none) (ha : EA X W [a] wa) (hg : Gl X "range" := by rfl) (hs : starEach [a] X.env = [(false, eval a X.env)] := by rfl) : EI X W tg (.Call (.Name "range" p) [a] [] pos) (iRg1 wa) := by
  refine ⟨fun EP s M Q Q' k h => ha.mono _ _ _ _ _ (fun ps M1 z => ?_) h, pi_weak (pi_range1 hg hm ha.run hs) ?_⟩
  · split at z
    · exact ⟨z.1, z.2.1, k _ _ z.2.2⟩
    · exact z
  · rintro σ H R ⟨EP, s, M, c, h⟩
    refine c.useA ha.mono h fun ps M1 vs H1 h1 S1 c1 r1 => ?_
    split at h1
    · obtain ⟨v, rfl, rv⟩ := reps1 r1
      rw [Rep] at rv; subst rv
      refine ⟨_, rfl, h1.1, h1.2.1, h1.2.2 _ H1 S1 c1.rh ?_⟩
      have := itr_ok (K := X.K) (lo := 0) (n := ‹Int›.toNat) (M := M1) (H := H1)
      simpa using this
    · exact h1.elim
theorem ei_range2 {a b : Expr} {wa : WA} {p pos : Pos} (hm : X.mg "range" = none) (ha : EA X W [a, b] wa) (hg : Gl X "range" := by rfl) (hs : starEach [a, b] X.env = [(false, eval a X.env), (false, eval b X.env)] := by rfl) (hs2 : starEach [b] X.env = [(false, eval b X.env)] := by rfl) : EI X W tg (.Call (.Name "range" p) [a, b] [] pos) (iRg2 wa) := by
  refine ⟨fun EP s M Q Q' k h => ha.mono _ _ _ _ _ (fun ps M1 z => ?_) h, pi_weak (pi_range2 hg hm ha.run hs hs2) ?_⟩
  · split at z
    · exact ⟨z.1, k _ _ z.2⟩
    · exact z
  · rintro σ H R ⟨EP, s, M, c, h⟩
    refine c.useA ha.mono h fun ps M1 vs H1 h1 S1 c1 r1 => ?_
    split at h1
    · obtain ⟨v, u, rfl, rv, ru⟩ := reps2 r1
      rw [Rep] at rv; subst rv
      rw [Rep] at ru; subst ru
      exact ⟨_, _, rfl, h1.1, h1.2 _ H1 S1 c1.rh itr_ok⟩
    · exact h1.elim
end
end PL
set_option autoImplicit false
namespace PL
open PySem PySem.Spec L2
open PyProof.Rows hiding St

/-! ## the end: from the law's promise to what the row asks -/
/-- what the law's def is asked: one argument, the script, read only -/
def LawP (B : Int → Prop) : PSp := fun ps M Q _ => ∃ (a : Addr) (ns : List Int), ps = [.ref a] ∧ M a = some (.rol (ns.map PV.int)) ∧ (∀ b, b ≠ a → M b = none) ∧ ns.length ≤ 63 ∧ (∀ z ∈ ns, B z) ∧ ∀ M', Q (.bl true) M'
theorem mono_law {B : Int → Prop} : MonoP (LawP B) := by
  intro ps M Q Q' E E' k _ h
  obtain ⟨a, ns, h1, h2, h3, h4, h5, h6⟩ := h
  exact ⟨a, ns, h1, h2, h3, h4, h5, fun M' => k _ _ (h6 M')⟩
theorem law_sp {K : Fg} {H : Hp} {a : Addr} {ns : List Int} {B : Int → Prop} {E : XK} (hl : ns.length ≤ 63) (hb : ∀ z ∈ ns, B z) (hO : Only H) (hS : SqL K H a (ns.map V.int)) : spOf K 1 (LawP B) [.ref a] H (fun v _ => v = .bl true) E := by
  refine ⟨[.ref a], fun b => if b = a then some (.rol (ns.map PV.int)) else none, rfl, .cons (by rw [Rep]) .nil, fun b o e => ?_, a, ns, rfl, if_pos rfl, fun b hb => if_neg hb, hl, hb, fun M' v H' _ _ r => by rw [Rep] at r; exact r⟩
  by_cases hb : b = a
  · subst hb
    have e2 : some (PO.rol (ns.map PV.int)) = some o := (if_pos rfl).symm.trans e
    cases e2
    refine ⟨ns.map V.int, ?_, Reps.ints⟩
    rcases hS with (h | ⟨ob, h⟩) | h
    · rcases hO b with z | ⟨_, _, z⟩
      · rw [h] at z; cases z
      · rw [h] at z; cases z
    · exact .inl ⟨ob, h⟩
    · exact .inr h
  · have e2 : none = some o := (if_neg hb).symm.trans e
    cases e2
theorem law_callG {P : Program} {w : World} {K : Fg} {mg mb : Str → Option Value} {k : Nat} {fa a : Addr} {fd : FuncData} {x : Str} {B : Int → Prop} {st : Shared} {vs : List Value} {ns : List Int}
    (KX : K.In st.heap) (hns : st.heap.Ns mainGlobals mg) (hbn : st.heap.Ns builtinsNs mb) (hbb : ∀ y : Str, y ≠ "__name__" → mb y = bootBuiltins y) (hlim : st.heap.NoLimit) (hg : st.gens = #[])
    (ha : st.heap.get? a = some { cls := .type "list", data := .seq vs.toArray }) (hi : IntsAre vs ns) (hl : ns.length ≤ 63) (hB : ∀ z ∈ ns, B z) (hr : Room k callerA)
    (F : ∀ base : Heap, K.In base → base.Ns mainGlobals mg → FnG P w K mg base k fa fd [x] (LawP B)) (hbind : ∀ (s : Shared) (u : Value), BindsTo s fd ⟨[u], []⟩ [(x, u)]) :
    codeAny (model P w) callerA (.call (.ref fa) ⟨[.ref a], []⟩) (fun r s' => r = .ok (.ret (.bool true)) ∧ OldK st.heap s'.heap ∧ s'.os = st.os ∧ AllBare s'.gens) st := by
  have rv := vals_ints hi
  have lv : vs.length = ns.length := hi.length
  have hline : ns.length ≤ sizeLine := by rw [sizeLine_eq]; omega
  suffices key : ∀ H : Hp, Only H → SqL K H a (ns.map V.int) → HOk P w H st.heap → (∀ b, H b ≠ none → b = a ∧ K.lookup a = none) →
      codeAny (model P w) callerA (.call (.ref fa) ⟨[.ref a], []⟩) (fun r s' => r = .ok (.ret (.bool true)) ∧ OldK st.heap s'.heap ∧ s'.os = st.os ∧ AllBare s'.gens) st by
    cases hk : K.lookup a with
    | some o =>
      have e := KX a o hk
      rw [ha] at e
      cases e
      refine key (fun _ => none) (fun _ => .inl rfl) (.inr ⟨_, vs.toArray, _, hk, rfl, rfl, rfl, by rw [List.size_toArray, lv]; exact hline, by simpa using rv⟩) (fun b u z => ?_) fun b z => absurd rfl z
      have z2 : (none : Option HO) = some u := z
      cases z2
    | none =>
      refine key (fun b => if b = a then some (.frz { cls := .type "list", data := .seq vs.toArray } (.lst (ns.map V.int))) else none) (fun b => ?_) (.inl (.inr ⟨_, if_pos rfl⟩)) (fun b u z => ?_) fun b z => ?_
      · by_cases hb : b = a
        · exact .inr ⟨_, _, if_pos hb⟩
        · exact .inl (if_neg hb)
      · by_cases hb : b = a
        · cases (if_pos hb).symm.trans z
          subst hb
          exact ⟨ha, by rw [List.length_map]; exact hline, vs, _, rv, ha⟩
        · cases (if_neg hb).symm.trans z
      · by_cases hb : b = a
        · exact ⟨hb, hk⟩
        · exact absurd (if_neg hb) z
  intro H hO hS hok hA
  have down : ∀ {b : Addr} {o : Obj}, st.heap.get? b = some o → H b = none → (hidT st.heap H).get? b = some o := fun e n => hidT_get e n
  have nd : ∀ {b : Addr} {o : Obj} {es : Array DictEntry} {ep : Nat}, st.heap.get? b = some o → o.data = .dict es ep → H b = none := by
    intro b o es ep e d
    by_cases q : H b = none
    · exact q
    · have e2 := (hA b q).1
      subst e2
      rw [ha] at e
      cases e
      cases d
  have nsK : ∀ {b : Addr} {m : Str → Option Value}, st.heap.Ns b m → (hidT st.heap H).Ns b m := by
    rintro b m ⟨o, es, ep, e, d, r⟩
    exact ⟨o, es, ep, down e (nd e d), d, r⟩
  have hKb : K.In (hidT st.heap H) := fun b o e => by
    refine down (KX b o e) ?_
    by_cases q : H b = none
    · exact q
    · obtain ⟨e2, e3⟩ := hA b q
      subst e2
      rw [e3] at e; cases e
  have hM : Mod K mg (hidT st.heap H) := ⟨hKb, nsK hns, ⟨mb, nsK hbn, hbb⟩, let ⟨mc, h1, h2⟩ := hlim; ⟨mc, nsK h1, h2⟩⟩
  have e0 : Env0 P w K mg (hidT st.heap H) callerA [] st H :=
    { frames := rfl, mod := hM, bs := fun b o e => of_hidT e, bsz := Nat.le_of_eq (hidT_size _ _), funs := trivial, frf := fun b hb => absurd (show b ∈ ([] : List Addr) from hb) (by simp), hok := hok, bare := .of_eq hg }
  refine codeAny_mono ((F _ hKb (nsK hns)).run callerA [] st H ⟨[.ref a], []⟩ [.ref a] [.ref a] _ (fun _ _ _ => False) hr rfl e0 (hbind st (.ref a)) (.cons rfl .nil) (law_sp hl hB hO hS)) fun r s' h => ?_
  match r, h with
  | .error e, h => exact (by obtain ⟨_, _, _, _, _, _, _, _, _, _, _, _, z⟩ := h; exact z.elim)
  | .ok .next, h => exact h.elim
  | .ok .brk, h => exact h.elim
  | .ok .cont, h => exact h.elim
  | .ok (.ret u), h =>
    obtain ⟨v, H', os, bare, un, hok', r', q⟩ := h
    have q2 : v = .bl true := q
    subst q2
    obtain rfl : u = Value.bool true := r'
    refine ⟨rfl, OldK.of_keep fun b o e => ?_, os, bare⟩
    rcases hO b with z | ⟨ob, xs, z⟩
    · exact un.keep b o e z (by intro y; exact absurd (show b ∈ ([] : List Addr) from y) (by simp)) (by simp)
    · obtain ⟨e1, _⟩ := hok b _ z
      obtain ⟨e2, _⟩ := hok' b _ (un.frzs b ob _ z)
      rw [e] at e1; cases e1
      exact e2
/-- the goal that the head leaves -/
theorem walk_G {l : PySem.W.OpenLaw} {k : Nat} {q : Program} {loose : List Str} {XP : (Str → Option Value) → Heap → Prop} {YP : World → Heap → Prop} {d : DefRec} {K : Params → PySem.W.Frag} {x : Str}
    (hn : l.most = some 63) (hdf : d.params.defaults = []) (hr : Room k callerA) (hY : ∀ (w : World) (h : Heap), YP w h → (K w.params).In h)
    (F : ∀ (w : World) (mg : Str → Option Value) (fa : Addr) (h : Heap), (K w.params).In h → h.Ns mainGlobals mg → mg d.name = some (.ref fa) →
      ∃ fd : FuncData, (∀ (s : Shared) (u : Value), BindsTo s fd ⟨[u], []⟩ [(x, u)]) ∧ ∀ base : Heap, (K w.params).In base → base.Ns mainGlobals mg → FnG l.prog w (K w.params) mg base k fa fd [x] (LawP fun z => Builtin.Int.intBits z ≤ 1048576)) :
    PySem.W.WalkO q loose XP YP l.row.toRowW d [] (fun f vs => PySem.call f vs) := by
  refine Att.attach_callB hn hdf fun w s₀ s₁ mg mb fa o pm cd doc a vs ns G Y ho hd hcd hmg hobj hints hlen hbits hg => ?_
  have KX := hY w _ Y
  obtain ⟨fd, hb, hF⟩ := F w mg fa _ KX G.T.g hmg
  exact law_callG KX G.T.g G.T.b G.T.builtins G.T.nolimit hg hobj hints hlen hbits hr hF hb
theorem hu100 {A : Around} {k : Nat} (hr : Room k A) : A.units + 100 < cLine := by have := hr.un; omega
theorem hu65 {A : Around} {k : Nat} (hr : Room k A) : A.units + 65 < cLine := by have := hr.un; omega
theorem hu64 {A : Around} {k : Nat} (hr : Room k A) : A.units + 64 < cLine := by have := hr.un; omega
end PL
set_option autoImplicit false
namespace PL
open PySem PySem.Spec L2
open PyProof.Rows hiding St

/-! ## lists just made, as operands -/
section
variable {X : Cx} {W : WX} {a b : Expr} {wa : WE} {wl wk : WL} {pos : Pos}
/-- xs + [..] -/
def wCatEL (e : WE) (l : WL) : WL := fun EP s M Q => e EP s M fun x M1 => l EP s M1 fun ys M2 => match x with
  | .ref a => ∃ xs, M2 a = some (.lst xs) ∧ xs.length + ys.length ≤ sizeLine ∧ Q (xs ++ ys) M2
  | _ => False
theorem el_catEL (ha : EE X W a wa) (hb : EL X W b wl) : EL X W (.BinOp a .Add b pos) (wCatEL wa wl) := by
  refine ⟨fun EP s M Q Q' k h => ha.mono _ _ _ _ _ (fun x M1 z => hb.mono _ _ _ _ _ (fun ys M2 z2 => ?_) z) h, pe_weak (pe_op op_cat ha.run hb.run) ?_⟩
  · cases x with
    | ref a => exact let ⟨xs, p, q, r⟩ := z2; ⟨xs, p, q, k _ _ r⟩
    | _ => exact z2
  · rintro σ H Q ⟨EP, s, M, c, h⟩
    refine c.use ha.mono h fun x M1 v H1 h1 S1 c1 r1 => ?_
    refine c1.useL hb.mono h1 fun ys M2 D vs H2 h2 S2 c2 n w e rr z => ?_
    cases x with
    | ref p =>
      obtain ⟨xs, e1, hz, q⟩ := h2
      rw [Rep] at r1; subst r1
      obtain ⟨us, hu, ru⟩ := c2.rh _ _ e1
      refine ⟨p, D, us, vs, rfl, rfl, hu, e, by rw [← ru.length, ← rr.length]; exact hz, ?_⟩
      exact dnL_new c2.rh (ru.append rr) (by rw [List.length_append]; exact hz) (q.on (S1.trans S2))
    | _ => exact h2.elim
/-- a comparison with a list just made -/
def wEqL (neg : Bool) (e : WE) (l : WL) : WE := fun EP s M Q => e EP s M fun x M1 => l EP s M1 fun ys M2 => match datM M2 x with
  | some d => purs ys = true ∧ shp d = true ∧ shp (.list (dats ys)) = true ∧ Q (.bl (if neg then !PyData.eqv d (.list (dats ys)) else PyData.eqv d (.list (dats ys)))) M2
  | none => False
theorem mono_eqL {neg : Bool} (ha : MonoE wa) (hb : MonoA wl) : MonoE (wEqL neg wa wl) := fun EP s M Q Q' k h => ha _ _ _ _ _ (fun x M1 z => hb _ _ _ _ _ (fun ys M2 z2 => by
  split at z2
  · exact ⟨z2.1, z2.2.1, z2.2.2.1, k _ _ z2.2.2.2⟩
  · exact z2) z) h
theorem up_eqL (ha : MonoE wa) (hb : MonoA wl) : ∀ σ H Q, up X.K W (wEqL false wa wl) σ H Q → tOp (rEqD X.K) (up X.K W wa) (upL X.K W wl) σ H Q := by
  rintro σ H Q ⟨EP, s, M, c, h⟩
  refine c.use ha h fun x M1 v H1 h1 S1 c1 r1 => ?_
  refine c1.useL hb h1 fun ys M2 D vs H2 h2 S2 c2 n w e rr z => ?_
  split at h2
  · rename_i d e1
    exact ⟨d, _, datM_dp c2.rh (r1.tk (S2.tk c1.rh)) e1, .lst (SqL.of e) (dps_of h2.1 rr), h2.2.1, h2.2.2.1, h2.2.2.2 _ H2 (S1.trans S2) c2.rh (by rw [Rep]; rfl)⟩
  · exact h2.elim
theorem up_neL (ha : MonoE wa) (hb : MonoA wl) : ∀ σ H Q, up X.K W (wEqL true wa wl) σ H Q → tOp (rNeD X.K) (up X.K W wa) (upL X.K W wl) σ H Q := by
  rintro σ H Q ⟨EP, s, M, c, h⟩
  refine c.use ha h fun x M1 v H1 h1 S1 c1 r1 => ?_
  refine c1.useL hb h1 fun ys M2 D vs H2 h2 S2 c2 n w e rr z => ?_
  split at h2
  · rename_i d e1
    exact ⟨d, _, datM_dp c2.rh (r1.tk (S2.tk c1.rh)) e1, .lst (SqL.of e) (dps_of h2.1 rr), h2.2.1, h2.2.2.1, h2.2.2.2 _ H2 (S1.trans S2) c2.rh (by rw [Rep]; rfl)⟩
  · exact h2.elim
theorem ee_eqL (hu : X.A.units + 64 < cLine) (ha : EE X W a wa) (hb : EL X W b wl) : EE X W (.Compare a [.Eq] [b] pos) (wEqL false wa wl) :=
  ⟨mono_eqL ha.mono hb.mono, pe_weak (pe_cmpR (op_eqD hu) ha.run hb.run (nomark _)) (up_eqL ha.mono hb.mono)⟩
theorem ee_neL (hu : X.A.units + 64 < cLine) (ha : EE X W a wa) (hb : EL X W b wl) : EE X W (.Compare a [.NotEq] [b] pos) (wEqL true wa wl) :=
  ⟨mono_eqL ha.mono hb.mono, pe_weak (pe_cmpR (op_neD hu) ha.run hb.run (nomark _)) (up_neL ha.mono hb.mono)⟩
theorem et_eqL (hu : X.A.units + 64 < cLine) (ha : EE X W a wa) (hb : EL X W b wl) : ET X W (.Compare a [.Eq] [b] pos) (wTest (wEqL false wa wl)) :=
  ⟨mono_test (mono_eqL ha.mono hb.mono), pt_weak (pt_cmpR (op_eqD hu) ha.run hb.run (nomark _)) fun σ H Q h => up_eqL (W := W) ha.mono hb.mono σ H _ (up_test (mono_eqL ha.mono hb.mono) σ H Q h)⟩
theorem et_neL (hu : X.A.units + 64 < cLine) (ha : EE X W a wa) (hb : EL X W b wl) : ET X W (.Compare a [.NotEq] [b] pos) (wTest (wEqL true wa wl)) :=
  ⟨mono_test (mono_eqL ha.mono hb.mono), pt_weak (pt_cmpR (op_neD hu) ha.run hb.run (nomark _)) fun σ H Q h => up_neL (W := W) ha.mono hb.mono σ H _ (up_test (mono_eqL ha.mono hb.mono) σ H Q h)⟩
/-- [..][i] -/
def wIxL (l : WL) (i : WE) : WE := fun EP s M Q => l EP s M fun xs M1 => i EP s M1 fun y M2 => match y with
  | .int k => match atI xs k with
    | some p => Q p M2
    | none => False
  | _ => False
theorem ee_ixL (hl : EL X W a wl) (hi : EE X W b wa) (hs : PlainIx b := by exact fun _ _ => rfl) : EE X W (.Subscript a b pos) (wIxL wl wa) := by
  refine ⟨fun EP s M Q Q' k h => hl.mono _ _ _ _ _ (fun xs M1 z => hi.mono _ _ _ _ _ (fun y M2 z2 => ?_) z) h, pe_weak (pe_ix ix_seq hl.run hi.run hs) ?_⟩
  · cases y with
    | int j =>
      dsimp only at z2 ⊢
      split at z2
      · exact k _ _ z2
      · exact z2
    | _ => exact z2
  · rintro σ H Q ⟨EP, s, M, c, h⟩
    refine c.useL hl.mono h fun xs M1 D vs H1 h1 S1 c1 n w e rr z => ?_
    refine c1.use hi.mono h1 fun y M2 v H2 h2 S2 c2 r2 => ?_
    cases y with
    | int j =>
      rw [Rep] at r2; subst r2
      dsimp only at h2
      split at h2
      · rename_i p e1
        have r3 := rr.tk (S2.tk c1.rh)
        obtain ⟨u, e2, ru⟩ := atI_rep r3 e1
        exact .inl ⟨D, vs, j, u, rfl, rfl, SqL.of (S2.keep D _ e w), e2, h2 u H2 (S1.trans S2) c2.rh ru⟩
      · exact h2.elim
    | _ => exact h2.elim
/-- -a -/
def wNeg (e : WE) : WE := fun EP s M Q => e EP s M fun x M1 => match x with
  | .int i => Q (.int (-i)) M1
  | _ => False
theorem ee_neg (ha : EE X W a wa) : EE X W (.UnaryOp .USub a pos) (wNeg wa) := by
  refine ⟨fun EP s M Q Q' k h => ha.mono _ _ _ _ _ (fun x M1 z => ?_) h, pe_weak (pe_un un_neg ha.run) ?_⟩
  · cases x with
    | int i => exact k _ _ z
    | _ => exact z
  · rintro σ H Q ⟨EP, s, M, c, h⟩
    refine c.use ha.mono h fun x M1 v H1 h1 S1 c1 r1 => ?_
    cases x with
    | int i => rw [Rep] at r1; exact ⟨i, r1, h1 _ H1 S1 c1.rh (by rw [Rep])⟩
    | _ => exact h1.elim
end
/-! ## promises -/
def pN (n : Nat) (p : PSp) : PSp := fun ps M Q E => ps.length = n ∧ p ps M Q E
theorem pN_len {n : Nat} {p : PSp} : LenP (pN n p) n := fun _ _ _ _ h => h.1
theorem pN_mono {n : Nat} {p : PSp} (h : MonoP p) : MonoP (pN n p) := fun ps M Q Q' E E' k k2 z => ⟨z.1, h _ _ _ _ _ _ k k2 z.2⟩
/-- a def that gives f of its arguments, where C holds of them, and leaves what stands as it is -/
def pF (C : List PV → PH → Prop) (f : List PV → PH → PV) : PSp := fun ps M Q _ => C ps M ∧ Q (f ps M) M
theorem pF_mono {C : List PV → PH → Prop} {f : List PV → PH → PV} : MonoP (pF C f) := fun ps M Q Q' E E' k _ z => ⟨z.1, k _ _ z.2⟩
theorem lenLaw {B : Int → Prop} : LenP (LawP B) 1 := fun ps M Q E h => by
  obtain ⟨a, ns, e, _⟩ := h
  rw [e]; rfl
/-- a tuple that the top has written -/
theorem rep_ktup {K : Fg} {H : Hp} {a : Addr} {xs : List PV} {vs : List V} {o : Obj} {its : Array Value} {n : Nat} (hk : K.lookup a = some o) (hc : o.cls = .type "tuple") (hd : o.data = .seq its n) (hz : its.size ≤ sizeLine) (hv : Vals vs its.toList) (r : Reps K H xs vs) : Rep K H (.tup xs) (.ref a) := by
  rw [Rep]
  exact ⟨a, vs, rfl, .inr ⟨o, its, n, hk, hc, hd, hz, hv⟩, r⟩
end PL
set_option autoImplicit false
namespace PL
open PySem PySem.Spec L2
open PyProof.Rows hiding St

/-- over a tuple, a list that stands, the signs of a text -/
def iAny (e : WE) : WI := fun EP s M Q => e EP s M fun p M1 => match p with
  | .tup xs => Q ⟨xs, fun _ => True⟩ M1
  | .ref a => match listAt M1 a with
    | some xs => Q ⟨xs, fun M => listAt M a = some xs⟩ M1
    | none => False
  | .str z => Q ⟨z.cps.toList.map fun c => .str ⟨#[c]⟩, fun _ => True⟩ M1
  | _ => False
section
variable {X : Cx} {W : WX} {tg e : Expr} {we : WE}
theorem it_tup {K : Fg} {a : Addr} {xs : List PV} {vs : List V} {M : PH} {H : Hp} (rh : RepH K H M) (hs : SqT K H a vs) (r : Reps K H xs vs) : ItOk K (Itt K a) ⟨xs, fun _ => True⟩ M H := by
  intro i M2 H2 S2 rh2 _
  have t := S2.tk rh
  refine ⟨fun p hp => ?_, fun hi => ⟨vs, sqt_keep t hs, by rw [← r.length, hi]; exact Nat.le_refl _⟩⟩
  obtain ⟨v, hv, rv⟩ := r.get hp
  refine ⟨⟨vs, v, sqt_keep t hs, hv⟩, fun x H' hy => ?_⟩
  obtain ⟨rfl, hy⟩ := hy
  have e1 := hy vs (sqt_keep t hs)
  rw [hv] at e1; cases e1
  exact ⟨.refl _ _, rh2, rv.tk t⟩
theorem it_list {K : Fg} {a : Addr} {xs : List PV} {M : PH} {H : Hp} : ItOk K (Itl K a) ⟨xs, fun M => listAt M a = some xs⟩ M H := by
  intro i M2 H2 S2 rh2 ok
  obtain ⟨vs, rr, hl⟩ := listAt_rd rh2 ok
  refine ⟨fun p hp => ?_, fun hi => ⟨vs, hl, by rw [← rr.length, hi]; exact Nat.le_refl _⟩⟩
  obtain ⟨v, hv, rv⟩ := rr.get hp
  refine ⟨⟨vs, v, hl, hv⟩, fun x H' hy => ?_⟩
  obtain ⟨rfl, hy⟩ := hy
  have e1 := hy vs hl
  rw [hv] at e1; cases e1
  exact ⟨.refl _ _, rh2, rv⟩
theorem it_str {K : Fg} {x : Str} {M : PH} {H : Hp} : ItOk K (Its x) ⟨x.cps.toList.map fun c => .str ⟨#[c]⟩, fun _ => True⟩ M H := by
  intro i M2 H2 S2 rh2 _
  refine ⟨fun p hp => ?_, fun hi => ?_⟩
  · have hp' : (x.cps.toList.map fun c => PV.str ⟨#[c]⟩)[i]? = some p := hp
    rw [List.getElem?_map] at hp'
    obtain ⟨cc, e1, e2⟩ := Option.map_eq_some_iff.mp hp'
    have e3 : x.cps[i]? = some cc := by simpa using e1
    refine ⟨(Array.getElem?_eq_some_iff.mp e3).1, fun y H' hy => ?_⟩
    obtain ⟨rfl, c', e4, rfl⟩ := hy
    rw [e3] at e4; cases e4
    exact ⟨.refl _ _, rh2, by rw [← e2, Rep]⟩
  · have hi' : i = (x.cps.toList.map fun c => PV.str ⟨#[c]⟩).length := hi
    simp only [List.length_map, Array.length_toList] at hi'
    exact Nat.le_of_eq hi'.symm
theorem ei_any (h : EE X W e we) : EI X W tg e (iAny we) := by
  refine ⟨fun EP s M Q Q' k q => h.mono _ _ _ _ _ (fun p M1 z => ?_) q, ⟨fun pins s σ H R I q => ?_⟩⟩
  · cases p with
    | tup xs => exact k _ _ z
    | str x => exact k _ _ z
    | ref a =>
      dsimp only at z ⊢
      split at z
      · exact k _ _ z
      · exact z
    | _ => exact z
  · obtain ⟨EP, sp, M, c, q⟩ := q
    have q2 : up X.K W we σ H fun v H1 => ∃ p M1, Step M H M1 H1 ∧ RepH X.K H1 M1 ∧ Rep X.K H1 p v ∧ (match p with
        | .tup xs => DnI X.K M H R ⟨xs, fun _ => True⟩ M1
        | .ref a => match listAt M1 a with
          | some xs => DnI X.K M H R ⟨xs, fun M => listAt M a = some xs⟩ M1
          | none => False
        | .str z => DnI X.K M H R ⟨z.cps.toList.map fun c => .str ⟨#[c]⟩, fun _ => True⟩ M1
        | _ => False) := c.use h.mono q fun p M1 v H1 h1 S c1 r => ⟨p, M1, S, c1.rh, r, h1⟩
    refine thn (h.run.run pins s σ H _ I q2) fun v s1 ⟨x, H1, I1, r1, p, M1, S, rh, rp, h1⟩ => ?_
    cases p with
    | tup xs =>
      rw [Rep] at rp
      obtain ⟨a, vs, rfl, hs, rr⟩ := rp
      cases r1
      obtain ⟨its, rv, pl, hz⟩ := I1.tuple hs
      exact wpAny_pyIter_tuple (show s1.heap.IsTuple a its.toArray from pl) (pi_one (tk := s1.toks) I1 _ (turn_tuple a _) ⟨_, Heap.get?_push_size _ rfl, rfl, rfl⟩ (h1 _ H1 S rh (it_tup rh hs rr)))
    | ref a =>
      rw [Rep] at rp
      subst rp
      cases r1
      dsimp only at h1
      split at h1
      · rename_i xs e1
        obtain ⟨vs, rr, hl⟩ := listAt_rd rh e1
        obtain ⟨its, rv, pl, hz⟩ := I1.list hl
        exact wpAny_pyIter_list pl.isList (pi_one (tk := s1.toks) I1 _ (turn_list a _) ⟨_, Heap.get?_push_size _ rfl, rfl, rfl⟩ (h1 _ H1 S rh it_list))
      · exact h1.elim
    | str z =>
      rw [Rep] at rp
      subst rp
      obtain ⟨t, rfl⟩ := r1
      cases ha : z.cps.all (· < 128)
      · exact wpAny_pyIter_wide ha (pi_one (tk := s1.toks) I1 _ (turn_str _ z t "str_iterator" (.inr rfl)) ⟨_, Heap.get?_push_size _ rfl, rfl, rfl⟩ (h1 _ H1 S rh it_str))
      · exact wpAny_pyIter_ascii ha (pi_one (tk := s1.toks) I1 _ (turn_str _ z t "str_ascii_iterator" (.inl rfl)) ⟨_, Heap.get?_push_size _ rfl, rfl, rfl⟩ (h1 _ H1 S rh it_str))
    | _ => exact h1.elim
end
end PL
set_option autoImplicit false
namespace PL
open PySem PySem.Spec L2
open PyProof.Rows hiding St

/-! ## one step at a time -/
section
variable {EP : PX} {D : PEnds} {s : PSt} {M : PH} {Q : QE} {QB : Bool → PH → Prop} {QA : List PV → PH → Prop}
theorem wSeq_i {t u : WS} (h : t EP { D with nx := u EP D } s M) : wSeq t u EP D s M := h
theorem wNext_i (h : D.nx s M) : wNext EP D s M := h
theorem wDrop_i {e : WE} (h : e EP s M fun _ M1 => D.nx s M1) : wDrop e EP D s M := h
theorem wRet_i {e : WE} (h : e EP s M D.rt) : wRet e EP D s M := h
theorem wSet_i {i : Nat} {e : WE} (h : e EP s M fun p M1 => D.nx (s.set i (some p)) M1) : wSet i e EP D s M := h
theorem wIf_i {c : WT} {t u : WS} (h : c EP s M fun b M1 => if b = true then t EP D s M1 else u EP D s M1) : wIf c t u EP D s M := h
theorem wVar_i {i : Nat} {p : PV} (e : s[i]? = some (some p)) (h : Q p M) : wVar i EP s M Q := by unfold wVar; rw [e]; exact h
theorem wC_i {p : PV} (h : Q p M) : wC p EP s M Q := h
theorem wNil_i (h : QA [] M) : wNil EP s M QA := h
theorem wCons_i {a : WE} {r : WA} (h : a EP s M fun x M1 => r EP s M1 fun xs M2 => QA (x :: xs) M2) : wCons a r EP s M QA := h
theorem wTup_i {a : WA} (h : a EP s M fun xs M1 => xs.length ≤ sizeLine ∧ Q (.tup xs) M1) : wTup a EP s M Q := h
theorem wNew_i {l : WL} (h : l EP s M fun xs M1 => ∀ D, ¬ Wr M D → ¬ Wr M1 D → Q (.ref D) (pupd M1 D (.lst xs))) : wNew l EP s M Q := h
theorem wDisp_i {a : WA} (h : a EP s M fun xs M1 => xs.length ≤ sizeLine ∧ QA xs M1) : wDisp a EP s M QA := h
theorem wOp_i {r : PR2} {a b : WE} (h : a EP s M fun x M1 => b EP s M1 fun y M2 => r x y M2 Q) : wOp r a b EP s M Q := h
def qBl (QB : Bool → PH → Prop) : QE := fun p M1 => match p with
  | .bl k => QB k M1
  | _ => False
theorem qBl_i {k : Bool} (h : QB k M) : qBl QB (.bl k) M := h
theorem wTest_i {w : WE} (h : w EP s M (qBl QB)) : wTest w EP s M QB := h
theorem wTru_i {w : WE} (h : w EP s M fun p M1 => truV p M1 QB) : wTru w EP s M QB := h
theorem truV_bl {b : Bool} (h : QB b M) : truV (.bl b) M QB := h
theorem wAndT_i {t u : WT} (h : t EP s M fun c M1 => if c = true then u EP s M1 QB else QB false M1) : wAndT t u EP s M QB := h
theorem wOrT_i {t u : WT} (h : t EP s M fun c M1 => if c = true then QB true M1 else u EP s M1 QB) : wOrT t u EP s M QB := h
theorem wNotT_i {t : WT} (h : t EP s M fun c M1 => QB (!c) M1) : wNotT t EP s M QB := h
def qAnd (u : WE) (EP : PX) (s : PSt) (Q : QE) : QE := fun x M1 => match x with
  | .bl c => if c = true then u EP s M1 Q else Q (.bl false) M1
  | _ => False
def qOr (u : WE) (EP : PX) (s : PSt) (Q : QE) : QE := fun x M1 => match x with
  | .bl c => if c = true then Q (.bl true) M1 else u EP s M1 Q
  | _ => False
theorem qAnd_i {u : WE} {c : Bool} (h : if c = true then u EP s M Q else Q (.bl false) M) : qAnd u EP s Q (.bl c) M := h
theorem qOr_i {u : WE} {c : Bool} (h : if c = true then Q (.bl true) M else u EP s M Q) : qOr u EP s Q (.bl c) M := h
theorem wAndV_i {t u : WE} (h : t EP s M (qAnd u EP s Q)) : wAndV t u EP s M Q := h
theorem wOrV_i {t u : WE} (h : t EP s M (qOr u EP s Q)) : wOrV t u EP s M Q := h
def qNot (Q : QE) : QE := fun x M1 => match x with
  | .bl c => Q (.bl (!c)) M1
  | _ => False
theorem qNot_i {c : Bool} (h : Q (.bl (!c)) M) : qNot Q (.bl c) M := h
theorem wNotV_i {t : WE} (h : t EP s M (qNot Q)) : wNotV t EP s M Q := h
theorem wIfE_i {t : WT} {a b : WE} (h : t EP s M fun c M1 => if c = true then a EP s M1 Q else b EP s M1 Q) : wIfE t a b EP s M Q := h
theorem ite_i {b : Bool} {A B : Prop} (h1 : b = true → A) (h2 : b = false → B) : if b = true then A else B := by cases b <;> simp_all
theorem ite_t {A B : Prop} (h : A) : if true = true then A else B := h
theorem ite_f {A B : Prop} (h : B) : if false = true then A else B := h
theorem wCall_i {p : PSp} {a : WA} {dv : List PV} (h : a EP s M fun ps M1 => p (ps ++ dv) M1 Q fun C fs M' => EP C fs s M') : wCall p a dv EP s M Q := h
theorem wCallK_i {p : PSp} {n m : Nat} {a ka : WA} {g : List PV → List PV → List PV} (h : a EP s M fun ps M1 => ka EP s M1 fun ks M2 => ps.length = n ∧ ks.length = m ∧ p (g ps ks) M2 Q fun C fs M' => EP C fs s M') : wCallK p n m a ka g EP s M Q := h
theorem wCB_i {r : PC} {a : WA} (h : a EP s M fun ps M1 => r ps M1 Q) : wCB r a EP s M Q := h
theorem wCBL_i {r : PCL} {a : WA} (h : a EP s M fun ps M1 => r ps M1 QA) : wCBL r a EP s M QA := h
theorem wBMt_i {T : String} {r : PM} {o : WE} {a : WA} (h : o EP s M fun x M1 => tyP M1 T x ∧ a EP s M1 fun ps M2 => r x ps M2 Q) : wBMt T r o a EP s M Q := h
theorem wStL_i {o i e : WE} (h : e EP s M fun v M1 => o EP s M1 fun x M2 => i EP s M2 fun y M3 => rStL x y v M3 fun M4 => D.nx s M4) : wStL o i e EP D s M := h
theorem wEqL_i {neg : Bool} {e : WE} {l : WL} (h : e EP s M fun x M1 => l EP s M1 fun ys M2 => match datM M2 x with
  | some d => purs ys = true ∧ shp d = true ∧ shp (.list (dats ys)) = true ∧ Q (.bl (if neg then !PyData.eqv d (.list (dats ys)) else PyData.eqv d (.list (dats ys)))) M2
  | none => False) : wEqL neg e l EP s M Q := h
/-! operators on known kinds -/
theorem rAdd_int {i j : Int} (h : Q (.int (i + j)) M) : rAdd (.int i) (.int j) M Q := h
theorem rAdd_str {i j : Str} (hz : i.length + j.length ≤ sizeLine) (h : Q (.str (i ++ j)) M) : rAdd (.str i) (.str j) M Q := ⟨hz, h⟩
theorem rAdd_tup {xs ys : List PV} (hz : xs.length + ys.length ≤ sizeLine) (h : Q (.tup (xs ++ ys)) M) : rAdd (.tup xs) (.tup ys) M Q := ⟨hz, h⟩
theorem rSub_int {i j : Int} (h : Q (.int (i - j)) M) : rSub (.int i) (.int j) M Q := ⟨trivial, h⟩
theorem rMul_int {i j : Int} (c : CMul i j) (h : Q (.int (i * j)) M) : rMul (.int i) (.int j) M Q := ⟨c, h⟩
theorem rMod_int {i j : Int} (c : j ≠ 0) (h : Q (.int (i.fmod j)) M) : rMod (.int i) (.int j) M Q := ⟨c, h⟩
theorem rFdiv_int {i j : Int} (c : CDivN i j) (h : Q (.int (i.fdiv j)) M) : rFdiv (.int i) (.int j) M Q := ⟨c, h⟩
theorem rPow_int {i j : Int} (c : CPow i j) (h : Q (.int (i ^ j.toNat)) M) : rPow (.int i) (.int j) M Q := ⟨c, h⟩
theorem rLt_int {i j : Int} (h : Q (.bl (decide (i < j))) M) : rLt (.int i) (.int j) M Q := h
theorem rLt_str {i j : Str} (h : Q (.bl (decide (i.cps.toList < j.cps.toList))) M) : rLt (.str i) (.str j) M Q := h
theorem rLe_int {i j : Int} (h : Q (.bl (decide (i ≤ j))) M) : rLe (.int i) (.int j) M Q := ⟨trivial, h⟩
theorem rGt_int {i j : Int} (h : Q (.bl (decide (j < i))) M) : rGt (.int i) (.int j) M Q := ⟨trivial, h⟩
theorem rGe_int {i j : Int} (h : Q (.bl (decide (j ≤ i))) M) : rGe (.int i) (.int j) M Q := ⟨trivial, h⟩
theorem rIx_tup {xs : List PV} {i : Int} {p : PV} (e : atI xs i = some p) (h : Q p M) : rIxP (.tup xs) (.int i) M Q := by
  unfold rIxP; dsimp only [seqAt]; rw [e]; exact h
theorem rIx_lst {a : Addr} {xs : List PV} {i : Int} {p : PV} (ea : M a = some (.lst xs)) (e : atI xs i = some p) (h : Q p M) : rIxP (.ref a) (.int i) M Q := by
  unfold rIxP; dsimp only [seqAt, listAt]; rw [ea]; dsimp only; rw [e]; exact h
theorem rIx_str {z : Str} {i : Int} {c : Nat} (hz : z.length ≤ sizeLine) (e : atI z.cps.toList i = some c) (h : Q (.str ⟨#[c]⟩) M) : rIxP (.str z) (.int i) M Q := by
  unfold rIxP; dsimp only; exact ⟨hz, by rw [e]; exact h⟩
theorem rStL_i {a : Addr} {xs : List PV} {k : Int} {j : Nat} {v : PV} {QH : PH → Prop} (ea : M a = some (.lst xs)) (e : ixN xs.length k = some j) (h : QH (pupd M a (.lst (xs.set j v)))) : rStL (.ref a) (.int k) v M QH := ⟨xs, j, ea, e, h⟩
theorem cLen_lst {a : Addr} {xs : List PV} (ea : M a = some (.lst xs)) (h : Q (.int xs.length) M) : cLen [.ref a] M Q := by
  unfold cLen; dsimp only; rw [ea]; unfold listAt; rw [ea]; exact h
theorem cLen_tup {xs : List PV} (h : Q (.int xs.length) M) : cLen [.tup xs] M Q := h
theorem cTup_lst {a : Addr} {xs : List PV} (ea : M a = some (.lst xs)) (h : Q (.tup xs) M) : cTup [.ref a] M Q := by
  unfold cTup seqAt; dsimp only; unfold listAt; rw [ea]; exact h
theorem cTup_tup {xs : List PV} (h : Q (.tup xs) M) : cTup [.tup xs] M Q := h
theorem cSorted_lst {a : Addr} {xs : List PV} (ea : M a = some (.lst xs)) (hs : Srtb xs) (hz : xs.length ≤ sizeLine) (h : QA (sortP xs) M) : cSorted [.ref a] M QA := by
  unfold cSorted; dsimp only; unfold listAt; rw [ea]; exact ⟨hs, hz, h⟩
theorem mAppend_i {a : Addr} {xs : List PV} {p : PV} (ea : M a = some (.lst xs)) (hz : xs.length < sizeLine) (h : Q .non (pupd M a (.lst (xs ++ [p])))) : mAppend (.ref a) [p] M Q := ⟨xs, ea, hz, h⟩
theorem mExtend_tup {a : Addr} {xs zs : List PV} (ea : M a = some (.lst xs)) (hz : xs.length + zs.length ≤ sizeLine) (h : Q .non (pupd M a (.lst (xs ++ zs)))) : mExtend (.ref a) [.tup zs] M Q := ⟨xs, ea, hz, h⟩
theorem tyP_lst {a : Addr} {xs : List PV} (ea : M a = some (.lst xs)) : tyP M "list" (.ref a) := by unfold tyP; dsimp only; rw [ea]
theorem wSl_i {e : WE} {l h : WO} (z : e EP s M fun p M1 => l EP s M1 fun lo M2 => h EP s M2 fun hi M3 => rSlP p lo hi M3 Q) : wSl e l h EP s M Q := z
theorem wNoP_i {QO : Option Int → PH → Prop} (h : QO none M) : wNoP EP s M QO := h
def qPt (QO : Option Int → PH → Prop) : QE := fun p M1 => match p with
  | .int i => QO (some i) M1
  | _ => False
theorem qPt_i {QO : Option Int → PH → Prop} {i : Int} (h : QO (some i) M) : qPt QO (.int i) M := h
theorem wPt_i {QO : Option Int → PH → Prop} {e : WE} (h : e EP s M (qPt QO)) : wPt e EP s M QO := h
theorem rSl_tup {xs : List PV} {lo hi : Option Int} (h : Q (.tup (pcut xs lo hi)) M) : rSlP (.tup xs) lo hi M Q := h
theorem rSl_lst {a : Addr} {xs : List PV} {lo hi : Option Int} (ea : listAt M a = some xs) (h : ∀ D, ¬ Wr M D → Q (.ref D) (pupd M D (.lst (pcut xs lo hi)))) : rSlP (.ref a) lo hi M Q := by
  unfold rSlP; dsimp only; rw [ea]; exact h
end
end PL
set_option autoImplicit false
namespace PL
open PySem PySem.Spec L2
open PyProof.Rows hiding St

/-! ## plain data: what is looked at, compared, shown -/
mutual
/-- no address, no truth, texts of signs that there are -/
def pl : PV → Bool
  | .non => true
  | .int _ => true
  | .str x => PyData.strOk x
  | .tup xs => pls xs
  | _ => false
def pls : List PV → Bool
  | [] => true
  | x :: xs => pl x && pls xs
end
mutual
/-- how deep -/
def dpt : PV → Nat
  | .tup xs => dpts xs + 1
  | .bx _ xs => dpts xs + 1
  | _ => 0
def dpts : List PV → Nat
  | [] => 0
  | x :: xs => max (dpt x) (dpts xs)
end
mutual
theorem dpt_eq : ∀ p : PV, (dat p).depth = dpt p
  | .non => by rw [dat, dpt, PyData.depth]; all_goals (intros; contradiction)
  | .bl _ => by rw [dat, dpt, PyData.depth]; all_goals (intros; contradiction)
  | .int _ => by rw [dat, dpt, PyData.depth]; all_goals (intros; contradiction)
  | .str _ => by rw [dat, dpt, PyData.depth]; all_goals (intros; contradiction)
  | .ref _ => by rw [dat, dpt, PyData.depth]; all_goals (intros; contradiction)
  | .ty _ => by rw [dat, dpt, PyData.depth]; all_goals (intros; contradiction)
  | .bx _ xs => by rw [dat, dpt, PyData.depth, dpts_eq xs]
  | .tup xs => by rw [dat, dpt, PyData.depth, dpts_eq xs]
theorem dpts_eq : ∀ ps : List PV, PyData.depthAll (dats ps) = dpts ps
  | [] => by rw [dats, dpts, PyData.depthAll]
  | x :: xs => by rw [dats, dpts, PyData.depthAll, dpt_eq x, dpts_eq xs]
end
mutual
theorem pl_pur : ∀ p : PV, pl p = true → pur p = true
  | .non, _ => by rw [pur]; all_goals (intros; contradiction)
  | .int _, _ => by rw [pur]; all_goals (intros; contradiction)
  | .str _, _ => by rw [pur]; all_goals (intros; contradiction)
  | .bl _, h => by rw [pl] at h; cases h; all_goals (intros; contradiction)
  | .ref _, h => by rw [pl] at h; cases h; all_goals (intros; contradiction)
  | .ty _, h => by rw [pl] at h; cases h; all_goals (intros; contradiction)
  | .bx _ _, h => by rw [pl] at h; cases h; all_goals (intros; contradiction)
  | .tup xs, h => by rw [pl] at h; rw [pur]; exact pls_purs xs h
theorem pls_purs : ∀ ps : List PV, pls ps = true → purs ps = true
  | [], _ => by rw [purs]
  | x :: xs, h => by
    rw [pls, Bool.and_eq_true] at h
    rw [purs, Bool.and_eq_true]
    exact ⟨pl_pur x h.1, pls_purs xs h.2⟩
end
mutual
theorem pl_lay : ∀ p : PV, pl p = true → (dat p).canLay0 = true
  | .non, _ => by rw [dat, PyData.canLay0]
  | .int _, _ => by rw [dat, PyData.canLay0]
  | .str _, h => by rw [pl] at h; rw [dat, PyData.canLay0]; exact h
  | .bl _, h => by rw [pl] at h; cases h; all_goals (intros; contradiction)
  | .ref _, h => by rw [pl] at h; cases h; all_goals (intros; contradiction)
  | .ty _, h => by rw [pl] at h; cases h; all_goals (intros; contradiction)
  | .bx _ _, h => by rw [pl] at h; cases h; all_goals (intros; contradiction)
  | .tup xs, h => by rw [pl] at h; rw [dat, PyData.canLay0]; exact pls_lay xs h
theorem pls_lay : ∀ ps : List PV, pls ps = true → PyData.canLayAll0 (dats ps) = true
  | [], _ => by rw [dats, PyData.canLayAll0]
  | x :: xs, h => by
    rw [pls, Bool.and_eq_true] at h
    rw [dats, PyData.canLayAll0, Bool.and_eq_true]
    exact ⟨pl_lay x h.1, pls_lay xs h.2⟩
end
theorem shp_pl {p : PV} (h : pl p = true) (d : dpt p ≤ 64) : shp (dat p) = true := by
  unfold shp SeqAt.shaped
  rw [Bool.and_eq_true]
  exact ⟨pl_lay p h, decide_eq_true (by rw [dpt_eq]; exact d)⟩
theorem shp_list {xs : List PV} (h : pls xs = true) (d : dpts xs ≤ 63) : shp (.list (dats xs)) = true := by
  unfold shp SeqAt.shaped
  rw [Bool.and_eq_true, PyData.canLay0]
  exact ⟨pls_lay xs h, decide_eq_true (by rw [PyData.depth, dpts_eq]; omega)⟩
theorem shp_tuple {xs : List PV} (h : pls xs = true) (d : dpts xs ≤ 63) : shp (.tuple (dats xs)) = true := by
  unfold shp SeqAt.shaped
  rw [Bool.and_eq_true, PyData.canLay0]
  exact ⟨pls_lay xs h, decide_eq_true (by rw [PyData.depth, dpts_eq]; omega)⟩
mutual
theorem eqv_iff : ∀ p q : PV, pl p = true → pl q = true → (PyData.eqv (dat p) (dat q) = true ↔ p = q)
  | .bl _, _, h, _ => by rw [pl] at h; cases h; all_goals (intros; contradiction)
  | .ref _, _, h, _ => by rw [pl] at h; cases h; all_goals (intros; contradiction)
  | .ty _, _, h, _ => by rw [pl] at h; cases h; all_goals (intros; contradiction)
  | .bx _ _, _, h, _ => by rw [pl] at h; cases h; all_goals (intros; contradiction)
  | _, .bl _, _, h => by rw [pl] at h; cases h; all_goals (intros; contradiction)
  | _, .ref _, _, h => by rw [pl] at h; cases h; all_goals (intros; contradiction)
  | _, .ty _, _, h => by rw [pl] at h; cases h; all_goals (intros; contradiction)
  | _, .bx _ _, _, h => by rw [pl] at h; cases h; all_goals (intros; contradiction)
  | .non, .non, _, _ => by simp [dat, PyData.eqv]
  | .non, .int _, _, _ => by simp [dat, PyData.eqv]
  | .non, .str _, _, _ => by simp [dat, PyData.eqv]
  | .non, .tup _, _, _ => by simp [dat, PyData.eqv]
  | .int _, .non, _, _ => by simp [dat, PyData.eqv]
  | .int _, .int _, _, _ => by simp [dat, PyData.eqv]
  | .int _, .str _, _, _ => by simp [dat, PyData.eqv]
  | .int _, .tup _, _, _ => by simp [dat, PyData.eqv]
  | .str _, .non, _, _ => by simp [dat, PyData.eqv]
  | .str _, .int _, _, _ => by simp [dat, PyData.eqv]
  | .str x, .str y, _, _ => by simp [dat, PyData.eqv]
  | .str _, .tup _, _, _ => by simp [dat, PyData.eqv]
  | .tup _, .non, _, _ => by simp [dat, PyData.eqv]
  | .tup _, .int _, _, _ => by simp [dat, PyData.eqv]
  | .tup _, .str _, _, _ => by simp [dat, PyData.eqv]
  | .tup xs, .tup ys, h, g => by
    rw [pl] at h
    rw [pl] at g
    rw [dat, dat, PyData.eqv, eqvs_iff xs ys h g]
    simp
theorem eqvs_iff : ∀ ps qs : List PV, pls ps = true → pls qs = true → (PyData.eqvAll (dats ps) (dats qs) = true ↔ ps = qs)
  | [], [], _, _ => by simp [dats, PyData.eqvAll]
  | [], _ :: _, _, _ => by simp [dats, PyData.eqvAll]
  | _ :: _, [], _, _ => by simp [dats, PyData.eqvAll]
  | x :: xs, y :: ys, h, g => by
    rw [pls, Bool.and_eq_true] at h
    rw [pls, Bool.and_eq_true] at g
    rw [dats, dats, PyData.eqvAll, Bool.and_eq_true, eqv_iff x y h.1 g.1, eqvs_iff xs ys h.2 g.2]
    simp
end
/-- == of plain values -/
noncomputable def eqP (p q : PV) : Bool := @decide (p = q) (Classical.propDecidable _)
theorem eqP_iff {p q : PV} : eqP p q = true ↔ p = q := by
  unfold eqP
  exact @decide_eq_true_iff (p = q) (Classical.propDecidable _)
theorem eqv_eqP {p q : PV} (h : pl p = true) (g : pl q = true) : PyData.eqv (dat p) (dat q) = eqP p q := by
  have := (eqv_iff p q h g).trans eqP_iff.symm
  cases a : PyData.eqv (dat p) (dat q) <;> cases b : eqP p q <;> simp_all
theorem datM_pl {M : PH} {p : PV} (h : pl p = true) : datM M p = some (dat p) := by
  have hp := pl_pur p h
  cases p with
  | ref a => rw [pl] at h; cases h; all_goals (intros; contradiction)
  | _ => unfold datM; dsimp only; rw [if_pos hp]
theorem datM_lst {M : PH} {a : Addr} {xs : List PV} (e : M a = some (.lst xs)) (h : purs xs = true) : datM M (.ref a) = some (.list (dats xs)) := by
  unfold datM; dsimp only; rw [e]; dsimp only; rw [if_pos h]
section
variable {M : PH} {Q : QE}
theorem eqP_str {i j : Str} : eqP (.str i) (.str j) = decide (i = j) := by
  by_cases e : i = j
  · rw [decide_eq_true e, eqP_iff, e]
  · rw [decide_eq_false e]
    cases h : eqP (.str i) (.str j) with
    | false => rfl
    | true => exact (e (PV.str.inj (eqP_iff.mp h))).elim
theorem rEq_pl {p q : PV} (h : pl p = true) (g : pl q = true) (d1 : dpt p ≤ 64) (d2 : dpt q ≤ 64) (k : Q (.bl (eqP p q)) M) : rEq p q M Q := by
  unfold rEq
  split
  · rw [← eqP_str]; exact k
  · rw [datM_pl h, datM_pl g]
    exact ⟨shp_pl h d1, shp_pl g d2, by rw [eqv_eqP h g]; exact k⟩
theorem rNe_pl {p q : PV} (h : pl p = true) (g : pl q = true) (d1 : dpt p ≤ 64) (d2 : dpt q ≤ 64) (k : Q (.bl (!eqP p q)) M) : rNe p q M Q := by
  unfold rNe
  split
  · rw [← eqP_str]; exact k
  · rw [datM_pl h, datM_pl g]
    exact ⟨shp_pl h d1, shp_pl g d2, by rw [eqv_eqP h g]; exact k⟩
theorem rEq_str {i j : Str} (k : Q (.bl (decide (i = j))) M) : rEq (.str i) (.str j) M Q := k
theorem rNe_str {i j : Str} (k : Q (.bl (!decide (i = j))) M) : rNe (.str i) (.str j) M Q := k
theorem rNe_same {x : Str} (k : Q (.bl false) M) : rNe (.str x) (.str x) M Q := by
  have e : (!decide (x = x)) = false := by simp
  show Q (.bl (!decide (x = x))) M
  rw [e]; exact k
theorem rEq_int {i j : Int} (k : Q (.bl (decide (i = j))) M) : rEq (.int i) (.int j) M Q := by
  have e : eqP (.int i) (.int j) = decide (i = j) := by
    by_cases e : i = j
    · rw [decide_eq_true e, eqP_iff, e]
    · rw [decide_eq_false e]
      cases h : eqP (.int i) (.int j) with
      | false => rfl
      | true => exact (e (PV.int.inj (eqP_iff.mp h))).elim
  refine rEq_pl (by rw [pl]) (by rw [pl]) ?_ ?_ (by rw [e]; exact k)
  · rw [dpt]; omega; all_goals (intros; contradiction)
  · rw [dpt]; omega; all_goals (intros; contradiction)
theorem any_eqv {p : PV} (h : pl p = true) : ∀ xs : List PV, pls xs = true → (dats xs).any (fun z => PyData.eqv z (dat p)) = xs.any fun z => eqP z p
  | [], _ => by rw [dats]; rfl
  | x :: xs, g => by
    rw [pls, Bool.and_eq_true] at g
    rw [dats, List.any_cons, List.any_cons, any_eqv h xs g.2, eqv_eqP g.1 h]
theorem rIn_tup {neg : Bool} {p : PV} {xs : List PV} (h : pl p = true) (g : pls xs = true) (d1 : dpt p ≤ 64) (d2 : dpts xs ≤ 63) (k : Q (.bl (if neg then !xs.any (fun z => eqP z p) else xs.any fun z => eqP z p)) M) : rInG neg p (.tup xs) M Q := by
  have e2 : datM M (.tup xs) = some (.tuple (dats xs)) := by
    have := datM_pl (M := M) (p := .tup xs) (by rw [pl]; exact g)
    rw [this, dat]
  unfold rInG
  dsimp only
  rw [datM_pl h, e2]
  exact ⟨shp_pl h d1, shp_tuple g d2, by rw [any_eqv h xs g]; exact k⟩
end
/-! ### how long the text of it is -/
mutual
def shn : PV → Nat
  | .str x => 10 * x.length + 2
  | .tup xs => shns xs + 3
  | .int _ => 1921
  | _ => 5
def shns : List PV → Nat
  | [] => 0
  | x :: xs => shn x + 2 + shns xs
end
mutual
/-- its text can be told -/
def tl : PV → Bool
  | .int i => decide (i.natAbs.log2 < 1920)
  | .tup xs => tls xs
  | .str x => PyData.strOk x
  | .non => true
  | .bl _ => true
  | _ => false
def tls : List PV → Bool
  | [] => true
  | x :: xs => tl x && tls xs
end
theorem len_app (x y : Str) : (x ++ y).length = x.length + y.length := by
  show (x.cps ++ y.cps).size = x.cps.size + y.cps.size
  simp
theorem join_len : ∀ ts : List Str, (Str.join ", " ts).length ≤ (ts.map (·.length)).sum + 2 * ts.length
  | [] => by simp [Str.join]; rfl
  | [x] => by simp [Str.join]
  | x :: y :: r => by
    have ih := join_len (y :: r)
    rw [Str.join, len_app, len_app]
    · have e : ((", " : String) : Str).length = 2 := rfl
      simp only [List.map_cons, List.sum_cons, List.length_cons] at ih ⊢
      omega
    · intro h; cases h
theorem tuple_len (ts : List Str) : (tupleText ts).length ≤ (ts.map (·.length)).sum + 2 * ts.length + 3 := by
  unfold tupleText
  rw [len_app, len_app]
  have h := join_len ts
  have e : (("(" : String) : Str).length = 1 := rfl
  have e2 : (if (ts.length == 1) = true then ((",)" : String) : Str) else ((")" : String) : Str)).length ≤ 2 := by
    split
    · exact Nat.le_of_eq rfl
    · exact Nat.le_of_lt (Nat.lt_of_lt_of_eq (Nat.lt_succ_self 1) rfl)
  have e3 : (Str.ofString (if (ts.length == 1) = true then ",)" else ")")).length ≤ 2 := by
    split
    · exact Nat.le_of_eq rfl
    · exact Nat.le_of_lt (Nat.lt_of_lt_of_eq (Nat.lt_succ_self 1) rfl)
  have e4 : (Str.ofString "(").length = 1 := rfl
  omega
theorem listText_len (ts : List Str) : (listText ts).length ≤ (ts.map (·.length)).sum + 2 * ts.length + 3 := by
  have key : ∀ (ts : List Str) (k : Nat) (acc : Str), (textFrom k acc ts).length ≤ acc.length + (ts.map (·.length)).sum + 2 * ts.length := by
    intro ts
    induction ts with
    | nil => intro k acc; simp [textFrom]
    | cons t r ih =>
      intro k acc
      rw [textFrom]
      refine Nat.le_trans (ih _ _) ?_
      rw [len_app, len_app]
      have e : (Str.ofString (if k > 0 then ", " else "")).length ≤ 2 := by
        split
        · exact Nat.le_of_eq rfl
        · exact Nat.zero_le _
      simp only [List.map_cons, List.sum_cons, List.length_cons]
      omega
  unfold listText
  rw [len_app]
  have h := key ts 0 "["
  have e4 : (Str.ofString "[").length = 1 := rfl
  have e5 : (Str.ofString "]").length = 1 := rfl
  omega
mutual
theorem shown_le : ∀ p : PV, tl p = true → (dat p).shown.length ≤ shn p
  | .non, _ => by rw [dat, PyData.shown, shn]; exact Nat.le_of_lt (Nat.lt_of_lt_of_eq (Nat.lt_succ_self 4) rfl); all_goals (intros; contradiction)
  | .bl b, _ => by
    rw [dat, PyData.shown, shn]
    · cases b
      · exact Nat.le_of_eq rfl
      · exact Nat.le_of_lt (Nat.lt_of_lt_of_eq (Nat.lt_succ_self 4) rfl)
    all_goals (intros; contradiction)
  | .int i, h => by
    rw [tl] at h
    rw [dat, PyData.shown, shn]
    exact int_text_len_1921 (of_decide_eq_true h)
  | .str x, h => by
    rw [tl] at h
    rw [dat, PyData.shown, shn]
    refine StrLaws.reprText_len x fun c hc => ?_
    unfold PyData.strOk at h
    rw [Array.all_eq_true'] at h
    have := of_decide_eq_true (h c (Array.mem_def.mpr hc))
    have e : (16 : Nat) ^ 8 = 4294967296 := by decide
    omega
  | .tup xs, h => by
    rw [tl] at h
    rw [dat, PyData.shown, shn]
    have h1 := tuple_len (PyData.shownAll (dats xs))
    have h2 := showns_le xs h
    omega
  | .ref _, h => by rw [tl] at h; cases h; all_goals (intros; contradiction)
  | .ty _, h => by rw [tl] at h; cases h; all_goals (intros; contradiction)
  | .bx _ _, h => by rw [tl] at h; cases h; all_goals (intros; contradiction)
theorem showns_le : ∀ ps : List PV, tls ps = true → ((PyData.shownAll (dats ps)).map (·.length)).sum + 2 * (PyData.shownAll (dats ps)).length ≤ shns ps
  | [], _ => by rw [dats, PyData.shownAll, shns]; exact Nat.le_refl _
  | x :: xs, h => by
    rw [tls, Bool.and_eq_true] at h
    rw [dats, PyData.shownAll, shns]
    have h1 := shown_le x h.1
    have h2 := showns_le xs h.2
    simp only [List.map_cons, List.sum_cons, List.length_cons]
    omega
end
mutual
theorem tl_show : ∀ p : PV, tl p = true → (dat p).showable = true ∧ (dat p).hasDict = false
  | .non, _ => by rw [dat, PyData.showable, PyData.hasDict]; exact ⟨rfl, rfl⟩
  | .bl b, _ => by rw [dat, PyData.showable, PyData.hasDict]; exact ⟨rfl, rfl⟩
  | .int i, h => by rw [tl] at h; rw [dat, PyData.showable, PyData.hasDict]; exact ⟨h, rfl⟩
  | .str x, h => by rw [dat, PyData.showable, PyData.hasDict]; exact ⟨rfl, rfl⟩
  | .tup xs, h => by rw [tl] at h; rw [dat, PyData.showable, PyData.hasDict]; exact tls_show xs h
  | .ref _, h => by rw [tl] at h; cases h; all_goals (intros; contradiction)
  | .ty _, h => by rw [tl] at h; cases h; all_goals (intros; contradiction)
  | .bx _ _, h => by rw [tl] at h; cases h; all_goals (intros; contradiction)
theorem tls_show : ∀ ps : List PV, tls ps = true → PyData.showableAll (dats ps) = true ∧ PyData.hasDictAll (dats ps) = false
  | [], _ => by rw [dats, PyData.showableAll, PyData.hasDictAll]; exact ⟨rfl, rfl⟩
  | x :: xs, h => by
    rw [tls, Bool.and_eq_true] at h
    rw [dats, PyData.showableAll, PyData.hasDictAll, (tl_show x h.1).1, (tl_show x h.1).2, (tls_show xs h.2).1, (tls_show xs h.2).2]
    exact ⟨rfl, rfl⟩
end
mutual
theorem tl_pur : ∀ p : PV, tl p = true → pur p = true
  | .non, _ => by rw [pur]; all_goals (intros; contradiction)
  | .int _, _ => by rw [pur]; all_goals (intros; contradiction)
  | .str _, _ => by rw [pur]; all_goals (intros; contradiction)
  | .bl _, _ => by rw [pur]; all_goals (intros; contradiction)
  | .ref _, h => by rw [tl] at h; cases h; all_goals (intros; contradiction)
  | .ty _, h => by rw [tl] at h; cases h; all_goals (intros; contradiction)
  | .bx _ _, h => by rw [tl] at h; cases h; all_goals (intros; contradiction)
  | .tup xs, h => by rw [tl] at h; rw [pur]; exact tls_purs xs h
theorem tls_purs : ∀ ps : List PV, tls ps = true → purs ps = true
  | [], _ => by rw [purs]
  | x :: xs, h => by
    rw [tls, Bool.and_eq_true] at h
    rw [purs, Bool.and_eq_true]
    exact ⟨tl_pur x h.1, tls_purs xs h.2⟩
end
theorem shw_tl {p : PV} (h : tl p = true) (d : dpt p ≤ 60) (z : shn p ≤ sizeLine) : Shw (dat p) :=
  ⟨(tl_show p h).1, (tl_show p h).2, by rw [dpt_eq]; exact d, Nat.le_trans (shown_le p h) z⟩
theorem shw_list {xs : List PV} (h : tls xs = true) (d : dpts xs ≤ 59) (z : shns xs + 3 ≤ sizeLine) : Shw (.list (dats xs)) := by
  refine ⟨by rw [PyData.showable]; exact (tls_show xs h).1, by rw [PyData.hasDict]; exact (tls_show xs h).2, by rw [PyData.depth, dpts_eq]; omega, ?_⟩
  rw [PyData.shown]
  have h1 := listText_len (PyData.shownAll (dats xs))
  have h2 := showns_le xs h
  omega
section
variable {M : PH} {Q : QE}
theorem datM_tl {p : PV} (h : tl p = true) : datM M p = some (dat p) := by
  have hp := tl_pur p h
  cases p with
  | ref a => rw [tl] at h; cases h; all_goals (intros; contradiction)
  | _ => unfold datM; dsimp only; rw [if_pos hp]
/-- the text of a value -/
def txt (p : PV) : Str := (dat p).shown
theorem cRepr_tl {p : PV} (h : tl p = true) (d : dpt p ≤ 60) (z : shn p ≤ sizeLine) (k : Q (.str (txt p)) M) : cRepr [p] M Q := by
  unfold cRepr
  dsimp only
  rw [datM_tl h]
  exact ⟨shw_tl h d z, k⟩
theorem cRepr_lst {a : Addr} {xs : List PV} (e : M a = some (.lst xs)) (h : tls xs = true) (d : dpts xs ≤ 59) (z : shns xs + 3 ≤ sizeLine) (k : Q (.str (PyData.list (dats xs)).shown) M) : cRepr [.ref a] M Q := by
  unfold cRepr
  dsimp only
  rw [datM_lst e (tls_purs xs h)]
  exact ⟨shw_list h d z, k⟩
end
end PL
set_option autoImplicit false
namespace PL
open PySem PySem.Spec L2
open PyProof.Rows hiding St

/-! ## loops with a promise for what follows -/
theorem forW_k {ok : PH → Prop} {g : WG} {b : WS} {EP : PX} {D : PEnds} {xs : List PV} (P : Nat → PSt → PH → Prop) {s : PSt} {M : PH} (h0 : P 0 s M) (hok : ∀ i s M, i ≤ xs.length → P i s M → ok M)
    (hs : ∀ (i : Nat) (x : PV) (s : PSt) (M : PH) (N : PSt → PH → Prop), xs[i]? = some x → P i s M → (∀ s' M', P (i + 1) s' M' → N s' M') → g x s M fun s2 M2 => b EP { D with nx := N, ct := N, bk := D.nx } s2 M2) (hd : ∀ s M, P xs.length s M → D.nx s M) : forW ok g b EP D xs s M := by
  have go : ∀ (m i : Nat) (s : PSt) (M : PH), i + m = xs.length → P i s M → forW ok g b EP D (xs.drop i) s M := by
    intro m
    induction m with
    | zero =>
      intro i s M e h
      rw [List.drop_eq_nil_of_le (by omega)]
      have ei : i = xs.length := by omega
      exact ⟨hok i s M (by omega) h, hd s M (ei ▸ h)⟩
    | succ m ih =>
      intro i s M e h
      have hlt : i < xs.length := by omega
      rw [List.drop_eq_getElem_cons hlt, forW]
      exact ⟨hok i s M (by omega) h, hs i _ s M _ (List.getElem?_eq_getElem hlt) h fun s' M' z => ih (i + 1) s' M' (by omega) z⟩
  exact go xs.length 0 s M (by omega) h0
theorem lcW_k {ok : PH → Prop} {g : WG} {t : WT} {e : WE} {sw : PSt} {Q : List PV → PH → Prop} {xs : List PV} {M : PH} (P : Nat → List PV → PH → Prop) (hz : xs.length ≤ sizeLine) (h0 : P 0 [] M) (hok : ∀ i acc M, i ≤ xs.length → P i acc M → ok M)
    (hs : ∀ (i : Nat) (x : PV) (acc : List PV) (M : PH) (T : QE) (F : PH → Prop), xs[i]? = some x → P i acc M → (∀ y M', P (i + 1) (acc ++ [y]) M' → T y M') → (∀ M', P (i + 1) acc M' → F M') → g x sw M fun s2 M2 => t (fun _ _ _ _ => False) s2 M2 fun b M3 => if b = true then e (fun _ _ _ _ => False) s2 M3 T else F M3)
    (hd : ∀ acc M, P xs.length acc M → Q acc M) : lcW ok g t e sw Q xs [] M := by
  have go : ∀ (m i : Nat) (acc : List PV) (M : PH), i + m = xs.length → acc.length ≤ i → P i acc M → lcW ok g t e sw Q (xs.drop i) acc M := by
    intro m
    induction m with
    | zero =>
      intro i acc M e h0 h
      rw [List.drop_eq_nil_of_le (by omega)]
      have ei : i = xs.length := by omega
      exact ⟨hok i acc M (by omega) h, hd acc M (ei ▸ h)⟩
    | succ m ih =>
      intro i acc M e' h0 h
      have hlt : i < xs.length := by omega
      rw [List.drop_eq_getElem_cons hlt, lcW]
      exact ⟨hok i acc M (by omega) h, hs i _ acc M _ _ (List.getElem?_eq_getElem hlt) h (fun y M' z => ⟨by omega, ih (i + 1) _ M' (by omega) (by simp; omega) z⟩) fun M' z => ih (i + 1) acc M' (by omega) (by omega) z⟩
  exact go xs.length 0 [] M (by omega) (by simp) h0
theorem lcW_p {ok : PH → Prop} {g : WG} {t : WT} {e : WE} {sw : PSt} {Q : List PV → PH → Prop} {xs : List PV} {M : PH} (f : PV → Option PV) (hz : xs.length ≤ sizeLine) (hok : ok M)
    (hs : ∀ (x : PV) (T : QE) (F : PH → Prop), x ∈ xs → (∀ y, f x = some y → T y M) → (f x = none → F M) → g x sw M fun s2 M2 => t (fun _ _ _ _ => False) s2 M2 fun b M3 => if b = true then e (fun _ _ _ _ => False) s2 M3 T else F M3)
    (hd : Q (xs.filterMap f) M) : lcW ok g t e sw Q xs [] M := by
  refine lcW_k (fun i acc M' => M' = M ∧ acc = (xs.take i).filterMap f) hz ⟨rfl, by simp⟩ (fun i acc M' _ h => h.1 ▸ hok) (fun i x acc M' T F hx h hT hF => ?_) fun acc M' h => by
    rw [h.1, h.2, List.take_length]; exact hd
  obtain ⟨rfl, ea⟩ := h
  have et : xs.take (i + 1) = xs.take i ++ [x] := by rw [List.take_add_one, hx]; rfl
  refine hs x T F (List.mem_of_getElem? hx) (fun y ey => hT y _ ⟨rfl, ?_⟩) fun ey => hF _ ⟨rfl, ?_⟩
  · rw [et, List.filterMap_append, ea]; simp [ey]
  · rw [et, List.filterMap_append, ea]; simp [ey]

/-! ## steps, more of them -/
section
variable {EP : PX} {D : PEnds} {s : PSt} {M : PH} {Q : QE} {QB : Bool → PH → Prop} {QA : List PV → PH → Prop} {QI : PSrc → PH → Prop}
theorem wFor_i {i : WI} {g : WG} {b : WS} (h : i EP s M fun src M1 => forW src.ok g b EP D src.items s M1) : wFor i g b EP D s M := h
theorem wLc_i {i : WI} {g : CTg} {t : WT} {e : WE} {vs : List Nat} (h : i EP s M fun src M1 => lcW src.ok g.g t e (pwipe s vs) QA src.items [] M1) : wLc i g t e vs EP s M QA := h
def qIt (QI : PSrc → PH → Prop) : QE := fun p M1 => match p with
  | .tup xs => QI ⟨xs, fun _ => True⟩ M1
  | .ref a => match listAt M1 a with
    | some xs => QI ⟨xs, fun M => listAt M a = some xs⟩ M1
    | none => False
  | .str z => QI ⟨z.cps.toList.map fun c => .str ⟨#[c]⟩, fun _ => True⟩ M1
  | _ => False
theorem iAny_i {e : WE} (h : e EP s M (qIt QI)) : iAny e EP s M QI := h
theorem qIt_tup {xs : List PV} (h : QI ⟨xs, fun _ => True⟩ M) : qIt QI (.tup xs) M := h
theorem listAt_lst {a : Addr} {xs : List PV} (e : M a = some (.lst xs)) : listAt M a = some xs := by unfold listAt; rw [e]
theorem qIt_lst {a : Addr} {xs : List PV} (e : M a = some (.lst xs)) (h : QI ⟨xs, fun M => listAt M a = some xs⟩ M) : qIt QI (.ref a) M := by
  unfold qIt; dsimp only; rw [listAt_lst e]; exact h
theorem qIt_str {z : Str} (h : QI ⟨z.cps.toList.map fun c => .str ⟨#[c]⟩, fun _ => True⟩ M) : qIt QI (.str z) M := h
def qRg (QI : PSrc → PH → Prop) : List PV → PH → Prop := fun ps M1 => match ps with
  | [.int j] => -(2 ^ 62) ≤ j ∧ j < 2 ^ 62 ∧ QI ⟨(List.range j.toNat).map fun i => .int (i : Nat), fun _ => True⟩ M1
  | _ => False
theorem iRg1_i {a : WA} (h : a EP s M (qRg QI)) : iRg1 a EP s M QI := h
theorem qRg_i {j : Int} (h0 : 0 ≤ j) (h1 : j < 4611686018427387904) (h : QI ⟨(List.range j.toNat).map fun i => .int (i : Nat), fun _ => True⟩ M) : qRg QI [.int j] M := ⟨by omega, by omega, h⟩
theorem gNm_i {i : Nat} {p : PV} {QG : PSt → PH → Prop} (h : QG (s.set i (some p)) M) : gNm i p s M QG := h
theorem gTp_i {gs : List WG} {xs : List PV} {QG : PSt → PH → Prop} (h : gAll gs xs s M QG) : gTp gs (.tup xs) s M QG := h
theorem gAll_c {g : WG} {gs : List WG} {x : PV} {xs : List PV} {QG : PSt → PH → Prop} (h : g x s M fun s' M' => gAll gs xs s' M' QG) : gAll (g :: gs) (x :: xs) s M QG := h
theorem gAll_n {QG : PSt → PH → Prop} (h : QG s M) : gAll [] [] s M QG := h
theorem cOne_i {i : Nat} {p : PV} {QG : PSt → PH → Prop} (h : QG (s.set i (some p)) M) : (CTg.one i).g p s M QG := h
theorem cMany_i {is : List Nat} {xs : List PV} {QG : PSt → PH → Prop} (h : gAll (is.map gNm) xs s M QG) : (CTg.many is).g (.tup xs) s M QG := h
theorem cMany2_i {i j : Nat} {x y : PV} {QG : PSt → PH → Prop} (h : QG ((s.set i (some x)).set j (some y)) M) : (CTg.many [i, j]).g (.tup [x, y]) s M QG := h
theorem cMany3_i {i j k : Nat} {x y z : PV} {QG : PSt → PH → Prop} (h : QG (((s.set i (some x)).set j (some y)).set k (some z)) M) : (CTg.many [i, j, k]).g (.tup [x, y, z]) s M QG := h
theorem wYes_i (h : QB true M) : wYes EP s M QB := h
theorem mPopAt_i {a : Addr} {xs : List PV} {k : Nat} {p : PV} (ea : M a = some (.lst xs)) (hk : xs[k]? = some p) (hz : xs.length < 1000000) (h : Q p (pupd M a (.lst (xs.eraseIdx k)))) : mPopAt (.ref a) [.int (k : Nat)] M Q := by
  have hl : k < xs.length := (List.getElem?_eq_some_iff.mp hk).1
  refine ⟨xs, k, p, ea, by omega, by omega, ?_, hk, h⟩
  unfold PySem.seqIndex?
  simp only
  split <;> (try split) <;> simp_all <;> omega
def qJn (l : WL) (EP : PX) (s : PSt) (Q : QE) : QE := fun x M1 => match x with
  | .str sep => l EP s M1 fun xs M2 => match strsOf xs with
    | some ys => (ys.map (·.length)).sum + ys.length * sep.length ≤ 16777216 ∧ Q (.str (Str.join sep ys)) M2
    | none => False
  | _ => False
theorem wJoinL_i {o : WE} {l : WL} (h : o EP s M (qJn l EP s Q)) : wJoinL o l EP s M Q := h
theorem qJn_i {l : WL} {sep : Str} (h : l EP s M fun xs M2 => match strsOf xs with
    | some ys => (ys.map (·.length)).sum + ys.length * sep.length ≤ 16777216 ∧ Q (.str (Str.join sep ys)) M2
    | none => False) : qJn l EP s Q (.str sep) M := h
def qCat (ys : List PV) (QA : List PV → PH → Prop) (M2 : PH) (x : PV) : Prop := match x with
  | .ref a => ∃ xs, M2 a = some (.lst xs) ∧ xs.length + ys.length ≤ sizeLine ∧ QA (xs ++ ys) M2
  | _ => False
theorem wCatEL_i {e : WE} {l : WL} (h : e EP s M fun x M1 => l EP s M1 fun ys M2 => qCat ys QA M2 x) : wCatEL e l EP s M QA := h
theorem qCat_i {a : Addr} {xs ys : List PV} (ea : M a = some (.lst xs)) (hz : xs.length + ys.length ≤ sizeLine) (h : QA (xs ++ ys) M) : qCat ys QA M (.ref a) := ⟨xs, ea, hz, h⟩
def qIxL (xs : List PV) (Q : QE) : QE := fun y M2 => match y with
  | .int k => match atI xs k with
    | some p => Q p M2
    | none => False
  | _ => False
theorem wIxL_i {l : WL} {i : WE} (h : l EP s M fun xs M1 => i EP s M1 (qIxL xs Q)) : wIxL l i EP s M Q := h
theorem qIxL_i {xs : List PV} {k : Int} {p : PV} (e : atI xs k = some p) (h : Q p M) : qIxL xs Q (.int k) M := by
  unfold qIxL; dsimp only; rw [e]; exact h
theorem cTupL_i {xs : List PV} (h : Q (.tup xs) M) : cTupL xs M Q := h
theorem cLenL_i {xs : List PV} (h : Q (.int xs.length) M) : cLenL xs M Q := h
theorem cSortedL_i {xs : List PV} (hs : Srtb xs) (h : QA (sortP xs) M) : cSortedL xs M QA := ⟨hs, h⟩
end
/-! ## the heap of a law: its feed at a, which holds the numbers at C -/
/-- nothing that is only read -/
def NR (M : PH) : Prop := ∀ a o, M a = some o → o.wr = true
theorem NR.none {M : PH} (h : NR M) {D : Addr} (n : ¬ Wr M D) : M D = none := by
  cases e : M D with
  | none => rfl
  | some o => exact absurd ⟨o, e, h D o e⟩ n
theorem NR.upd {M : PH} (h : NR M) {a : Addr} {xs : List PV} : NR (pupd M a (.lst xs)) := by
  intro b o e
  by_cases hb : b = a
  · subst hb; rw [pupd_same] at e; cases e; rfl
  · rw [pupd_ne hb] at e; exact h b o e
/-- M' is M with the feed drawn on and more lists -/
structure Fm (M M' : PH) (a C : Addr) (c : Nat) : Prop where
  nr : NR M'
  ca : C ≠ a
  cm : M C ≠ none
  fd : ∃ (ns : List Int) (x y z : Int), M' a = some (.lst [.ref C, .int x, .int y, .int z]) ∧ M' C = some (.lst (ns.map PV.int)) ∧ 0 ≤ z ∧ z ≤ c ∧ ns.length ≤ 63
  keep : ∀ b o, b ≠ a → M b = some o → M' b = some o
theorem pupd_pupd {M : PH} {a : Addr} {o p : PO} : pupd (pupd M a o) a p = pupd M a p := by
  funext b; unfold pupd; split <;> rfl
section
variable {M M' M2 : PH} {a C D : Addr} {c d : Nat} {xs : List PV}
theorem Fm.up (h : Fm M M' a C c) (e : c ≤ d) : Fm M M' a C d :=
  ⟨h.nr, h.ca, h.cm, by obtain ⟨ns, x, y, z, h1, h2, h3, h4, h5⟩ := h.fd; exact ⟨ns, x, y, z, h1, h2, h3, by omega, h5⟩, h.keep⟩
theorem Fm.self (h : Fm M M' a C c) : Fm M' M' a C c := ⟨h.nr, h.ca, by obtain ⟨ns, x, y, z, h1, h2, _⟩ := h.fd; rw [h2]; simp, h.fd, fun _ _ _ e => e⟩
theorem Fm.trans (h : Fm M M' a C c) (g : Fm M' M2 a C d) : Fm M M2 a C d := ⟨g.nr, g.ca, h.cm, g.fd, fun b o n e => g.keep b o n (h.keep b o n e)⟩
/-- a list at a new place -/
theorem Fm.new (h : Fm M M' a C c) (n : ¬ Wr M' D) : Fm M (pupd M' D (.lst xs)) a C c := by
  have e := h.nr.none n
  obtain ⟨ns, x, y, z, h1, h2, h3⟩ := h.fd
  have ha : a ≠ D := fun q => by subst q; rw [h1] at e; cases e
  have hC : C ≠ D := fun q => by subst q; rw [h2] at e; cases e
  refine ⟨h.nr.upd, h.ca, h.cm, ⟨ns, x, y, z, by rw [pupd_ne ha]; exact h1, by rw [pupd_ne hC]; exact h2, h3⟩, fun b o nb eb => ?_⟩
  have hb := h.keep b o nb eb
  have : b ≠ D := fun q => by subst q; rw [hb] at e; cases e
  rw [pupd_ne this]; exact hb
/-- a list of one's own is written -/
theorem Fm.set (h : Fm M M' a C c) (n : M D = none) (ne : D ≠ a) : Fm M (pupd M' D (.lst xs)) a C c := by
  obtain ⟨ns, x, y, z, h1, h2, h3⟩ := h.fd
  have hC : C ≠ D := fun q => h.cm (q ▸ n)
  refine ⟨h.nr.upd, h.ca, h.cm, ⟨ns, x, y, z, by rw [pupd_ne ne.symm]; exact h1, by rw [pupd_ne hC]; exact h2, h3⟩, fun b o nb eb => ?_⟩
  have : b ≠ D := fun q => by subst q; rw [n] at eb; cases eb
  rw [pupd_ne this]; exact h.keep b o nb eb
theorem Fm.fresh (h : Fm M M' a C c) (n : ¬ Wr M' D) : M' D = none ∧ D ≠ a ∧ D ≠ C := by
  have e := h.nr.none n
  obtain ⟨ns, x, y, z, h1, h2, h3⟩ := h.fd
  exact ⟨e, (fun q => by subst q; rw [h1] at e; cases e), (fun q => by subst q; rw [h2] at e; cases e)⟩
theorem Fm.fresh0 (h : Fm M M' a C c) (n : ¬ Wr M' D) : M D = none := by
  cases e : M D with
  | none => rfl
  | some o =>
    have h2 := (h.fresh n)
    have := h.keep D o h2.2.1 e
    rw [h2.1] at this; cases this
end
/-- what a helper gives that draws k times or fewer -/
def pFd (n k : Nat) (Pre : List PV → PH → Prop) (R : List PV → PH → PV → Prop) : PSp := fun ps M Q _ => ps.length = n ∧ ∃ (a C : Addr) (c : Nat) (rest : List PV), ps = .ref a :: rest ∧ Fm M M a C c ∧ c + k ≤ 1000000000000 ∧ Pre rest M ∧
  ∀ (r : PV) (L : List PV), R rest M r → Fm M (pupd M a (.lst L)) a C (c + k) → Q r (pupd M a (.lst L))
theorem pFd_mono {n k : Nat} {Pre R} : MonoP (pFd n k Pre R) := fun ps M Q Q' E E' h _ ⟨l, a, C, c, rest, h1, h2, h3, h4, h5⟩ => ⟨l, a, C, c, rest, h1, h2, h3, h4, fun r L a1 a2 => h _ _ (h5 r L a1 a2)⟩
theorem pFd_len {n k : Nat} {Pre R} : LenP (pFd n k Pre R) n := fun _ _ _ _ h => h.1
theorem pFd_use {n k : Nat} {Pre R} {M0 M : PH} {a C : Addr} {c : Nat} {rest : List PV} {Q : QE} {E} (F : Fm M0 M a C c) (hl : (PV.ref a :: rest).length = n) (hc : c + k ≤ 1000000000000) (hp : Pre rest M) (h : ∀ (r : PV) (M' : PH), R rest M r → Fm M0 M' a C (c + k) → Fm M M' a C (c + k) → Q r M') : pFd n k Pre R (.ref a :: rest) M Q E :=
  ⟨hl, a, C, c, rest, rfl, F.self, hc, hp, fun r L hr G => h r _ hr (F.trans G) G⟩
/-- the end of a helper -/
theorem Fm.fin {M M' : PH} {a C : Addr} {c d : Nat} {Q : QE} {r : PV} (h : Fm M M' a C d) (e : d ≤ c) (q : ∀ (L : List PV), Fm M (pupd M a (.lst L)) a C c → Q r (pupd M a (.lst L))) (nr : NR M) : (DDef Q).rt r M' := by
  obtain ⟨ns, x, y, z, h1, h2, h3, h4, h5⟩ := h.fd
  refine ⟨pupd M a (.lst [.ref C, .int x, .int y, .int z]), ?_, q _ ⟨nr.upd, h.ca, h.cm, ⟨ns, x, y, z, pupd_same, ?_, h3, by omega, h5⟩, fun b o n eb => by rw [pupd_ne n]; exact eb⟩⟩
  · intro b o eb
    by_cases hb : b = a
    · subst hb; rw [pupd_same] at eb; cases eb; exact h1
    · rw [pupd_ne hb] at eb; exact h.keep b o hb eb
  · rw [pupd_ne h.ca]
    cases eC : M C with
    | none => exact absurd eC h.cm
    | some o =>
      have := h.keep C o h.ca eC
      rw [h2] at this; exact this ▸ rfl
/-- the same with what the arguments are known by -/
def pFi {ι : Type} (n k : Nat) (Pre : ι → List PV → PH → Prop) (R : ι → PH → PV → Prop) : PSp := fun ps M Q _ => ps.length = n ∧ ∃ (a C : Addr) (c : Nat) (rest : List PV) (i : ι), ps = .ref a :: rest ∧ Fm M M a C c ∧ c + k ≤ 1000000000000 ∧ Pre i rest M ∧
  ∀ (r : PV) (L : List PV), R i M r → Fm M (pupd M a (.lst L)) a C (c + k) → Q r (pupd M a (.lst L))
theorem pFi_mono {ι : Type} {n k : Nat} {Pre R} : MonoP (pFi (ι := ι) n k Pre R) := fun ps M Q Q' E E' h _ ⟨l, a, C, c, rest, i, h1, h2, h3, h4, h5⟩ => ⟨l, a, C, c, rest, i, h1, h2, h3, h4, fun r L a1 a2 => h _ _ (h5 r L a1 a2)⟩
theorem pFi_len {ι : Type} {n k : Nat} {Pre R} : LenP (pFi (ι := ι) n k Pre R) n := fun _ _ _ _ h => h.1
theorem pFi_use {ι : Type} {n k : Nat} {Pre R} {M0 M : PH} {a C : Addr} {c : Nat} {rest : List PV} {Q : QE} {E} (i : ι) (F : Fm M0 M a C c) (hl : (PV.ref a :: rest).length = n) (hc : c + k ≤ 1000000000000) (hp : Pre i rest M) (h : ∀ (r : PV) (M' : PH), R i M r → Fm M0 M' a C (c + k) → Fm M M' a C (c + k) → Q r M') : pFi n k Pre R (.ref a :: rest) M Q E :=
  ⟨hl, a, C, c, rest, i, rfl, F.self, hc, hp, fun r L hr G => h r _ hr (F.trans G) G⟩
end PL
set_option autoImplicit false
namespace PL
open PySem PySem.Spec L2
open PyProof.Rows hiding St
theorem pcut_to {α : Type} (xs : List α) (k : Nat) : pcut xs none (some (k : Int)) = xs.take k := by
  unfold pcut
  rw [HT.sIx_none, HT.sIx_nat]
  simp only [List.drop_zero, Nat.sub_zero]
  rw [Nat.min_def]; split
  · rfl
  · rw [List.take_of_length_le (Nat.le_refl _), List.take_of_length_le (by omega)]
theorem pcut_from {α : Type} (xs : List α) (k : Nat) : pcut xs (some (k : Int)) none = xs.drop k := by
  unfold pcut
  rw [HT.sIx_none, HT.sIx_nat]
  rw [Nat.min_def]; split
  · rw [List.take_of_length_le (by simp)]
  · rw [List.drop_eq_nil_of_le (Nat.le_refl _), List.drop_eq_nil_of_le (by omega)]; simp
theorem rSl_to {Q : QE} {M : PH} {xs : List PV} {k : Nat} (h : Q (.tup (xs.take k)) M) : rSlP (.tup xs) none (some (k : Int)) M Q := by
  refine rSl_tup ?_; rw [pcut_to]; exact h
theorem rSl_from {Q : QE} {M : PH} {xs : List PV} {k : Nat} (h : Q (.tup (xs.drop k)) M) : rSlP (.tup xs) (some (k : Int)) none M Q := by
  refine rSl_tup ?_; rw [pcut_from]; exact h
theorem lSl_to {Q : QE} {M : PH} {a : Addr} {xs : List PV} {k : Nat} (e : M a = some (.lst xs)) (h : ∀ D, ¬ Wr M D → Q (.ref D) (pupd M D (.lst (xs.take k)))) : rSlP (.ref a) none (some (k : Int)) M Q := by
  refine rSl_lst (listAt_lst e) fun D n => ?_; rw [pcut_to]; exact h D n
/-! ## words -/
def abc : Str := "abcdefghijklmnopqrstuvwxyz"
def chr1 (n : Nat) : Str := ⟨#[97 + n]⟩
theorem abc_at : ∀ n : Nat, n < 26 → abc.cps.toList[n]? = some (97 + n) := by decide
theorem abc_ix {i : Int} (h0 : 0 ≤ i) (h1 : i < 26) : atI abc.cps.toList i = some (97 + i.toNat) := by
  obtain ⟨n, rfl⟩ := Int.eq_ofNat_of_zero_le h0
  exact atI_nat (abc_at n (by omega))
theorem rIx_abc {Q : QE} {M : PH} {i : Int} (h0 : 0 ≤ i) (h1 : i < 26) (h : Q (.str (chr1 i.toNat)) M) : rIxP (.str abc) (.int i) M Q :=
  rIx_str (by rw [sizeLine_eq]; decide) (abc_ix h0 h1) h
theorem app_cps (x y : Str) : (x ++ y).cps.toList = x.cps.toList ++ y.cps.toList := by
  show (x.cps ++ y.cps).toList = _
  simp
theorem len_cps (x : Str) : x.length = x.cps.toList.length := rfl
theorem str_ext {x y : Str} (h : x.cps.toList = y.cps.toList) : x = y := by
  cases x; cases y; simp at h; simp [h]
theorem join0_cps : ∀ ys : List Str, (Str.join "" ys).cps.toList = (ys.map fun y => y.cps.toList).flatten
  | [] => rfl
  | [x] => by simp [Str.join]
  | x :: y :: r => by
    rw [Str.join]
    · rw [app_cps, app_cps, join0_cps (y :: r)]
      simp
      rfl
    · simp
/-- a word of at most n small letters -/
def Wd (n : Nat) (z : Str) : Prop := 1 ≤ z.length ∧ z.length ≤ n ∧ ∀ c ∈ z.cps.toList, 97 ≤ c ∧ c ≤ 122
theorem Wd.ok {n : Nat} {z : Str} (h : Wd n z) : PyData.strOk z = true := by
  unfold PyData.strOk
  rw [Array.all_eq_true']
  intro c hc
  have := h.2.2 c (Array.mem_def.mp hc)
  simp; omega
theorem Wd.ne {n : Nat} {z : Str} (h : Wd n z) : z ≠ "" := fun e => by
  have := h.1
  rw [e] at this
  exact absurd this (by decide)
theorem dats_strs (ws : List Str) : dats (ws.map PV.str) = ws.map PyData.str := by
  rw [dats_map, List.map_map]; exact List.map_congr_left fun w _ => by rw [Function.comp, dat]
theorem pls_all : ∀ {xs : List PV}, (∀ x ∈ xs, pl x = true) → pls xs = true
  | [], _ => by rw [pls]
  | x :: r, h => by rw [pls, h x List.mem_cons_self, pls_all fun y hy => h y (List.mem_cons_of_mem _ hy)]; rfl
theorem tls_all : ∀ {xs : List PV}, (∀ x ∈ xs, tl x = true) → tls xs = true
  | [], _ => by rw [tls]
  | x :: r, h => by rw [tls, h x List.mem_cons_self, tls_all fun y hy => h y (List.mem_cons_of_mem _ hy)]; rfl
theorem purs_all : ∀ {xs : List PV}, (∀ x ∈ xs, pur x = true) → purs xs = true
  | [], _ => by rw [purs]
  | x :: r, h => by rw [purs, h x List.mem_cons_self, purs_all fun y hy => h y (List.mem_cons_of_mem _ hy)]; rfl
theorem dpts_all {n : Nat} : ∀ {xs : List PV}, (∀ x ∈ xs, dpt x ≤ n) → dpts xs ≤ n
  | [], _ => by rw [dpts]; omega
  | x :: r, h => by
    rw [dpts]
    have := h x List.mem_cons_self
    have := dpts_all (xs := r) fun y hy => h y (List.mem_cons_of_mem _ hy)
    omega
theorem shns_all {n : Nat} : ∀ {xs : List PV}, (∀ x ∈ xs, shn x ≤ n) → shns xs ≤ (n + 2) * xs.length
  | [], _ => by rw [shns]; omega
  | x :: r, h => by
    rw [shns, List.length_cons, Nat.mul_succ]
    have := h x List.mem_cons_self
    have := shns_all (xs := r) fun y hy => h y (List.mem_cons_of_mem _ hy)
    omega
theorem srtb_strs (ws : List Str) : Srtb (ws.map PV.str) := by
  refine ⟨purs_all fun x hx => ?_, ?_, ?_, fun x hx => ?_⟩
  · obtain ⟨w, _, rfl⟩ := List.mem_map.mp hx; rw [pur]; all_goals (intros; contradiction)
  · rw [dats_strs]
    intro d hd d' hd'
    obtain ⟨w, _, rfl⟩ := List.mem_map.mp hd
    obtain ⟨w', _, rfl⟩ := List.mem_map.mp hd'
    rfl
  · refine .inr fun d hd => ?_
    rw [dats_strs] at hd
    obtain ⟨w, _, rfl⟩ := List.mem_map.mp hd
    exact ⟨nofun, nofun⟩
  · obtain ⟨w, _, rfl⟩ := List.mem_map.mp hx
    rw [dpt_eq, dpt]; omega; all_goals (intros; contradiction)
/-- what is sorted is the same things -/
theorem sortP_perm (xs : List PV) : (sortP xs).Perm xs := List.mergeSort_perm xs leP
theorem sortP_strs (ws : List Str) : ∃ us : List Str, sortP (ws.map PV.str) = us.map PV.str ∧ us.Perm ws := by
  have key : ∀ (xs : List PV), (∀ x ∈ xs, ∃ w, x = PV.str w) → ∃ us : List Str, xs = us.map PV.str := by
    intro xs
    induction xs with
    | nil => intro _; exact ⟨[], rfl⟩
    | cons x r ih =>
      intro h
      obtain ⟨w, rfl⟩ := h x List.mem_cons_self
      obtain ⟨us, rfl⟩ := ih fun y hy => h y (List.mem_cons_of_mem _ hy)
      exact ⟨w :: us, rfl⟩
  obtain ⟨us, e⟩ := key (sortP (ws.map PV.str)) fun x hx => by
    obtain ⟨w, _, rfl⟩ := List.mem_map.mp ((sortP_perm _).mem_iff.mp hx)
    exact ⟨w, rfl⟩
  refine ⟨us, e, ?_⟩
  have := sortP_perm (ws.map PV.str)
  rw [e] at this
  have inj : Function.Injective PV.str := fun a b h => by cases h; rfl
  have hm := this.map (fun p => match p with | .str w => w | _ => "")
  rwa [List.map_map, List.map_map, show ((fun p => match p with | .str w => w | _ => "") ∘ PV.str) = (id : Str → Str) from rfl, List.map_id, List.map_id] at hm
end PL
set_option autoImplicit false
namespace PL
open PySem PySem.Spec L2
open PyProof.Rows hiding St

/-! ## which of two tuples stands ahead, whatever stands behind the first that differs -/
section
open Ob PySem.SeqAt PySem.MeetsSeq PySem.MeetsSeq2 PySem.MeetsSeq3
theorem lt_walk (p q : Addr) (xs ys : Array Value) (n m : Nat) (d1 d2 : Option Addr) (z1 z2 : Array (Option Value)) (e r : Nat → Bool) :
    Meets (Builtin.«tuple.__lt__» ⟨[.ref p, .ref q], []⟩)
      (fun A R s => s.heap.get? p = some { cls := .type "tuple", dict := d1, data := .seq xs n, slots := z1 } ∧ s.heap.get? q = some { cls := .type "tuple", dict := d2, data := .seq ys m, slots := z2 } ∧
        (∀ j (h1 : j < xs.size) (h2 : j < ys.size), EqAt A.in1 s xs[j] ys[j] (e j)) ∧
        (∀ j (h1 : j < xs.size) (h2 : j < ys.size), (∀ k, k < j → e k = true) → e j = false → RcOp .Lt A.in1 s xs[j] ys[j] (r j)) ∧
        R (.ok (.ret (.bool (lexAt e r (decide (xs.size < ys.size)) 0 (min xs.size ys.size))))) s) :=
  .of_wp fun prog w A R s h => by
    obtain ⟨hp, g, d, tk, os⟩ := s
    obtain ⟨gp, gq, heq, hlt, fin⟩ := h
    have sub := AutoSeq1.sub_tuple_tuple
    have len : (xs.toList.zip ys.toList).length = min xs.size ys.size := by simp
    wp_walk using PySem.AutoSeq1.wpAny_loadPart' gp, PySem.AutoSeq1.wpAny_loadPart' gq, wpAny_forIn_list _ (fun rest b s' => b.1 = none ∧ s' = ⟨hp, g, d, tk, os⟩ ∧ ∃ i, rest = (xs.toList.zip ys.toList).drop i ∧ (∀ k, k < i → e k = true) ∧
      R (.ok (.ret (.bool (lexAt e r (decide (xs.size < ys.size)) i (min xs.size ys.size - i))))) ⟨hp, g, d, tk, os⟩) _
    case turn =>
      rintro ⟨u, v⟩ rest b s' ⟨eb, rfl, i, ez, hall, hR⟩
      have il : i < (xs.toList.zip ys.toList).length := by
        apply Nat.lt_of_not_le
        intro h'
        rw [List.drop_of_length_le h'] at ez; cases ez
      have i1 : i < xs.size := by omega
      have i2 : i < ys.size := by omega
      rw [List.drop_eq_getElem_cons il] at ez
      obtain ⟨euv, er⟩ := List.cons.inj ez
      have eu : u = xs[i] := by have := congrArg Prod.fst euv; simpa using this
      have ev : v = ys[i] := by have := congrArg Prod.snd euv; simpa using this
      subst eu; subst ev
      have es : min xs.size ys.size - i = (min xs.size ys.size - (i + 1)) + 1 := by omega
      rw [es, lexAt_succ] at hR
      refine wpAny_bind (heq i i1 i2 prog w _ _ ?_)
      cases ei : e i with
      | true =>
        rw [ei, if_pos rfl] at hR
        wp_walk
        refine ⟨rfl, rfl, i + 1, er, fun k hk => ?_, hR⟩
        rcases Nat.lt_succ_iff_lt_or_eq.mp hk with h | h
        · exact hall k h
        · rw [h]; exact ei
      | false =>
        rw [ei, if_neg Bool.false_ne_true] at hR
        have hri := hlt i i1 i2 hall ei prog w
        wp_walk using hri
        exact ⟨_, rfl, by simpa using hR⟩
    case fin =>
      rintro ⟨b1, b2⟩ s' ⟨eb, rfl, i, ez, hall, hR⟩
      simp only at eb
      subst eb
      have ge : min xs.size ys.size ≤ i := by
        apply Nat.le_of_not_lt
        intro h'
        rw [List.drop_eq_getElem_cons (by omega)] at ez; cases ez
      rw [Nat.sub_eq_zero_of_le ge, lexAt_zero] at hR
      wp_walk
      exact ⟨_, rfl, by simpa [Builtin.Tuple.tupleCompareSizes] using hR⟩
    case h =>
      exact ⟨rfl, rfl, 0, rfl, fun k hk => absurd hk (Nat.not_lt_zero k), by simpa using fin⟩
theorem lt_tuples {A : Around} {s : Shared} {p q : Addr} {xs ys : Array Value} {e r : Nat → Bool} (hp : s.heap.IsTuple p xs) (hq : s.heap.IsTuple q ys) (hu : A.units < cLine)
    (he : ∀ j (h1 : j < xs.size) (h2 : j < ys.size), EqAt A.in1 s xs[j] ys[j] (e j))
    (hr : ∀ j (h1 : j < xs.size) (h2 : j < ys.size), (∀ k, k < j → e k = true) → e j = false → RcOp .Lt A.in1 s xs[j] ys[j] (r j)) :
    RcOp .Lt A s (.ref p) (.ref q) (lexAt e r (decide (xs.size < ys.size)) 0 (min xs.size ys.size)) := fun prog w E Q h => by
  obtain ⟨⟨c1, d1, t1, z1⟩, g1, hc1, n1, ht1⟩ := id hp
  obtain ⟨⟨c2, d2, t2, z2⟩, g2, hc2, n2, ht2⟩ := id hq
  simp only at hc1 ht1 hc2 ht2
  subst hc1 ht1 hc2 ht2
  exact richCompare_meets_room (op := .Lt) ⟨_, g1, rfl⟩ ⟨_, g2, rfl⟩ PySem.F.slot_tuple_lt PySem.F.entry_tuple_lt (PySem.F.args_tuple_lt_2 _ _) (lt_walk p q xs ys n1 n2 d1 d2 z1 z2 e r)
    ⟨g1, g2, he, hr, ⟨(fun x => nomatch x), h⟩⟩ hu
end
/-! ### of data -/
mutual
/-- Python can tell which of the two is less -/
def cmpD : PyData → PyData → Bool
  | .int _, .int _ => true
  | .str _, .str _ => true
  | .tuple xs, .tuple ys => cmpDs xs ys
  | _, _ => false
def cmpDs : List PyData → List PyData → Bool
  | x :: xs, y :: ys => if PyData.eqv x y = true then cmpDs xs ys else cmpD x y
  | _, _ => true
end
mutual
def ltD : PyData → PyData → Bool
  | .int i, .int j => decide (i < j)
  | .str x, .str y => decide (x.cps.toList < y.cps.toList)
  | .tuple xs, .tuple ys => ltDs xs ys
  | _, _ => false
def ltDs : List PyData → List PyData → Bool
  | x :: xs, y :: ys => if PyData.eqv x y = true then ltDs xs ys else ltD x y
  | xs, ys => decide (xs.length < ys.length)
end
theorem ltDs_lex (e r : Nat → Bool) : ∀ (xs ys : List PyData) (i : Nat), (∀ j x y, xs[j]? = some x → ys[j]? = some y → e (i + j) = PyData.eqv x y ∧ r (i + j) = ltD x y) → Ob.lexAt e r (decide (xs.length < ys.length)) i (min xs.length ys.length) = ltDs xs ys
  | [], ys, i, _ => by rw [List.length_nil, Nat.zero_min, Ob.lexAt_zero]; cases ys <;> rw [ltDs] <;> (first | rfl | (intros; contradiction))
  | x :: xs, [], i, _ => by rw [List.length_nil, Nat.min_zero, Ob.lexAt_zero, ltDs]; rfl; intros; contradiction
  | x :: xs, y :: ys, i, h => by
    have h0 := h 0 x y rfl rfl
    have ih := ltDs_lex e r xs ys (i + 1) fun j a b ha hb => by
      have := h (j + 1) a b (by simpa using ha) (by simpa using hb)
      rwa [Nat.add_assoc, Nat.add_comm 1 j]
    rw [List.length_cons, List.length_cons, Nat.succ_min_succ, Ob.lexAt_succ, ltDs]
    rw [Nat.add_zero] at h0
    rw [h0.1, h0.2]
    have e2 : decide (xs.length + 1 < ys.length + 1) = decide (xs.length < ys.length) := by simp
    rw [e2, ih]
theorem cmpDs_at : ∀ (xs ys : List PyData) (j : Nat) (x y : PyData), cmpDs xs ys = true → xs[j]? = some x → ys[j]? = some y → (∀ k a b, k < j → xs[k]? = some a → ys[k]? = some b → PyData.eqv a b = true) → PyData.eqv x y = false → cmpD x y = true
  | [], _, _, _, _, _, h, _, _, _ => by simp at h
  | _ :: _, [], _, _, _, _, _, h, _, _ => by simp at h
  | a :: xs, b :: ys, 0, x, y, c, h1, h2, _, n => by
    simp at h1 h2; subst h1; subst h2
    rw [cmpDs, n, if_neg Bool.false_ne_true] at c
    exact c
  | a :: xs, b :: ys, j + 1, x, y, c, h1, h2, h, n => by
    rw [cmpDs, h 0 a b (by omega) rfl rfl, if_pos rfl] at c
    exact cmpDs_at xs ys j x y c (by simpa using h1) (by simpa using h2) (fun k u v hk hu hv => h (k + 1) u v (by omega) (by simpa using hu) (by simpa using hv)) n
theorem reads_at {h : Heap} : ∀ {vs : List Value} {xs : List PyData} {as : List Addr}, ReadsAll h vs xs as → ∀ (j : Nat) (v : Value), vs[j]? = some v → ∃ x bs, xs[j]? = some x ∧ Reads h v x bs := by
  intro vs xs as r
  induction xs generalizing vs as with
  | nil => cases r; intro j v hv; simp at hv
  | cons x xs ih =>
    cases r with
    | cons a b =>
      intro j v hv
      cases j with
      | zero => simp at hv; subst hv; exact ⟨x, _, rfl, a⟩
      | succ j => simpa using ih b j v (by simpa using hv)
theorem depth_at : ∀ {xs : List PyData} {j : Nat} {x : PyData}, xs[j]? = some x → x.depth ≤ PyData.depthAll xs
  | [], _, _, h => by simp at h
  | a :: xs, 0, x, h => by simp at h; subst h; rw [PyData.depthAll]; omega
  | a :: xs, j + 1, x, h => by
    have := depth_at (xs := xs) (j := j) (by simpa using h)
    rw [PyData.depthAll]; omega
theorem lt_rc : ∀ (n : Nat) (d e : PyData) (A : Around) (s : Shared) (a b : Value) (as bs : List Addr), d.depth ≤ n → Reads s.heap a d as → Reads s.heap b e bs → d.canLay0 = true → e.canLay0 = true → cmpD d e = true →
    A.units + min d.depth e.depth < cLine → Ob.RcOp .Lt A s a b (ltD d e) := by
  intro n
  induction n with
  | zero =>
    intro d e A s a b as bs hn ra rb ca cb hc hu
    cases d <;> cases e <;> (try (rw [cmpD] at hc; cases hc)) <;> (try (intros; contradiction))
    · cases ra; cases rb; rw [ltD]; exact Ob.RcOp.lt_int _ _ _ _
    · cases ra; cases rb; rw [ltD]; exact fun _ _ _ _ h => PyProof.Rows.lt_str h
    all_goals (first | (rw [PyData.depth] at hn; omega) | (intros; contradiction))
  | succ n ih =>
    intro d e A s a b as bs hn ra rb ca cb hc hu
    cases d <;> cases e <;> (try (rw [cmpD] at hc; cases hc)) <;> (try (intros; contradiction))
    · cases ra; cases rb; rw [ltD]; exact Ob.RcOp.lt_int _ _ _ _
    · cases ra; cases rb; rw [ltD]; exact fun _ _ _ _ h => PyProof.Rows.lt_str h
    · rename_i xs ys
      cases ra with
      | @tuple _ o1 vs1 n1 _ _ g1 c1 t1 r1 =>
      cases rb with
      | @tuple _ o2 vs2 n2 _ _ g2 c2 t2 r2 =>
      rw [cmpD] at hc
      rw [PyData.depth, PyData.depth] at hu
      rw [PyData.depth] at hn
      have l1 := SeqAt.ReadsAll.length _ _ _ r1
      have l2 := SeqAt.ReadsAll.length _ _ _ r2
      have ca' : PyData.canLayAll0 xs = true := ca
      have cb' : PyData.canLayAll0 ys = true := cb
      have at1 : ∀ j (h : j < vs1.size), ∃ x bs, xs[j]? = some x ∧ Reads s.heap vs1[j] x bs ∧ x.canLay0 = true ∧ x.depth ≤ PyData.depthAll xs := fun j h => by
        obtain ⟨x, bs, e1, e2⟩ := reads_at r1 j vs1[j] (by simp)
        exact ⟨x, bs, e1, e2, PyData.canLay0_of_mem xs x ca' (List.mem_of_getElem? e1), depth_at e1⟩
      have at2 : ∀ j (h : j < vs2.size), ∃ x bs, ys[j]? = some x ∧ Reads s.heap vs2[j] x bs ∧ x.canLay0 = true ∧ x.depth ≤ PyData.depthAll ys := fun j h => by
        obtain ⟨x, bs, e1, e2⟩ := reads_at r2 j vs2[j] (by simp)
        exact ⟨x, bs, e1, e2, PyData.canLay0_of_mem ys x cb' (List.mem_of_getElem? e1), depth_at e1⟩
      have u1 : A.in1.units = A.units + 1 := rfl
      have R := lt_tuples (A := A) (s := s) (e := fun j => PyData.eqv (xs.getD j .none) (ys.getD j .none)) (r := fun j => ltD (xs.getD j .none) (ys.getD j .none)) ⟨_, g1, c1, _, t1⟩ ⟨_, g2, c2, _, t2⟩ (by omega)
        (fun j h1 h2 => by
          obtain ⟨x, bs, e1, rx, cx, dx⟩ := at1 j h1
          obtain ⟨y, cs, e2, ry, cy, dy⟩ := at2 j h2
          rw [List.getD_eq_getElem?_getD, List.getD_eq_getElem?_getD, e1, e2]
          exact SeqAt.eqAt_reads x y A.in1 s _ _ _ _ rx ry cx cy (by rw [u1]; omega))
        (fun j h1 h2 hall hj => by
          obtain ⟨x, bs, e1, rx, cx, dx⟩ := at1 j h1
          obtain ⟨y, cs, e2, ry, cy, dy⟩ := at2 j h2
          rw [List.getD_eq_getElem?_getD, List.getD_eq_getElem?_getD, e1, e2] at hj ⊢
          refine ih x y A.in1 s _ _ _ _ (by omega) rx ry cx cy ?_ (by rw [u1]; omega)
          refine cmpDs_at xs ys j x y hc e1 e2 (fun k a b hk ha hb => ?_) hj
          have := hall k hk
          rwa [List.getD_eq_getElem?_getD, List.getD_eq_getElem?_getD, ha, hb] at this)
      have s1 : vs1.size = xs.length := by rw [← l1]; simp
      have s2 : vs2.size = ys.length := by rw [← l2]; simp
      rw [s1, s2, ltDs_lex _ _ xs ys 0 (fun j x y hx hy => by
        rw [Nat.zero_add, List.getD_eq_getElem?_getD, List.getD_eq_getElem?_getD, hx, hy]
        exact ⟨rfl, rfl⟩)] at R
      rw [ltD]
      exact R
    all_goals (first | (rw [PyData.depth] at hn; omega) | (intros; contradiction))
/-- < of tuples of data -/
def r0LtD (K : Fg) : R2 := fun x y H Q => ∃ d e, Dp K H x d ∧ Dp K H y e ∧ SeqAt.shaped d = true ∧ SeqAt.shaped e = true ∧ cmpD d e = true ∧ Q (.bl (ltD d e)) H
theorem op_ltD {X : Cx} (hu : X.A.units + 64 < cLine) : OpR X (compareOp .Lt) (r0LtD X.K) := by
  intro pins s σ H x y v u Q I rx ry h
  obtain ⟨d, e, hd, he, sd, se, hc, q⟩ := h
  obtain ⟨as, r1⟩ := Dp.reads I d x v hd rx
  obtain ⟨bs, r2⟩ := Dp.reads I e y u he ry
  exact lt_rc _ d e X.A s v u _ _ (Nat.le_refl _) r1 r2 (SeqAt.canLay_of_shaped sd) (SeqAt.canLay_of_shaped se) hc (SeqAt.room_of_shaped sd hu) X.prog X.w X.xe (EP X pins σ Q) ⟨.bl _, H, I, rfl, q⟩
def rLtX : PR2 := fun x y M Q => match x, y with
  | .int i, .int j => Q (.bl (decide (i < j))) M
  | .str i, .str j => Q (.bl (decide (i.cps.toList < j.cps.toList))) M
  | .tup xs, .tup ys => pur (.tup xs) = true ∧ pur (.tup ys) = true ∧ shp (dat (.tup xs)) = true ∧ shp (dat (.tup ys)) = true ∧ cmpD (dat (.tup xs)) (dat (.tup ys)) = true ∧ Q (.bl (ltD (dat (.tup xs)) (dat (.tup ys)))) M
  | _, _ => False
theorem mono_ltX : Mono2 rLtX := by
  intro x y M Q Q' k h
  unfold rLtX at h ⊢
  split at h
  · exact k _ _ h
  · exact k _ _ h
  · exact ⟨h.1, h.2.1, h.2.2.1, h.2.2.2.1, h.2.2.2.2.1, k _ _ h.2.2.2.2.2⟩
  · exact h
def r0LtX (K : Fg) : R2 := fun x y H Q => r0Lt x y H Q ∨ r0LtD K x y H Q
theorem lift_ltX {K : Fg} : Lift2 K rLtX (r0LtX K) := by
  intro M H x y v u Q rh rx ry h
  unfold rLtX at h
  split at h
  · rw [Rep] at rx ry; exact .inl (.inl ⟨_, _, rx, ry, dn_here rh (by rw [Rep]) h⟩)
  · rw [Rep] at rx ry; exact .inl (.inr ⟨_, _, rx, ry, dn_here rh (by rw [Rep]) h⟩)
  · exact .inr ⟨_, _, dp_of h.1 rx, dp_of h.2.1 ry, h.2.2.1, h.2.2.2.1, h.2.2.2.2.1, dn_here rh (by rw [Rep]) h.2.2.2.2.2⟩
  · exact h.elim
theorem op_ltX {X : Cx} (hu : X.A.units + 64 < cLine) : OpR X (compareOp .Lt) (r0LtX X.K) := OpR.or op_lt' (op_ltD hu)
end PL
set_option autoImplicit false
namespace PL
open PySem PySem.Spec L2
open PyProof.Rows hiding St
open RZ

/-! ## where a word stands in a written tuple of words -/
structure KIx (K : Fg) (mg : Str → Option Value) (x : Str) (ys : List Str) : Prop where
  is : ∃ (t : Addr) (o : Obj), mg x = some (.ref t) ∧ K.lookup t = some o ∧ o.cls = .type "tuple" ∧ o.dict = none ∧ ∀ H, Rep K H (.tup (ys.map PV.str)) (.ref t)
def wKIx (ys : List Str) (e : WE) : WE := fun EP s M Q => e EP s M fun p M1 => match p with
  | .str z => ∃ j, ys[j]? = some z ∧ (∀ m, m < j → ys[m]? ≠ some z) ∧ Q (.int (j : Nat)) M1
  | _ => False
theorem reps_strs {K : Fg} {H : Hp} : ∀ {ys : List Str} {vs : List V}, Reps K H (ys.map PV.str) vs → vs = ys.map V.str
  | [], vs, h => by rw [List.map_nil, Reps] at h; exact h
  | y :: ys, vs, h => by
    rw [List.map_cons, Reps] at h
    obtain ⟨v, r, rfl, h1, h2⟩ := h
    rw [Rep] at h1
    rw [h1, reps_strs h2]; rfl
theorem ee_kidx {X : Cx} {W : WX} {x : Str} {ys : List Str} {e : Expr} {we : WE} {p apos pos : Pos} (k : KIx X.K X.mg x ys) (he : EE X W e we) (hg : Gl X x := by rfl) (hd : (x == ("__debug__" : Str)) = false := by decide)
    (hbase : attributeBase (.Name x p) "index" X.env (eval (.Name x p) X.env) = eval (.Name x p) X.env := by rfl) (hfew : ((backTo pos (starEach [e] X.env)).all (fun x => !x.1) && (backToKw pos (keywordEach [] X.env)).all (fun x => x.1.isSome)
      && decide ([e].length + ([] : List Keyword).length + (if ([] : List Keyword).isEmpty then 0 else 1) < 30)) = true := by rfl)
    (hline : (apos.endLine == pos.line) = true := by rfl) (hst : starEach [e] X.env = (false, eval e X.env) :: starEach [] X.env := by rfl) (hpl : (backTo pos (starEach [] X.env)).any (·.1) = false := by rfl) :
    EE X W (.Call (.Attribute (.Name x p) "index" apos) [e] [] pos) (wKIx ys we) := by
  obtain ⟨t, o, hm, hl, hc, hn, hr⟩ := k.is
  refine ⟨fun EP s M Q Q' k h => he.mono _ _ _ _ _ (fun p M1 z => ?_) h, pe_weak (pe_bm PySem.F.plainAttrs_tuple PySem.F.slot_tuple_index PySem.F.type_tuple_index mt_tup_index (pe_glob (v := .ref t) hg hm rfl hd) (ea_cons he ea_nil hst).run hbase hfew hline hst hpl) ?_⟩
  · cases p with
    | str z' => exact let ⟨j, a, b, c⟩ := z; ⟨j, a, b, k _ _ c⟩
    | _ => exact z
  · rintro σ H Q ⟨EP, s, M, c, h⟩
    refine ⟨.inr (.inl ⟨rfl, o, hl, hc, hn⟩), ?_⟩
    refine c.useA (w := wCons we wNil) (ea_cons he ea_nil hst).mono (R := fun ps M1 => ∃ p, ps = [p] ∧ (match p with
      | .str z => ∃ j, ys[j]? = some z ∧ (∀ m, m < j → ys[m]? ≠ some z) ∧ Dn X.K M H Q (.int (j : Nat)) M1
      | _ => False)) (he.mono _ _ _ _ _ (fun p M1 z => ⟨p, rfl, z⟩) h) fun ps M1 vs H1 h1 S1 c1 r1 => ?_
    obtain ⟨p, rfl, h1⟩ := h1
    obtain ⟨v, rfl, rv⟩ := reps1 r1
    cases p with
    | str z =>
      rw [Rep] at rv; subst rv
      obtain ⟨j, a, b, q⟩ := h1
      have r := hr H1
      rw [Rep] at r
      obtain ⟨t', vs, e1, hs, rr⟩ := r
      cases e1
      rw [reps_strs rr] at hs
      exact ⟨t, ys, z, j, rfl, rfl, hs, a, b, dn_here c1.rh (by rw [Rep]) (q.on S1)⟩
    | _ => exact h1.elim
/-! ## where a thing stands in a list -/
def mLIndex : PM := fun x ps M Q => match x, ps with
  | .ref a, [p] => ∃ xs j z, M a = some (.lst xs) ∧ purs xs = true ∧ pur p = true ∧ shp (.list (dats xs)) = true ∧ shp (dat p) = true ∧ xs[j]? = some z ∧ PyData.eqv (dat z) (dat p) = true ∧ (∀ m z', m < j → xs[m]? = some z' → PyData.eqv (dat z') (dat p) = false) ∧ Q (.int (j : Nat)) M
  | _, _ => False
theorem mono_lindex : MonoM mLIndex := by
  intro x ps M Q Q' k h
  unfold mLIndex at h ⊢
  split at h
  · exact let ⟨xs, j, z, a, b, c, d, e, f, g, i, q⟩ := h; ⟨xs, j, z, a, b, c, d, e, f, g, i, k _ _ q⟩
  · exact h
theorem dats_get : ∀ {xs : List PV} {j : Nat}, (dats xs)[j]? = (xs[j]?).map dat := fun {xs} {j} => by rw [dats_map, List.getElem?_map]
theorem lift_lindex {K : Fg} : LiftM K mLIndex (rIndexD K) := by
  intro M H x ps v vs Q rh rx rps h
  unfold mLIndex at h
  split at h
  · obtain ⟨xs, j, z, e, hp, hq, s1, s2, hz, ez, hno, q⟩ := h
    rw [Rep] at rx; subst rx
    obtain ⟨u, rfl, ru⟩ := reps1 rps
    obtain ⟨us, hu, rr⟩ := rh _ _ e
    refine ⟨_, u, dat _, dats xs, j, dat z, rfl, rfl, .lst (SqL.of hu) (dps_of hp rr), dp_of hq ru, s1, s2, by rw [dats_get, hz]; rfl, ez, fun m z' hm hz' => ?_, dn_here rh (by rw [Rep]) q⟩
    rw [dats_get] at hz'
    obtain ⟨y, h1, h2⟩ := Option.map_eq_some_iff.mp hz'
    subst h2
    exact hno m y hm h1
  · exact h.elim
/-! ## zip of two -/
def pairP (x y : PV) : PV := .tup [x, y]
def qZip (QI : PSrc → PH → Prop) : List PV → PH → Prop := fun ps M1 => match ps with
  | [.tup xs, .tup ys] => QI ⟨List.zipWith pairP xs ys, fun _ => True⟩ M1
  | [.ref a, .ref b] => match listAt M1 a, listAt M1 b with
    | some xs, some ys => QI ⟨List.zipWith pairP xs ys, fun M => listAt M a = some xs ∧ listAt M b = some ys⟩ M1
    | _, _ => False
  | _ => False
def iZp (a : WA) : WI := fun EP s M Q => a EP s M (qZip Q)
theorem zip_end {α β γ : Type} {f : α → β → γ} {xs : List α} {ys : List β} {i : Nat} (h : i = (List.zipWith f xs ys).length) : xs.length ≤ i ∨ ys.length ≤ i := by
  rw [List.length_zipWith] at h; omega
theorem zip_at {α β γ : Type} {f : α → β → γ} {xs : List α} {ys : List β} {i : Nat} {p : γ} (h : (List.zipWith f xs ys)[i]? = some p) : ∃ x y, xs[i]? = some x ∧ ys[i]? = some y ∧ p = f x y := by
  rw [List.getElem?_zipWith] at h
  cases e : xs[i]? with
  | none => rw [e] at h; simp at h
  | some x => cases e2 : ys[i]? with
    | none => rw [e, e2] at h; simp at h
    | some y => rw [e, e2] at h; simp at h; exact ⟨x, y, rfl, rfl, h.symm⟩
theorem pair_new {K : Fg} {M : PH} {H : Hp} {x y : PV} {u v : V} {T : Addr} (rh : RepH K H M) (rx : Rep K H x u) (ry : Rep K H y v) (hT : H T = none) :
    Step M H M (upd H T (.tup [u, v])) ∧ RepH K (upd H T (.tup [u, v])) M ∧ Rep K (upd H T (.tup [u, v])) (pairP x y) (.ref T) := by
  have t : TKeep H (upd H T (.tup [u, v])) := tk_upd (notup_none hT)
  refine ⟨.hidden hT, rh.upd_free hT, ?_⟩
  unfold pairP
  rw [Rep]
  refine ⟨T, [u, v], rfl, .inl (.inl upd_same), ?_⟩
  rw [Reps]
  refine ⟨u, [v], rfl, rx.tk t, ?_⟩
  rw [Reps]
  refine ⟨v, [], rfl, ry.tk t, ?_⟩
  rw [Reps]
theorem ei_zip {X : Cx} {W : WX} {a b : Expr} {wa : WA} {elts : List Expr} {kk : Nat} {p pos tpos : Pos} (hm : X.mg "zip" = none) (ha : EA X W [a, b] wa) (hg : Gl X "zip" := by rfl) (hs : starEach [a, b] X.env = (false, eval a X.env) :: starEach [b] X.env := by rfl) (hpl : (backTo pos (starEach [b] X.env)).any (·.1) = false := by rfl) :
    EI X W (.Tuple elts kk tpos) (.Call (.Name "zip" p) [a, b] [] pos) (iZp wa) := by
  refine ⟨fun EP s M Q Q' k h => ha.mono _ _ _ _ _ (fun ps M1 z => ?_) h, pi_weak (RZ.pi_zipA hg hm ha.run hs hpl) ?_⟩
  · unfold qZip at z ⊢
    split at z
    · exact k _ _ z
    · split at z
      · exact k _ _ z
      · exact z
    · exact z
  · rintro σ H R ⟨EP, s, M, c, h⟩
    refine c.useA ha.mono h fun ps M1 vs H1 h1 S1 c1 r1 => ?_
    unfold qZip at h1
    split at h1
    · rename_i xs ys
      obtain ⟨u, v, rfl, ru, rv⟩ := reps2 r1
      rw [Rep] at ru rv
      obtain ⟨a1, us, rfl, s1, rr1⟩ := ru
      obtain ⟨a2, ws, rfl, s2, rr2⟩ := rv
      refine ⟨a1, a2, us, ws, rfl, .inr ⟨s1, s2, h1 _ H1 S1 c1.rh ?_⟩⟩
      intro i M2 H2 S2 rh2 _
      have t := S2.tk c1.rh
      refine ⟨fun p hp => ?_, fun hi => ⟨us, ws, sqt_keep t s1, sqt_keep t s2, by rw [← rr1.length, ← rr2.length]; exact zip_end hi⟩⟩
      obtain ⟨x, y, hx, hy, rfl⟩ := zip_at hp
      obtain ⟨u, hu, r1⟩ := rr1.get hx
      obtain ⟨w, hw, r2⟩ := rr2.get hy
      refine ⟨⟨us, ws, u, w, sqt_keep t s1, sqt_keep t s2, hu, hw⟩, fun z H' hz => ?_⟩
      obtain ⟨T, u', w', rfl, hT, rfl, h3, h4⟩ := hz
      have e1 := h3 us (sqt_keep t s1)
      have e2 := h4 ws (sqt_keep t s2)
      rw [hu] at e1; cases e1
      rw [hw] at e2; cases e2
      exact pair_new rh2 (r1.tk t) (r2.tk t) hT
    · rename_i a1 a2
      obtain ⟨u, v, rfl, ru, rv⟩ := reps2 r1
      rw [Rep] at ru rv
      subst ru; subst rv
      split at h1
      · rename_i xs ys e1 e2
        obtain ⟨us, rr1, s1⟩ := listAt_rd c1.rh e1
        obtain ⟨ws, rr2, s2⟩ := listAt_rd c1.rh e2
        refine ⟨a1, a2, us, ws, rfl, .inl ⟨s1, s2, h1 _ H1 S1 c1.rh ?_⟩⟩
        intro i M2 H2 S2 rh2 ok
        obtain ⟨us, rr1, s1⟩ := listAt_rd rh2 ok.1
        obtain ⟨ws, rr2, s2⟩ := listAt_rd rh2 ok.2
        refine ⟨fun p hp => ?_, fun hi => ⟨us, ws, s1, s2, by rw [← rr1.length, ← rr2.length]; exact zip_end hi⟩⟩
        obtain ⟨x, y, hx, hy, rfl⟩ := zip_at hp
        obtain ⟨u, hu, r1⟩ := rr1.get hx
        obtain ⟨w, hw, r2⟩ := rr2.get hy
        refine ⟨⟨us, ws, u, w, s1, s2, hu, hw⟩, fun z H' hz => ?_⟩
        obtain ⟨T, u', w', rfl, hT, rfl, h3, h4⟩ := hz
        have e3 := h3 us s1
        have e4 := h4 ws s2
        rw [hu] at e3; cases e3
        rw [hw] at e4; cases e4
        exact pair_new rh2 r1 r2 hT
      · exact h1.elim
    · exact h1.elim
/-! ## a statement that is never come to -/
def wNever : WS := fun _ _ _ _ => False
theorem es_never {X : Cx} {W : WX} {st : Stmt} : ES X W st wNever :=
  ⟨fun EP D D' s M k h => h.elim, ⟨fun pins s σ H D I q => by obtain ⟨EP, sp, M, c, h⟩ := q; exact h.elim⟩⟩
/-! ## is, is not, with None and truths -/
def rIsX (neg : Bool) : PR2 := fun x y M Q => match y with
  | .non => match x with
    | .non => Q (.bl (!neg)) M
    | _ => Q (.bl neg) M
  | .bl b => match x with
    | .bl a => Q (.bl (if neg then !decide (a = b) else decide (a = b))) M
    | _ => False
  | _ => False
theorem mono_isX {neg : Bool} : Mono2 (rIsX neg) := by
  intro x y M Q Q' k h
  cases y with
  | non => cases x <;> exact k _ _ h
  | bl b => cases x <;> first | exact k _ _ h | exact h
  | _ => exact h
def r0IsX : R2 := fun x y H Q => (y = .non ∧ Q (.bl (decide (x = .non))) H) ∨ ∃ a b, x = .bl a ∧ y = .bl b ∧ Q (.bl (decide (a = b))) H
def r0IsN : R2 := fun x y H Q => (y = .non ∧ Q (.bl (!decide (x = .non))) H) ∨ ∃ a b, x = .bl a ∧ y = .bl b ∧ Q (.bl (!decide (a = b))) H
theorem op_isX {X : Cx} : OpR X (compareOp .Is) r0IsX := OpR.or op_isN op_is_bl
theorem op_isnotX {X : Cx} : OpR X (compareOp .IsNot) r0IsN := OpR.or op_notN op_isnot_bl
theorem lift_isX {K : Fg} : Lift2 K (rIsX false) r0IsX := by
  intro M H x y v u Q rh rx ry h
  cases y with
  | non =>
    rw [Rep] at ry
    refine .inl ⟨ry, ?_⟩
    have e := rep_non rx
    cases x <;> (simp at e; simp only [e, decide_true, decide_false]; exact dn_here rh (p := .bl _) (by rw [Rep] <;> rfl) h)
  | bl b =>
    rw [Rep] at ry
    cases x with
    | bl a => rw [Rep] at rx; exact .inr ⟨a, b, rx, ry, dn_here rh (p := .bl (decide (a = b))) (by rw [Rep]) h⟩
    | _ => exact h.elim
  | _ => exact h.elim
theorem lift_isnotX {K : Fg} : Lift2 K (rIsX true) r0IsN := by
  intro M H x y v u Q rh rx ry h
  cases y with
  | non =>
    rw [Rep] at ry
    refine .inl ⟨ry, ?_⟩
    have e := rep_non rx
    cases x <;> (simp at e; simp only [e, decide_true, decide_false, Bool.not_true, Bool.not_false]; exact dn_here rh (p := .bl _) (by rw [Rep] <;> rfl) h)
  | bl b =>
    rw [Rep] at ry
    cases x with
    | bl a => rw [Rep] at rx; exact .inr ⟨a, b, rx, ry, dn_here rh (p := .bl (!decide (a = b))) (by rw [Rep]) h⟩
    | _ => exact h.elim
  | _ => exact h.elim
/-! ## isinstance -/
def tyN (M : PH) : PV → Option String
  | .non => some "NoneType"
  | .bl _ => some "bool"
  | .int _ => some "int"
  | .str _ => some "str"
  | .tup _ => some "tuple"
  | .ref a => match M a with
    | some (.lst _) => some "list"
    | some (.dK _) => some "dict"
    | _ => none
  | .ty _ => none
  | .bx _ _ => none
theorem tyN_x {K : Fg} {H : Hp} {M : PH} {p : PV} {v : V} {t : String} (rh : RepH K H M) (r : Rep K H p v) (h : tyN M p = some t) : TyX K H v (.type t) := by
  cases p with
  | non => rw [Rep] at r; subst r; rw [tyN] at h; cases h; exact .base .non
  | bl b => rw [Rep] at r; subst r; rw [tyN] at h; cases h; exact .base (.bl b)
  | int b => rw [Rep] at r; subst r; rw [tyN] at h; cases h; exact .base (.int b)
  | str b => rw [Rep] at r; subst r; rw [tyN] at h; cases h; exact .base (.str b)
  | bx k xs => rw [Rep] at r; exact r.elim
  | tup xs =>
    rw [tyN] at h; cases h
    rw [Rep] at r
    obtain ⟨a, vs, rfl, hs, rr⟩ := r
    rcases hs with (h | ⟨o, h⟩) | h
    · exact .base (.tup h)
    · exact .fTuple h
    · obtain ⟨o, its, n, e1, e2, _⟩ := h
      exact .kTuple e1 e2
  | ref a =>
    rw [Rep] at r; subst r
    rw [tyN] at h
    split at h
    · rename_i e; cases h; obtain ⟨vs, hv, _⟩ := rh _ _ e; exact .base (.lst hv)
    · rename_i e; cases h; obtain ⟨vs, hv, _⟩ := rh _ _ e; exact .base (.dK hv)
    · cases h
  | ty _ => rw [tyN] at h; cases h
def cIsi : PC := fun ps M Q => match ps with
  | [p, .ty T] => ∃ t b, tyN M p = some t ∧ kitB t T = some b ∧ Q (.bl b) M
  | _ => False
theorem mono_isi : MonoC cIsi := by
  intro ps M Q Q' k h
  unfold cIsi at h ⊢
  split at h
  · exact let ⟨t, b, e1, e2, q⟩ := h; ⟨t, b, e1, e2, k _ _ q⟩
  · exact h
theorem lift_isi {K : Fg} : LiftC K cIsi (rIsi K) := by
  intro M H ps vs Q rh r h
  unfold cIsi at h
  split at h
  · obtain ⟨t, b, e1, e2, q⟩ := h
    obtain ⟨u, v, rfl, ru, rv⟩ := reps2 r
    rw [Rep] at rv; subst rv
    exact ⟨u, _, .type t, .type _, b, rfl, .ty _, tyN_x rh ru e1, kit_ty e2, dn_here rh (by rw [Rep]) q⟩
  · exact h.elim
end PL
set_option autoImplicit false
namespace PL
open PySem PySem.Spec L2
open PyProof.Rows hiding St

/-! ## a tuple, a list from behind -/
section
variable {prog : Program} {w : World} {A : Around} {E : Value → Shared → Prop} {s : Shared}
theorem part_int {v : Value} {o : Option Int} {Q : Option Int → Shared → Prop} (p : IsPart v o) (h : Q o s) : wpAny (model prog w) A (Builtin.Slice.slicePartIndex v) Q E s := HT.slicePart_ p h
theorem adjust_back (n : Nat) : Builtin.Slice.sliceAdjust none none (-1) (n : Int) = ((n : Int) - 1, -1) := by
  unfold Builtin.Slice.sliceAdjust
  simp
theorem places_back (n : Nat) : Builtin.Slice.slicePlaces ((n : Int) - 1) (-1) (-1) = n := by
  unfold Builtin.Slice.slicePlaces
  simp
  split <;> omega
theorem fm_range : ∀ (ys : List Value) (f : Nat → Option Value), (∀ m, m < ys.length → f m = ys[m]?) → (List.range ys.length).filterMap f = ys
  | [], _, _ => rfl
  | y :: r, f, h => by
    have h0 : f 0 = some y := h 0 (by simp)
    rw [List.length_cons, List.range_succ_eq_map, List.filterMap_cons_some h0, List.filterMap_map]
    rw [fm_range r (f ∘ Nat.succ) fun m hm => by
      have := h (m + 1) (by simp; omega)
      rw [Function.comp]
      simpa using this]
theorem pick_back (xs : Array Value) : ((List.range xs.size).filterMap fun (m : Nat) => xs[(((xs.size : Int) - 1) + (m : Int) * (-1)).toNat]?).toArray = xs.toList.reverse.toArray := by
  congr 1
  have h := fm_range xs.toList.reverse (fun (m : Nat) => xs[(((xs.size : Int) - 1) + (m : Int) * (-1)).toNat]?) fun m hm => by
    rw [List.length_reverse, Array.length_toList] at hm
    rw [List.getElem?_reverse (by simpa using hm)]
    have : (((xs.size : Int) - 1) + (m : Int) * (-1)).toNat = xs.size - 1 - m := by omega
    rw [this]; simp
  rw [List.length_reverse, Array.length_toList] at h
  exact h
theorem applied_back {sl : Addr} {vl vu vs : Value} {n : Nat} {Q : Int × Int × Nat → Shared → Prop} (hs : s.heap.IsSliceOf sl vl vu vs) (pl : IsPart vl none) (pu : IsPart vu none) (ps : IsPart vs (some (-1)))
    (h : Q ((n : Int) - 1, -1, n) s) : wpAny (model prog w) A (Builtin.Slice.sliceApplied (.ref sl) (pure (n : Int))) Q E s := by
  obtain ⟨os, g, hc, hd⟩ := id hs
  unfold Builtin.Slice.sliceApplied Builtin.Slice.sliceFields
  refine wpAny_bind (wpAny_bind (wpAny_field g hd (x := vl) rfl (wpAny_bind (wpAny_field g hd (x := vu) rfl (wpAny_bind (wpAny_field g hd (x := vs) rfl (wpAny_pure ?_)))))))
  refine wpAny_bind (part_int ps ?_)
  show wpAny _ _ (if ((-1 : Int) == 0) = true then _ else _) _ _ s
  rw [if_neg (by decide)]
  refine wpAny_bind (part_int pl (wpAny_bind (part_int pu (wpAny_bind (wpAny_pure ?_)))))
  show wpAny _ _ (match Builtin.Slice.sliceAdjust none none (-1) (n : Int) with | (lo, hi) => pure (lo, (-1 : Int), Builtin.Slice.slicePlaces lo hi (-1))) _ _ s
  rw [adjust_back n]
  show wpAny _ _ (pure ((n : Int) - 1, (-1 : Int), Builtin.Slice.slicePlaces ((n : Int) - 1) (-1) (-1))) _ _ s
  rw [places_back]
  exact wpAny_pure h
theorem getItem_tuple_back {t sl : Addr} {items : Array Value} {vl vu vs : Value} {Q : Value → Shared → Prop} (ht : IsTup s.heap t items) (hs : s.heap.IsSliceOf sl vl vu vs) (pl : IsPart vl none) (pu : IsPart vu none) (ps : IsPart vs (some (-1)))
    (h : Q (.ref s.heap.objs.size) { s with heap := s.heap.push { cls := .type "tuple", data := .seq items.toList.reverse.toArray } }) (hz : items.size ≤ sizeLine) : wpAny (model prog w) A (getItem (.ref t) (.ref sl)) Q E s := by
  have fits : sizeOk (.seq items.toList.reverse.toArray) := by
    show items.toList.reverse.toArray.size ≤ sizeLine
    simpa using hz
  obtain ⟨os, g, hc, hd⟩ := id hs
  have hT : s.TypeIs (.ref sl) "slice" := ⟨os, g, hc⟩
  unfold getItem
  try with_reducible refine wpAny_holding ?_
  first | refine wpAny_bind (wpAny_pure ?_) | skip
  refine wpAny_bind (wpAny_sequenceKey ht.typeIs (by decide) ?_)
  refine wpAny_bind (wpAny_callSpecial?_slot (name := Str.ofString "__getitem__") ht.typeIs PyProof.Rows.slot_tuple_getitem
    (wpAny_call_entry PyProof.Rows.slot_tuple_getitem ht.typeIs entry_tuple_getitem ?_ (args_tuple_getitem _ _)))
  show wpAny _ _ (Builtin.Tuple.tupleItemsOf (.ref t) >>= _) _ _ s
  refine wpAny_bind (tupleItemsOf_ ht ?_)
  refine wpAny_bind (wpAny_typeOf hT ?_)
  rw [if_pos (by decide)]
  refine wpAny_bind (applied_back hs pl pu ps ?_)
  have no : ¬ ((((items.size : Int) - 1) == 0 && ((-1 : Int) == 1) && (items.size == items.size)) = true) := by simp
  show wpAny _ _ (if (((items.size : Int) - 1) == 0 && ((-1 : Int) == 1) && (items.size == items.size)) = true then _ else _) _ _ s
  rw [if_neg no, pick_back]
  first
    | exact wpAny_bind (m := Builtin.Tuple.tupleExact _) (wpAny_newObj_type (wpAny_pure ⟨_, rfl, wpAny_pure h⟩) fits)
    | exact wpAny_bind (m := Builtin.Tuple.tupleExact _) (wpAny_newObj_type (wpAny_bind (wpAny_pure (wpAny_pure ⟨_, rfl, wpAny_pure h⟩))) fits)
    | exact wpAny_bind (wpAny_bind (m := Builtin.Tuple.tupleExact _) (wpAny_newObj_type (wpAny_pure (wpAny_pure ⟨_, rfl, wpAny_pure h⟩)) fits))
    | exact wpAny_bind (wpAny_bind (m := Builtin.Tuple.tupleExact _) (wpAny_newObj_type (wpAny_pure ⟨_, rfl, wpAny_pure h⟩) fits))
end
def tBack (K : Fg) (te : TE) : TE := fun σ H Q => te σ H fun x H1 => ∃ a xs, x = .ref a ∧ ((SqL K H1 a xs ∧ ∀ p, H1 p = none → Q (.ref p) (upd H1 p (.lst xs.reverse))) ∨ (SqT K H1 a xs ∧ ∀ p, H1 p = none → Q (.ref p) (upd H1 p (.tup xs.reverse))))
theorem pe_back {X : Cx} {e : Expr} {te : TE} {k : Nat} {p1 p2 p3 pos : Pos} (he : PE X e te) : PE X (.Subscript e (.Slice none none (some (.UnaryOp .USub (.Constant (.int 1) k p1) p2)) p3) pos) (tBack X.K te) := by
  refine ⟨fun pins s σ H Q I h => ?_⟩
  refine Subscript_ (thn (he.run pins s σ H _ I h) fun v s1 ⟨x, H1, I1, r1, q1⟩ => ?_)
  obtain ⟨a, xs, ex, q⟩ := q1
  subst ex
  cases r1
  have hst : L2.PO X (some (.UnaryOp .USub (.Constant (.int 1) k p1) p2)) (tPart (tUn (rU fun i => .int (-i)) (tC (.int 1)))) := po_some (pe_un un_neg pe_int)
  refine wpAny_Slice (thn (po_none.run pins s1 σ H1 (fun o H2 => o = none ∧ H2 = H1) I1 ⟨rfl, rfl⟩) fun vl s2 ⟨l, H2, I2, pl, el, e2⟩ => ?_)
  subst el e2
  refine thn (po_none.run pins s2 σ H2 (fun o H3 => o = none ∧ H3 = H2) I2 ⟨rfl, rfl⟩) fun vu s3 ⟨u, H3, I3, pu, eu, e3⟩ => ?_
  subst eu e3
  refine thn (hst.run pins s3 σ H3 (fun o H4 => o = some (-1) ∧ H4 = H3) I3 ⟨1, rfl, -1, rfl, rfl, rfl⟩) fun vs s4 ⟨o, H4, I4, ps, eo, e4⟩ => ?_
  subst eo e4
  have I5 : Inv X pins σ H4 { s4 with heap := s4.heap.push { cls := .type "slice", data := .fields #[vl, vu, vs] } } := I4.kept (t' := s4.toks) fun b ob q => Heap.get?_push_of_some _ q
  show wpAny (model X.prog X.w) X.A (subscriptTail e (.Slice none none (some (.UnaryOp .USub (.Constant (.int 1) k p1) p2)) p3) (.ref a) (.ref s4.heap.objs.size)) (EP X pins σ Q) X.xe { s4 with heap := s4.heap.push { cls := .type "slice", data := .fields #[vl, vu, vs] } }
  rcases q with ⟨hx, q⟩ | ⟨hx, q⟩
  · obtain ⟨its, r, ht, hz⟩ := I5.list hx
    have hlen := r.length
    refine tail_any (ops := [.ref a, .ref s4.heap.objs.size]) ht.isList.typeIs (PySem.slot_list_getitem.lookup) ?_ (by with_unfolding_all rfl)
    refine wpAny_getItem_list_slice ht.isList (Heap.IsSliceOf.new _ vl vu vs) pl pu ps (by decide) ?_ (by rw [List.size_toArray]; omega)
    rw [PySem.W.krv_pick]
    refine ⟨.ref _, _, I5.laid (t' := s4.toks) (o := .lst xs.reverse) (fun b ob q => Heap.get?_push_of_some _ q) (Nat.le_refl _) ?_, rfl, q _ (I5.hok.fresh (Nat.le_refl _))⟩
    exact ⟨by rw [List.length_reverse]; exact hz, _, 0, r.reverse, Heap.get?_push_size _ rfl⟩
  · obtain ⟨its, r, ht, hz⟩ := I5.tuple hx
    have hlen := r.length
    refine tail_any (ops := [.ref a, .ref s4.heap.objs.size]) ht.typeIs (PyProof.Rows.slot_tuple_getitem.lookup) ?_ (by with_unfolding_all rfl)
    refine getItem_tuple_back ht (Heap.IsSliceOf.new _ vl vu vs) pl pu ps ?_ (by rw [List.size_toArray]; omega)
    refine ⟨.ref _, _, I5.laid (t' := s4.toks) (o := .tup xs.reverse) (fun b ob q => Heap.get?_push_of_some _ q) (Nat.le_refl _) ?_, rfl, q _ (I5.hok.fresh (Nat.le_refl _))⟩
    exact ⟨by rw [List.length_reverse]; exact hz, _, r.reverse, _, Heap.get?_push_size _ rfl, rfl, _, rfl⟩
def qBack (Q : QE) : QE := fun p M1 => match p with
  | .tup xs => Q (.tup xs.reverse) M1
  | .ref a => match listAt M1 a with
    | some xs => ∀ D, ¬ Wr M1 D → Q (.ref D) (pupd M1 D (.lst xs.reverse))
    | none => False
  | _ => False
def wBack (e : WE) : WE := fun EP s M Q => e EP s M (qBack Q)
theorem Reps.reverse {K : Fg} {H : Hp} : ∀ {ps : List PV} {vs : List V}, Reps K H ps vs → Reps K H ps.reverse vs.reverse
  | [], vs, h => by rw [Reps] at h; subst h; exact .nil
  | p :: ps, vs, h => by
    rw [Reps] at h
    obtain ⟨v, r, rfl, h1, h2⟩ := h
    rw [List.reverse_cons, List.reverse_cons]
    refine Reps.append (Reps.reverse h2) ?_
    rw [Reps]
    exact ⟨v, [], rfl, h1, .nil⟩
theorem ee_back {X : Cx} {W : WX} {e : Expr} {we : WE} {k : Nat} {p1 p2 p3 pos : Pos} (he : EE X W e we) : EE X W (.Subscript e (.Slice none none (some (.UnaryOp .USub (.Constant (.int 1) k p1) p2)) p3) pos) (wBack we) := by
  refine ⟨fun EP s M Q Q' k h => he.mono _ _ _ _ _ (fun p M1 z => ?_) h, pe_weak (pe_back he.run) ?_⟩
  · unfold qBack at z ⊢
    split at z
    · exact k _ _ z
    · split at z
      · exact fun D n => k _ _ (z D n)
      · exact z
    · exact z
  · rintro σ H Q ⟨EP, s, M, c, h⟩
    refine c.use he.mono h fun p M1 v H1 h1 S1 c1 r1 => ?_
    unfold qBack at h1
    split at h1
    · rw [Rep] at r1
      obtain ⟨a, vs, rfl, hs, rr⟩ := r1
      exact ⟨a, vs, rfl, .inr ⟨hs, dn_newtup c1.rh rr.reverse (Dn.on S1 h1)⟩⟩
    · rw [Rep] at r1; subst r1
      split at h1
      · rename_i xs e1
        obtain ⟨vs, rr, hl⟩ := listAt_rd c1.rh e1
        refine ⟨_, vs, rfl, .inl ⟨hl, fun p hp => ?_⟩⟩
        have t : TKeep H1 (upd H1 p (.lst vs.reverse)) := tk_upd (notup_none hp)
        exact h1 p (c1.rh.free hp) _ _ (S1.trans (Step.new hp)) (c1.rh.upd_both (notup_none hp) ⟨_, upd_same, rr.reverse.tk t⟩) (by rw [Rep])
      · exact h1.elim
    · exact h1.elim
end PL
set_option autoImplicit false
namespace PL
open PySem PySem.Spec L2
open PyProof.Rows hiding St

/-! ## a helper that draws, and may leave more lists -/
def pFg {ι : Type} (n k : Nat) (Pre : ι → List PV → PH → Addr → Prop) (R : ι → PH → PV → PH → Prop) : PSp := fun ps M Q _ => ps.length = n ∧ ∃ (a C : Addr) (c : Nat) (rest : List PV) (i : ι), ps = .ref a :: rest ∧ Fm M M a C c ∧ c + k ≤ 1000000000000 ∧ Pre i rest M a ∧
  ∀ (r : PV) (M' : PH), Fm M M' a C (c + k) → R i M r M' → Q r M'
theorem pFg_mono {ι : Type} {n k : Nat} {Pre R} : MonoP (pFg (ι := ι) n k Pre R) := fun ps M Q Q' E E' h _ ⟨l, a, C, c, rest, i, h1, h2, h3, h4, h5⟩ => ⟨l, a, C, c, rest, i, h1, h2, h3, h4, fun r M' a1 a2 => h _ _ (h5 r M' a1 a2)⟩
theorem pFg_len {ι : Type} {n k : Nat} {Pre R} : LenP (pFg (ι := ι) n k Pre R) n := fun _ _ _ _ h => h.1
theorem pFg_use {ι : Type} {n k : Nat} {Pre R} {M0 M : PH} {a C : Addr} {c : Nat} {rest : List PV} {Q : QE} {E} (i : ι) (F : Fm M0 M a C c) (hl : (PV.ref a :: rest).length = n) (hc : c + k ≤ 1000000000000) (hp : Pre i rest M a) (h : ∀ (r : PV) (M' : PH), R i M r M' → Fm M0 M' a C (c + k) → Fm M M' a C (c + k) → Q r M') : pFg n k Pre R (.ref a :: rest) M Q E :=
  ⟨hl, a, C, c, rest, i, rfl, F.self, hc, hp, fun r M' G hr => h r M' hr (F.trans G) G⟩
theorem rt_here {Q : QE} {r : PV} {M : PH} (h : Q r M) : (DDef Q).rt r M := ⟨M, PLe.refl _, h⟩
/-! ## steps -/
section
variable {EP : PX} {D : PEnds} {s : PSt} {M : PH} {Q : QE} {QB : Bool → PH → Prop} {QA : List PV → PH → Prop} {QI : PSrc → PH → Prop}
theorem rLtX_int {i j : Int} (h : Q (.bl (decide (i < j))) M) : rLtX (.int i) (.int j) M Q := h
theorem rLtX_str {i j : Str} (h : Q (.bl (decide (i.cps.toList < j.cps.toList))) M) : rLtX (.str i) (.str j) M Q := h
theorem iZp_i {a : WA} (h : a EP s M (qZip QI)) : iZp a EP s M QI := h
theorem qZip_tup {xs ys : List PV} (h : QI ⟨List.zipWith pairP xs ys, fun _ => True⟩ M) : qZip QI [.tup xs, .tup ys] M := h
theorem qZip_lst {a b : Addr} {xs ys : List PV} (e1 : M a = some (.lst xs)) (e2 : M b = some (.lst ys)) (h : QI ⟨List.zipWith pairP xs ys, fun M => listAt M a = some xs ∧ listAt M b = some ys⟩ M) : qZip QI [.ref a, .ref b] M := by
  unfold qZip; dsimp only; rw [listAt_lst e1, listAt_lst e2]; exact h
def qKIx (ys : List Str) (Q : QE) : QE := fun p M1 => match p with
  | .str z => ∃ j, ys[j]? = some z ∧ (∀ m, m < j → ys[m]? ≠ some z) ∧ Q (.int (j : Nat)) M1
  | _ => False
theorem wKIx_i {ys : List Str} {e : WE} (h : e EP s M (qKIx ys Q)) : wKIx ys e EP s M Q := h
theorem qKIx_i {ys : List Str} {z : Str} (j : Nat) (e : ys[j]? = some z) (n : ∀ m, m < j → ys[m]? ≠ some z) (h : Q (.int (j : Nat)) M) : qKIx ys Q (.str z) M := ⟨j, e, n, h⟩
theorem wBack_i {e : WE} (h : e EP s M (qBack Q)) : wBack e EP s M Q := h
theorem qBack_tup {xs : List PV} (h : Q (.tup xs.reverse) M) : qBack Q (.tup xs) M := h
theorem qBack_lst {a : Addr} {xs : List PV} (e : M a = some (.lst xs)) (h : ∀ D, ¬ Wr M D → Q (.ref D) (pupd M D (.lst xs.reverse))) : qBack Q (.ref a) M := by
  unfold qBack; dsimp only; rw [listAt_lst e]; exact h
theorem wAsg_i {e : WE} {g : WG} (h : e EP s M fun p M1 => g p s M1 D.nx) : wAsg e g EP D s M := h
theorem cList_lst {a : Addr} {xs : List PV} (e : M a = some (.lst xs)) (h : xs.length ≤ sizeLine ∧ QA xs M) : cList [.ref a] M QA := by
  unfold cList seqAt; dsimp only; rw [listAt_lst e]; exact h
theorem cList_tup {xs : List PV} (h : xs.length ≤ sizeLine ∧ QA xs M) : cList [.tup xs] M QA := h
theorem rIsX_bl {neg a b : Bool} (h : Q (.bl (if neg then !decide (a = b) else decide (a = b))) M) : rIsX neg (.bl a) (.bl b) M Q := h
theorem rIsX_nn {neg : Bool} (h : Q (.bl (!neg)) M) : rIsX neg .non .non M Q := h
theorem rIsX_tup {neg : Bool} {xs : List PV} (h : Q (.bl neg) M) : rIsX neg (.tup xs) .non M Q := h
theorem rIsX_str {neg : Bool} {x : Str} (h : Q (.bl neg) M) : rIsX neg (.str x) .non M Q := h
theorem rIsX_bn {neg b : Bool} (h : Q (.bl neg) M) : rIsX neg (.bl b) .non M Q := h
theorem cIsi_i {p : PV} {T t : String} (b : Bool) (e1 : tyN M p = some t) (e2 : kitB t T = some b) (h : Q (.bl b) M) : cIsi [p, .ty T] M Q := ⟨t, b, e1, e2, h⟩
theorem any_str {z : Str} : ∀ ys : List Str, ((ys.map PV.str).any fun y => eqP y (.str z)) = decide (z ∈ ys)
  | [] => by simp
  | y :: ys => by
    rw [List.map_cons, List.any_cons, any_str ys, eqP_str]
    by_cases h : y = z
    · subst h; simp
    · have : ¬ z = y := fun e => h e.symm
      simp [h, this]
/-- a text in a tuple of texts -/
theorem rIn_strs {neg : Bool} {z : Str} (ys : List Str) (h : pl (.str z) = true) (g : ∀ y ∈ ys, pl (.str y) = true) (k : Q (.bl (if neg then !decide (z ∈ ys) else decide (z ∈ ys))) M) : rInG neg (.str z) (.tup (ys.map PV.str)) M Q := by
  refine rIn_tup h (pls_all fun x hx => by obtain ⟨y, hy, rfl⟩ := List.mem_map.mp hx; exact g y hy) (by rw [dpt]; omega; all_goals (intros; contradiction)) (Nat.le_trans (dpts_all (n := 0) fun x hx => by obtain ⟨y, hy, rfl⟩ := List.mem_map.mp hx; rw [dpt]; exact Nat.le_refl _; all_goals (intros; contradiction)) (by omega)) ?_
  rw [any_str]; exact k
end
theorem strOk_of {x : Str} (h : ∀ c ∈ x.cps.toList, c < 1114112) : PyData.strOk x = true := by
  unfold PyData.strOk
  rw [Array.all_eq_true']
  intro c hc
  have := h c (Array.mem_def.mp hc)
  simp; omega
theorem pl_str {x : Str} (h : PyData.strOk x = true) : pl (.str x) = true := by rw [pl]; exact h; all_goals (intros; contradiction)
theorem tl_str {x : Str} (h : PyData.strOk x = true) : tl (.str x) = true := by rw [tl]; exact h; all_goals (intros; contradiction)
theorem str_inj : ∀ a b : Str, PV.str a = PV.str b → a = b := fun a b h => by cases h; rfl
theorem atI0 {α : Type} {x : α} {r : List α} : atI (x :: r) 0 = some x := atI_nat (j := 0) rfl
theorem atI1 {α : Type} {x y : α} {r : List α} : atI (x :: y :: r) 1 = some y := atI_nat (j := 1) rfl
theorem atI2 {α : Type} {x y z : α} {r : List α} : atI (x :: y :: z :: r) 2 = some z := atI_nat (j := 2) rfl
theorem atI3 {α : Type} {x y z u : α} {r : List α} : atI (x :: y :: z :: u :: r) 3 = some u := atI_nat (j := 3) rfl
theorem atI4 {α : Type} {x y z u v : α} {r : List α} : atI (x :: y :: z :: u :: v :: r) 4 = some v := atI_nat (j := 4) rfl
/-! ## kinds of data that can be told apart by < -/
inductive Kd where
  | i | s | t (k : Kd)
mutual
def HasK : Kd → PV → Prop
  | .i, .int _ => True
  | .s, .str _ => True
  | .t k, .tup xs => HasKs k xs
  | _, _ => False
def HasKs : Kd → List PV → Prop
  | _, [] => True
  | k, x :: xs => HasK k x ∧ HasKs k xs
end
mutual
theorem hasK_cmp : ∀ (k : Kd) (p q : PV), HasK k p → HasK k q → cmpD (dat p) (dat q) = true
  | .i, .int _, .int _, _, _ => by rw [dat, dat, cmpD]
  | .s, .str _, .str _, _, _ => by rw [dat, dat, cmpD]
  | .t k, .tup xs, .tup ys, h, g => by rw [dat, dat, cmpD]; exact hasKs_cmp k xs ys h g
theorem hasKs_cmp : ∀ (k : Kd) (xs ys : List PV), HasKs k xs → HasKs k ys → cmpDs (dats xs) (dats ys) = true
  | _, [], _, _, _ => by rw [dats, cmpDs]; intros; contradiction
  | _, x :: xs, [], _, _ => by rw [dats, dats, cmpDs]; intros; contradiction
  | k, x :: xs, y :: ys, h, g => by
    rw [dats, dats, cmpDs]
    split
    · exact hasKs_cmp k xs ys h.2 g.2
    · exact hasK_cmp k x y h.1 g.1
end
theorem hasKs_all {k : Kd} : ∀ {xs : List PV}, (∀ x ∈ xs, HasK k x) → HasKs k xs
  | [], _ => trivial
  | x :: r, h => ⟨h x List.mem_cons_self, hasKs_all fun y hy => h y (List.mem_cons_of_mem _ hy)⟩
end PL
set_option autoImplicit false
namespace PL
open PySem PySem.Spec L2
open PyProof.Rows hiding St

/-! ## a, b = x, y -/
def qPar (i j : Nat) (D : PEnds) (s : PSt) : List PV → PH → Prop := fun ps M1 => match ps with
  | [p, q] => D.nx ((s.set i (some p)).set j (some q)) M1
  | _ => False
def wPar (i j : Nat) (a : WA) : WS := fun EP D s M => a EP s M (qPar i j D s)
theorem wPar_i {EP : PX} {D : PEnds} {s : PSt} {M : PH} {i j : Nat} {a : WA} (h : a EP s M (qPar i j D s)) : wPar i j a EP D s M := h
theorem qPar_i {D : PEnds} {s : PSt} {M : PH} {i j : Nat} {p q : PV} (h : D.nx ((s.set i (some p)).set j (some q)) M) : qPar i j D s [p, q] M := h
theorem es_par {X : Cx} {W : WX} {i j : Nat} {x y : Str} {a b : Expr} {wa : WA} {px py pt pos : Pos} {kt k2 pt2} (hc : X.calm = true) (hN : X.N.Nodup) (ha : EA X W [a, b] wa) (hi : X.N[i]? = some x := by rfl) (hj : X.N[j]? = some y := by rfl) (hij : i ≠ j := by decide)
    (hx : X.env.scope.names.lookup x = some .local := by rfl) (hy : X.env.scope.names.lookup y = some .local := by rfl)
    (hw : swappedStores [.Tuple [.Name x px, .Name y py] kt pt] (.Tuple [a, b] k2 pt2) X.env = pure (some [x, y]) := by rfl)
    (hs : swapsWithSole [.Tuple [.Name x px, .Name y py] kt pt] (.Tuple [a, b] k2 pt2) pos.line X.env = pure false := by rfl) :
    ES X W (.Assign [.Tuple [.Name x px, .Name y py] kt pt] (.Tuple [a, b] k2 pt2) pos) (wPar i j wa) := by
  refine ⟨fun EP D D' s M k h => ha.mono _ _ _ _ _ (fun ps M1 z => ?_) h, ps_weak (ps_par hc hN hi hj hij hx hy ha.run hw hs) ?_⟩
  · unfold qPar at z ⊢
    split at z
    · exact k.nx _ _ z
    · exact z
  · rintro D σ H ⟨EP, s, M, c, h⟩
    refine c.useA ha.mono h fun ps M1 vs H1 h1 S1 c1 r1 => ?_
    unfold qPar at h1
    split at h1
    · obtain ⟨u, v, rfl, ru, rv⟩ := reps2 r1
      exact ⟨u, v, rfl, h1 _ H1 S1 c1.rh ((c1.rs.set ru _).set rv _)⟩
    · exact h1.elim
end PL
set_option autoImplicit false
namespace PL
open PySem PySem.Spec L2
open PyProof.Rows hiding St

/-! ## the order of keys that are plain data, told by rows of signs -/
section
open PySem.W
abbrev TK (p : PV) : List (Int ⊕ List Nat) := keyToks (dat p)
abbrev TKs (ps : List PV) : List (Int ⊕ List Nat) := keyToksAll (dats ps)
abbrev lx (a b : List (Int ⊕ List Nat)) : Bool := PyProof.Rows.lexLt itemOrd a b
theorem lx_cons (x : Int ⊕ List Nat) (a b : List (Int ⊕ List Nat)) : lx (x :: a) (x :: b) = lx a b := lex_self (O := itemOrd) x a b
mutual
theorem tk_cmp : ∀ (p q : PV), pl p = true → pl q = true → cmpD (dat p) (dat q) = true → (p ≠ q → ∀ l m, lx (TK p ++ l) (TK q ++ m) = lx (TK p) (TK q)) ∧ ltD (dat p) (dat q) = lx (TK p) (TK q)
  | .int a, q, hp, hq, hc => by
    cases q with
    | int b =>
      refine ⟨fun ne l m => ?_, ?_⟩
      · have : a ≠ b := fun e => ne (by rw [e])
        simp only [TK, dat, keyToks, List.cons_append, List.nil_append]
        exact lex_atom (fun e => this (Sum.inl.inj e)) l m
      · have := dataLt_int a b
        simp only [dat, ltD]
        exact this.symm
    | _ => (try simp only [dat, cmpD] at hc) <;> exact absurd hc (by simp)
  | .str a, q, hp, hq, hc => by
    cases q with
    | str b =>
      refine ⟨fun ne l m => ?_, ?_⟩
      · have : a ≠ b := fun e => ne (by rw [e])
        simp only [TK, dat, keyToks, List.cons_append, List.nil_append]
        exact lex_atom (fun e => this (str_ext (Sum.inr.inj e))) l m
      · have := dataLt_str a b
        simp only [dat, ltD]
        exact this.symm
    | _ => (try simp only [dat, cmpD] at hc) <;> exact absurd hc (by simp)
  | .tup ps, q, hp, hq, hc => by
    cases q with
    | tup qs =>
      rw [pl] at hp hq
      rw [dat, dat, cmpD] at hc
      obtain ⟨h1, h2⟩ := tks_cmp ps qs hp hq hc
      refine ⟨fun ne l m => ?_, ?_⟩
      · have := h1 (fun e => ne (by rw [e])) l m
        simp only [TK, dat, keyToks]
        exact this
      · simp only [TK, dat, ltD, keyToks]
        exact h2
    | _ => (try simp only [dat, cmpD] at hc) <;> exact absurd hc (by simp)
  | .non, q, hp, hq, hc => by cases q <;> (try simp only [dat, cmpD] at hc) <;> exact absurd hc (by simp)
  | .bl _, q, hp, hq, hc => by rw [pl] at hp; cases hp; all_goals (intros; contradiction)
  | .ref _, q, hp, hq, hc => by rw [pl] at hp; cases hp; all_goals (intros; contradiction)
  | .ty _, q, hp, hq, hc => by rw [pl] at hp; cases hp; all_goals (intros; contradiction)
  | .bx _ _, q, hp, hq, hc => by rw [pl] at hp; cases hp; all_goals (intros; contradiction)
theorem tks_cmp : ∀ (ps qs : List PV), pls ps = true → pls qs = true → cmpDs (dats ps) (dats qs) = true → (ps ≠ qs → ∀ l m, lx (TKs ps ++ l) (TKs qs ++ m) = lx (TKs ps) (TKs qs)) ∧ ltDs (dats ps) (dats qs) = lx (TKs ps) (TKs qs)
  | [], [], _, _, _ => ⟨fun ne => absurd rfl ne, by simp only [dats, ltDs, TKs]; exact (lex_irrefl (O := itemOrd) (keyToksAll [])).symm⟩
  | [], q :: qs, _, _, _ => by
    refine ⟨fun _ l m => ?_, ?_⟩
    · simp only [TKs, dats, keyToksAll, List.cons_append, List.nil_append]
      exact (lex_atom (by simp) _ _).trans (lex_atom (by simp) _ _).symm
    · simp only [TKs, dats, ltDs, keyToksAll]
      rw [lx, lex_diff (O := itemOrd) (by simp)]
      simp [itemLt]
  | p :: ps, [], _, _, _ => by
    refine ⟨fun _ l m => ?_, ?_⟩
    · simp only [TKs, dats, keyToksAll, List.cons_append, List.nil_append]
      exact (lex_atom (by simp) _ _).trans (lex_atom (by simp) _ _).symm
    · simp only [TKs, dats, ltDs, keyToksAll]
      rw [lx, lex_diff (O := itemOrd) (by simp)]
      simp [itemLt]
  | p :: ps, q :: qs, hp, hq, hc => by
    rw [pls, Bool.and_eq_true] at hp hq
    rw [dats, dats, cmpDs, eqv_eqP hp.1 hq.1] at hc
    have e1 : TKs (p :: ps) = Sum.inl 1 :: (TK p ++ TKs ps) := by simp only [TKs, TK, dats, keyToksAll]
    have e2 : TKs (q :: qs) = Sum.inl 1 :: (TK q ++ TKs qs) := by simp only [TKs, TK, dats, keyToksAll]
    rw [e1, e2]
    have e3 : ltDs (dats (p :: ps)) (dats (q :: qs)) = if eqP p q = true then ltDs (dats ps) (dats qs) else ltD (dat p) (dat q) := by rw [dats, dats, ltDs, eqv_eqP hp.1 hq.1]
    rw [e3, lx_cons]
    by_cases h : eqP p q = true
    · rw [if_pos h] at hc ⊢
      have epq := eqP_iff.mp h
      subst epq
      obtain ⟨h1, h2⟩ := tks_cmp ps qs hp.2 hq.2 hc
      refine ⟨fun ne l m => ?_, by rw [h2]; exact (lex_pre _ _ _).symm⟩
      rw [List.cons_append, List.cons_append, lx_cons, List.append_assoc, List.append_assoc]
      exact (lex_pre _ _ _).trans ((h1 (fun e => ne (by rw [e])) l m).trans (lex_pre _ _ _).symm)
    · rw [if_neg h] at hc ⊢
      have ne : p ≠ q := fun e => h (eqP_iff.mpr e)
      obtain ⟨h1, h2⟩ := tk_cmp p q hp.1 hq.1 hc
      refine ⟨fun _ l m => ?_, by rw [h2]; exact (h1 ne _ _).symm⟩
      rw [List.cons_append, List.cons_append, lx_cons, List.append_assoc, List.append_assoc]
      exact (h1 ne _ _).trans (h1 ne _ _).symm
end
/-! ### values that read as such keys can be sorted -/
variable {prog : Program} {w : World} {A : Around} {s : Shared}
theorem kind_of {h : Heap} {ds : List PyData} (hc : ∀ d ∈ ds, d.canLay0 = true) {v : Value} {d : PyData} {as : List Addr} (hd : d ∈ ds) (r : Reads h v d as) : (dataKind h ds).keyOf v = some (keyToks d) := by
  have q : ∃ d, d ∈ ds ∧ ∃ as, Reads h v d as := ⟨d, hd, as, r⟩
  have e : (dataKind h ds).keyOf v = some (keyToks q.choose) := by
    show (open Classical in if q : ∃ d, d ∈ ds ∧ ∃ as, Reads h v d as then some (keyToks q.choose) else none) = _
    rw [dif_pos q]
  obtain ⟨h1, as', h2⟩ := q.choose_spec
  rw [e, SeqAt.Reads.unique _ _ _ _ _ (hc _ h1) h2 r]
theorem lex_walk {b : Bool} {Q : Bool → Shared → Prop} : ∀ (xs ys : List PyData) (i : Nat) (vs ws : List Value) (as bs : List Addr), ReadsAll s.heap vs xs as → ReadsAll s.heap ws ys bs → PyData.canLayAll0 xs = true → PyData.canLayAll0 ys = true → cmpDs xs ys = true →
    A.units + min (PyData.depthAll xs) (PyData.depthAll ys) < cLine → (b = true → i = 0 → ∀ x y r t, xs = x :: r → ys = y :: t → ∃ n m, x = .int n ∧ y = .int m) → Q (ltDs xs ys) s → KatLex prog w A b (decide (xs.length < ys.length)) Q (vs.zip ws) i s
  | [], ys, i, vs, ws, _, _, ra, rb, _, _, _, _, _, hq => by
    cases ra
    rw [List.zip_nil_left]
    refine kat_nil ?_
    cases ys <;> (rw [ltDs] at hq <;> first | exact hq | (intros; contradiction))
  | x :: xs, [], i, _, _, _, _, ra, rb, _, _, _, _, _, hq => by
    cases rb
    rw [List.zip_nil_right]
    refine kat_nil ?_
    rw [ltDs] at hq
    · exact hq
    · intros; contradiction
  | x :: xs, y :: ys, i, _, _, _, _, ra, rb, ca, cb, hc, hu, hb, hq => by
    have ca' : x.canLay0 = true ∧ PyData.canLayAll0 xs = true := by rw [PyData.canLayAll0, Bool.and_eq_true] at ca; exact ca
    have cb' : y.canLay0 = true ∧ PyData.canLayAll0 ys = true := by rw [PyData.canLayAll0, Bool.and_eq_true] at cb; exact cb
    rw [PyData.depthAll, PyData.depthAll] at hu
    cases ra with
    | cons r rs =>
      cases rb with
      | cons r' rs' =>
        rw [List.zip_cons_cons]
        refine kat_cons (SeqAt.eqAt_reads x y A s _ _ _ _ r r' ca'.1 cb'.1 (by omega) prog w _ _ ?_)
        have el : decide ((x :: xs).length < (y :: ys).length) = decide (xs.length < ys.length) := by simp
        rw [el]
        rw [cmpDs] at hc
        rw [ltDs] at hq
        cases hx : PyData.eqv x y with
        | true =>
          rw [hx, if_pos rfl] at hc hq
          exact kat_yes (lex_walk xs ys (i + 1) _ _ _ _ rs rs' ca'.2 cb'.2 hc (by omega) (fun _ hi => absurd hi (Nat.succ_ne_zero i)) hq)
        | false =>
          rw [hx, if_neg Bool.false_ne_true] at hc hq
          refine kat_no ?_
          by_cases hbi : (b && i == 0) = true
          · rw [hbi]
            rw [Bool.and_eq_true] at hbi
            obtain ⟨n, m, rfl, rfl⟩ := hb hbi.1 (by simpa using hbi.2) x y xs ys rfl rfl
            refine oneLt_alike (fun _ t e => by cases e) r r' rfl (fun e => by cases e) (by omega) ?_
            rw [ltD] at hq
            rw [dataLt_int]; exact hq
          · have hbf : (b && i == 0) = false := by simpa using hbi
            rw [hbf]
            exact kat_one _ _ (lt_rc _ x y A s _ _ _ _ (Nat.le_refl _) r r' ca'.1 cb'.1 hc (by omega) prog w _ _ (show W.BoolBack Q (.bool (ltD x y)) s from hq))
theorem sorts_own {vs : List Value} {ds : List PyData} (e : EachIs (fun v d => ∃ as, Reads s.heap v d as) vs ds) (hc : ∀ d ∈ ds, d.canLay0 = true) (ht : ∀ d ∈ ds, ∃ n r, d = .tuple (.int n :: r)) (hcmp : ∀ d ∈ ds, ∀ d' ∈ ds, cmpD d d' = true)
    (hlt : ∀ d ∈ ds, ∀ d' ∈ ds, ltD d d' = lx (keyToks d) (keyToks d')) (hu : ∀ d ∈ ds, A.units + d.depth < cLine) : SortsAt prog w A s (dataKind s.heap ds) vs := by
  refine ⟨fun v hv => ?_, ?_⟩
  · obtain ⟨d, hd, as, r⟩ := e.left v hv
    exact ⟨_, kind_of hc hd r⟩
  · refine ⟨tuples' (Value.type "int" != Value.type "tuple"), ?_, fun h2 E Q hq => ?_⟩
    · intro E x y a b Q ha hb hq
      obtain ⟨d, as, hd, ra, rfl⟩ := dataKind_inv ha
      obtain ⟨d', as', hd', rb, rfl⟩ := dataKind_inv hb
      have h1 := hcmp d hd d' hd'
      have h2 := hlt d hd d' hd'
      have h3 := hu d hd
      have c1 := hc d hd
      have c2 := hc d' hd'
      obtain ⟨n, r, rfl⟩ := ht d hd
      obtain ⟨n', r', rfl⟩ := ht d' hd'
      have hq' : Q (lx (keyToks (.tuple (.int n :: r))) (keyToks (.tuple (.int n' :: r')))) s := hq
      rw [← h2, ltD] at hq'
      rw [cmpD] at h1
      rw [PyData.depth] at h3
      cases ra with
      | @tuple l o xs k _ _ g1 g2 g3 g4 =>
        cases rb with
        | @tuple l' o' xs' k' _ _ f1 f2 f3 f4 =>
          have n1 : xs.size = (PyData.int n :: r).length := by simpa using SeqAt.ReadsAll.length _ _ _ g4
          have n2 : xs'.size = (PyData.int n' :: r').length := by simpa using SeqAt.ReadsAll.length _ _ _ f4
          refine kat_lt g1 g3 f1 f3 ?_
          rw [n1, n2]
          exact lex_walk _ _ 0 _ _ _ _ g4 f4 c1 c2 h1 (by omega) (fun _ _ x y t u e1 e2 => by cases e1; cases e2; exact ⟨_, _, rfl, rfl⟩) hq'
    · obtain ⟨fs, t1, t2, t3⟩ := each_katTups e fun d hd => by obtain ⟨n, r, e⟩ := ht d hd; exact ⟨_, _, e⟩
      refine kat_kind (T := .type "int") t1 (by omega) (fun f hf => ?_) (beq_self_eq_true _) hq
      obtain ⟨x, r, as, m1, m2⟩ := t3 f hf
      obtain ⟨n, r', e'⟩ := ht _ m1
      cases e'
      exact looks_reads m2
end
end PL
set_option autoImplicit false
namespace PL
open PySem PySem.Spec L2
open PyProof.Rows hiding St

/-! ## sorted(xs, key=f), f a def of the program that changes nothing -/
section
variable {X : Cx} {pins : List (Addr × Obj)} {σ : St} {H : Hp} {s : Shared} {h' : Heap}
/-- records of ours have turned, one of them is looked at from now on -/
theorem inv_adopt {t' : Nat} {ch : List Addr} {T : Addr} {ob : HO} (I : Inv X pins σ H s) (k : ∀ b o, b ∉ ch → s.heap.get? b = some o → h'.get? b = some o) (hf : ∀ b ∈ ch, FpOk X pins H b) (hT : T ∈ ch)
    (new : ObjOk X.prog X.w (upd H T ob) h' T ob) : Inv X pins σ (upd H T ob) { s with heap := h', toks := t' } := by
  have hn : H T = none := (hf T hT).1
  have apart : ∀ b u, H b = some u → b ∉ ch := fun b u e z => by
    rw [(hf b z).1] at e; cases e
  refine I.step (g' := s.gens) (d' := s.drawn) (ch := ch) (fun b hb => ⟨(hf b hb).2.2.2.1, (hf b hb).2.1, (hf b hb).2.2.2.2.1, (hf b hb).2.2.2.2.2⟩) (fun b o _ _ hc e _ => k b o hc e) (fun b o _ _ hc e _ => ⟨o.slots, k b o hc e⟩)
    (fun b o hc e n => ?_) (fun b o hc e => ⟨o, k b o hc e⟩) (fun b xs e => ?_) (fun b o u e => ?_) (fun b ps e => ⟨#[], ?_⟩) (fun m hm => ?_) (fun b u e => ?_) I.bare
  · rw [upd_ne (fun z => hc (by rw [z]; exact hT))]; exact n
  · rw [upd_ne (ne_of_none e hn)]; exact e
  · rw [upd_ne (ne_of_none e hn)]; exact e
  · rw [upd_ne (ne_of_none e hn), e]; simp
  · obtain ⟨o, es, ep, ho, r⟩ := hm
    exact ⟨o, es, ep, k _ o (fun z => (hf _ z).2.1 rfl) ho, r⟩
  · by_cases hb : b = T
    · subst hb
      rw [upd_same] at e
      cases e
      exact new
    · rw [upd_ne hb] at e
      refine (I.hok b u e).stay (fun c v hc q => k c v ?_ q) (fun c q => by rw [upd_ne (ne_of_none q hn)]; exact q) fun c xs q => by rw [upd_ne (ne_of_none q hn)]; exact q
      rcases hc with z | z
      · rw [z]; exact apart b u e
      · exact apart c _ z
/-- what a key's call gives -/
def KeyGot (X : Cx) (pins : List (Addr × Obj)) (σ : St) (M : PH) (H : Hp) (h : Heap) (key : PV) (r : Value) (s' : Shared) : Prop :=
  ∃ H2 v', Inv X pins σ H2 s' ∧ Un (frs X.stack) [] H H2 h s'.heap ∧ RelV v' r ∧ Step M H M H2 ∧ RepH X.K H2 M ∧ Rep X.K H2 key v'
theorem key_call {k : Nat} {f : Addr} {fd : FuncData} {y : Str} {p : PSp} {M : PH} {x key : PV} {v : V} {u : Value} (F : FnG X.prog X.w X.K X.mg X.base k f fd [y] p) (hr : Room k X.A.in1.in1) (hgd : X.A.guards = some []) (hb : Binds X.K fd [y] [])
    (I : Inv X pins σ H s) (rh : RepH X.K H M) (rx : Rep X.K H x v) (ru : RelV v u) (hp : p [x] M (fun r M' => r = key ∧ M' = M) (fun _ _ _ => False)) :
    wpAny (model X.prog X.w) X.A.in1.in1 (call (.ref f) [u]) (KeyGot X pins σ M H s.heap key) (fun _ _ => False) s := by
  have r1 : Vals [v] [u] := .cons ru .nil
  have rp : Reps X.K H [x] [v] := by rw [Reps]; exact ⟨v, [], rfl, rx, .nil⟩
  have sp : spOf X.K [y].length p [v] H (fun v' H2 => Step M H M H2 ∧ RepH X.K H2 M ∧ Rep X.K H2 key v') (fun _ _ _ => False) :=
    ⟨[x], M, rfl, rp, rh, F.mono _ _ _ _ _ _ (fun r M' ⟨e1, e2⟩ v' H' S rh' r' => by subst e1; subst e2; exact ⟨S, rh', r'⟩) (fun _ _ _ z => z.elim) hp⟩
  refine wpAny_call (codeAny_mono (F.run X.A.in1.in1 X.stack s H ⟨[u], []⟩ [u] [v] _ _ hr hgd I.env0.in1.in1 (hb s [u] I.kIn rfl) r1 sp) fun res s' hq => ?_)
  match res, hq with
  | .error e, hq =>
    obtain ⟨a, B, H', cls, d, _, _, _, _, _, _, _, hE⟩ := hq
    exact hE.elim
  | .ok (.ret r), hq =>
    obtain ⟨v', H', os, bare, un, hok, rv, S, rh', r'⟩ := hq
    exact ⟨H', v', I.call' (ch := []) os un hok bare (fun b z => absurd z (by simp)), un, rv, S, rh', r'⟩
  | .ok .next, hq => exact hq.elim
  | .ok .brk, hq => exact hq.elim
  | .ok .cont, hq => exact hq.elim
/-- the values of keys, as they read -/
theorem each_reads {K : Fg} : ∀ {ks : List PV} {kvs : List V} {kus : List Value}, K = X.K → Inv X pins σ H s → purs ks = true → Reps K H ks kvs → Vals kvs kus → PySem.W.EachIs (fun v d => ∃ as, Reads s.heap v d as) kus (dats ks)
  | [], _, _, _, I, _, r, h => by
    rw [Reps] at r; subst r
    cases h
    rw [dats]; exact .nil
  | k :: ks, _, _, hK, I, hp, r, h => by
    rw [Reps] at r
    obtain ⟨v, t, rfl, h1, h2⟩ := r
    rw [purs, Bool.and_eq_true] at hp
    cases h with
    | cons a b =>
      rw [dats]
      refine .cons ?_ (each_reads hK I hp.2 h2 b)
      subst hK
      exact Dp.reads I _ _ _ (dp_of hp.1 h1) a
def sortK (xs ks : List PV) : List PV := ((xs.zip ks).mergeSort (PySem.W.dataLe false fun p : PV × PV => dat p.2)).map (·.1)
theorem each_out {K : Fg} {Hj : Hp} : ∀ {us : List Value} {bs : List ((PV × PV) × V)}, PySem.W.EachIs (fun u b => RelV b.2 u ∧ Rep K Hj b.1.1 b.2) us bs → Vals (bs.map (·.2)) us ∧ Reps K Hj (bs.map (·.1.1)) (bs.map (·.2))
  | _, _, .nil => ⟨.nil, by rw [List.map_nil, Reps]; rfl⟩
  | _, _, .cons h t => by
    obtain ⟨h1, h2⟩ := each_out t
    refine ⟨.cons h.1 h1, ?_⟩
    rw [List.map_cons, List.map_cons, Reps]
    exact ⟨_, _, rfl, h.2, h2⟩
theorem each_in {K : Fg} {Hj : Hp} : ∀ {xs ks : List PV} {vs : List V} {us : List Value}, Reps K Hj xs vs → Vals vs us → ks.length = xs.length → PySem.W.EachIs (fun u (b : (PV × PV) × V) => RelV b.2 u ∧ Rep K Hj b.1.1 b.2) us ((xs.zip ks).zip vs)
  | [], ks, vs, us, r, h, _ => by
    rw [Reps] at r; subst r
    cases h
    exact .nil
  | x :: xs, [], vs, us, _, _, e => by simp at e
  | x :: xs, k :: ks, vs, us, r, h, e => by
    rw [Reps] at r
    obtain ⟨v, t, rfl, h1, h2⟩ := r
    cases h with
    | cons a b => exact .cons ⟨a, h1⟩ (each_in h2 b (by simpa using e))
theorem zip_snd {α β γ : Type} : ∀ {xs : List α} {ks : List β} {vs : List γ}, ks.length = xs.length → vs.length = xs.length → ((xs.zip ks).zip vs).map (fun b => b.1.2) = ks ∧ ((xs.zip ks).zip vs).map (·.1) = xs.zip ks
  | [], [], [], _, _ => ⟨rfl, rfl⟩
  | x :: xs, k :: ks, v :: vs, h1, h2 => by
    obtain ⟨a, b⟩ := zip_snd (xs := xs) (ks := ks) (vs := vs) (by simpa using h1) (by simpa using h2)
    constructor
    · simp only [List.zip_cons_cons, List.map_cons, a]
    · simp only [List.zip_cons_cons, List.map_cons, b]
  | [], _ :: _, _, h, _ => by simp at h
  | [], [], _ :: _, _, h => by simp at h
  | _ :: _, [], _, h, _ => by simp at h
  | _ :: _, _ :: _, [], _, h => by simp at h
/-- the keys can be sorted -/
structure Keys (ks : List PV) : Prop where
  pl : ∀ k ∈ ks, PL.pl k = true
  tup : ∀ k ∈ ks, ∃ (n : Int) (r : List PV), k = .tup (.int n :: r)
  cmp : ∀ k ∈ ks, ∀ l ∈ ks, cmpD (dat k) (dat l) = true
  dep : ∀ k ∈ ks, dpt k ≤ 60
open PySem.W in
theorem key_rest {P : PySem.Fin → Shared → Prop} {E : Value → Shared → Prop} {k : Nat} {f : Addr} {fd : FuncData} {y : Str} {p : PSp} {M : PH} {xs ks : List PV} {vs : List V} {its : List Value} {a kS : Addr} {e1 : Nat}
    (F : FnG X.prog X.w X.K X.mg X.base k f fd [y] p) (hr : Room k X.A.in1.in1) (hgd : X.A.guards = some []) (hb : Binds X.K fd [y] []) (hu : X.A.in1.in1.units + 64 < cLine)
    (I : Inv X pins σ H s) (rh : RepH X.K H M) (rx : Reps X.K H xs vs) (ru : Vals vs its) (hl : ks.length = xs.length) (hZ : its.length ≤ sizeLine) (hk : Keys ks)
    (hp : ∀ (i : Nat) (x key : PV), xs[i]? = some x → ks[i]? = some key → p [x] M (fun r M' => r = key ∧ M' = M) (fun _ _ _ => False))
    (fk : FpOk X pins H kS) (fa : FpOk X pins H a) (ne : kS ≠ a) (gk : s.heap.get? kS = some (seqObj "list" #[] 0)) (ga : s.heap.get? a = some (seqObj "list" #[] e1))
    (h : ∀ (s3 : Shared) (Hj : Hp) (ws : List V), Inv X pins σ (upd Hj a (.lst ws)) s3 → Step M H M Hj → RepH X.K Hj M → Hj a = none → Reps X.K Hj (sortK xs ks) ws → P (.done (.ret .none)) s3) :
    wpAny (model X.prog X.w) X.A.in1.in1 (ksk_rest a (.ref f) false its.toArray e1 (.ref kS)) P E s := by
  have lvx := rx.length
  have lvu := ru.length
  unfold ksk_rest
  refine wpAny_bind (wpAny_rule ?_)
  first
    | rw [List.forIn_toArray]
    | (rw [← Array.forIn_toList]; simp only [List.toList_toArray])
    | rw [← Array.forIn_toList]
  refine wpAny_bind (ksk_fold (fun j s' => ∃ Hj kA e kvs, Inv X pins σ Hj s' ∧ Step M H M Hj ∧ RepH X.K Hj M ∧ s'.heap.get? kS = some (seqObj "list" kA e) ∧ FpOk X pins Hj kS ∧ s'.heap.get? a = some (seqObj "list" #[] e1) ∧ FpOk X pins Hj a ∧
      Reps X.K Hj (ks.take j) kvs ∧ Vals kvs kA.toList) its 0 s ⟨H, #[], 0, [], I, .refl _ _, rh, gk, fk, ga, fa, by rw [List.take_zero, Reps], .nil⟩ ?step ?done)
  case step =>
    rintro j u s' hx ⟨Hj, kA, e, kvs, Ij, Sj, rhj, gkj, fkj, gaj, faj, rk, rv⟩
    simp only [Nat.zero_add] at rk ⊢
    have hj : j < its.length := (List.getElem?_eq_some_iff.mp hx).1
    obtain ⟨x, hxx⟩ : ∃ x, xs[j]? = some x := ⟨_, List.getElem?_eq_getElem (by omega)⟩
    obtain ⟨key, hkk⟩ : ∃ k, ks[j]? = some k := ⟨_, List.getElem?_eq_getElem (by omega)⟩
    obtain ⟨v, hv, rxv⟩ := rx.get hxx
    obtain ⟨u', hu', ruv⟩ := ru.get hv
    rw [hx] at hu'; cases hu'
    have hz : kA.size ≤ its.length := by
      have h1 := rv.length
      have h2 := rk.length
      have h3 : kA.toList.length = kA.size := Array.length_toList
      rw [List.length_take] at h2
      omega
    refine wpAny_bind (wpAny_attempt (wpAny_mono (key_call F hr hgd hb Ij rhj (rxv.tk (Sj.tk rh)) ruv (hp j x key hxx hkk)) (fun r s2 he => ?_) fun _ _ hF => hF.elim))
    obtain ⟨H2, v', I2, un, rv', S2, rh2, rk'⟩ := he
    try dsimp only
    have nf : ∀ b, FpOk X pins Hj b → b ∉ frs X.stack := fun b fb z => (List.mem_cons.mp (I.stkSub b z)).elim fb.2.1 fb.2.2.1
    have gk2 := un.keep kS _ gkj fkj.1 (nf _ fkj) (by simp)
    have ga2 := un.keep a _ gaj faj.1 (nf _ faj) (by simp)
    have fk2 : FpOk X pins H2 kS := ⟨un.free kS _ gkj fkj.1 (by simp), fkj.2⟩
    have fa2 : FpOk X pins H2 a := ⟨un.free a _ gaj faj.1 (by simp), faj.2⟩
    obtain ⟨h2, g2, d2, t2, o2⟩ := s2
    have s1 := Heap.SameBut.update h2 kS (Obj.mapSeq (·.push r))
    obtain ⟨c2, hc2⟩ : ∃ c2, (h2.update kS (Obj.mapSeq (·.push r))).get? kS = some (seqObj "list" (kA.push r) c2) := ⟨_, get?_update_seq gk2 (·.push r)⟩
    have ek : ks.take (j + 1) = ks.take j ++ [key] := by rw [List.take_add_one, hkk]; rfl
    have ea : (kA.push r).toList = kA.toList ++ [r] := by simp
    refine wpAny_bind (listUpdate_at gk2 rfl ?_ (Nat.le_trans hz hZ) (Nat.le_trans (Nat.le_of_eq (Array.size_push ..)) (Nat.succ_le_succ (Nat.le_trans hz hZ))))
    refine wpAny_pure ⟨rfl, H2, kA.push r, c2, kvs ++ [v'], ?_, Sj.trans S2, rh2, hc2, fk2, (s1.2 a ne.symm).trans ga2, fa2, ?_, ?_⟩
    · exact I2.turnedL (t' := t2) (ch := [kS]) (fun b o hb q => (s1.2 b (by simpa using hb)).trans q) (fun b hb => by rw [List.mem_singleton] at hb; subst hb; exact fk2)
    · rw [ek]
      refine (rk.tk (S2.tk rhj)).append ?_
      rw [Reps]
      exact ⟨v', [], rfl, rk', .nil⟩
    · rw [ea]
      exact rv.append (.cons rv' .nil)
  case done =>
    rintro s' ⟨Hj, kA, e, kvs, Ij, Sj, rhj, gkj, fkj, gaj, faj, rk, rv⟩
    have e3 : ks.take (0 + its.length) = ks := List.take_of_length_le (by omega)
    rw [e3] at rk
    have hks : kA.size = its.length := by
      have h1 := rv.length
      have h2 := rk.length
      have h3 : kA.toList.length = kA.size := Array.length_toList
      omega
    have hpu : purs ks = true := purs_all fun x hx => pl_pur x (hk.pl x hx)
    have er := each_reads rfl Ij hpu rk rv
    have hcl : ∀ d ∈ dats ks, d.canLay0 = true := fun d hd => by
      rw [dats_map] at hd
      obtain ⟨x, hx, rfl⟩ := List.mem_map.mp hd
      exact pl_lay x (hk.pl x hx)
    have S : SortsAt X.prog X.w X.A.in1.in1 s' (dataKind s'.heap (dats ks)) kA.toList := by
      refine sorts_own er hcl (fun d hd => ?_) (fun d hd d' hd' => ?_) (fun d hd d' hd' => ?_) (fun d hd => ?_)
      all_goals rw [dats_map] at hd
      all_goals obtain ⟨x, hx, rfl⟩ := List.mem_map.mp hd
      · obtain ⟨n, r, rfl⟩ := hk.tup x hx
        exact ⟨n, dats r, by rw [dat, dats, dat]⟩
      · rw [dats_map] at hd'
        obtain ⟨x', hx', rfl⟩ := List.mem_map.mp hd'
        exact hk.cmp x hx x' hx'
      · rw [dats_map] at hd'
        obtain ⟨x', hx', rfl⟩ := List.mem_map.mp hd'
        exact (tk_cmp x x' (hk.pl x hx) (hk.pl x' hx') (hk.cmp x hx x' hx')).2
      · have := hk.dep x hx
        rw [dpt_eq]; omega
    try dsimp only
    refine wpAny_bind (listItems_at gkj rfl ?_)
    obtain ⟨G, G1, G2⟩ := restrict s'.heap fun b => decide (b ≠ kS)
    have kp : KeepsBut a G s'.heap := fun b o hb q => by
      by_cases hbk : b = kS
      · rw [G2 b (by simpa using hbk)] at q; cases q
      · rw [G1 b (by simpa using hbk)] at q; exact q
    refine keyH_end (κ := dataKind s'.heap (dats ks)) (h₁ := G) kp (G2 kS (by simp)) gkj gaj ne S hks hZ fun h3 tk3 c k3 n3 => ?_
    -- what is sorted
    have rx' := rx.tk (Sj.tk rh)
    obtain ⟨z1, z2⟩ := zip_snd (xs := xs) (ks := ks) (vs := vs) hl (by omega)
    have ekeys : EachIs (fun v (b : (PV × PV) × V) => (dataKind s'.heap (dats ks)).keyOf v = some (keyToks (dat b.1.2))) kA.toList ((xs.zip ks).zip vs) := by
      have h0 : EachIs (fun v d => (dataKind s'.heap (dats ks)).keyOf v = some (keyToks d)) kA.toList (dats ks) := (each_mem er).mono fun _ _ ⟨⟨_, r⟩, hd⟩ => kind_of hcl hd r
      have e4 : dats ks = ((xs.zip ks).zip vs).map (fun b => dat b.1.2) := by
        rw [dats_map]
        conv => lhs; rw [← z1]
        rw [List.map_map]; rfl
      have h1 : EachIs (fun v d => (dataKind s'.heap (dats ks)).keyOf v = some (keyToks d)) kA.toList (((xs.zip ks).zip vs).map (fun b => dat b.1.2)) := by rw [← e4]; exact h0
      exact each_of_map (fun b : (PV × PV) × V => dat b.1.2) h1
    have out := sortVals_each (κ := dataKind s'.heap (dats ks)) (rev := false) (fun b : (PV × PV) × V => keyToks (dat b.1.2)) (each_in rx' ru hl) ekeys
    obtain ⟨o1, o2⟩ := each_out out
    have e5 : (((xs.zip ks).zip vs).mergeSort (sortLe (dataKind s'.heap (dats ks)).toKeyOrd false fun b : (PV × PV) × V => keyToks (dat b.1.2))).map (fun b => b.1.1) = sortK xs ks := by
      unfold sortK
      have := List.map_mergeSort (r := sortLe (dataKind s'.heap (dats ks)).toKeyOrd false fun b : (PV × PV) × V => keyToks (dat b.1.2)) (s := dataLe false fun p : PV × PV => dat p.2) (f := fun b : (PV × PV) × V => b.1) (l := (xs.zip ks).zip vs) (fun _ _ _ _ => rfl)
      rw [z2] at this
      rw [← this, List.map_map]; rfl
    rw [e5] at o2
    obtain ⟨hh, g, d, t, os⟩ := s'
    refine h _ Hj _ (inv_adopt (t' := tk3) (T := a) (ch := [a, kS]) Ij (fun b o hb q => ?_) (fun b hb => ?_) (by simp) ?_) Sj rhj faj.1 o2
    · simp only [List.mem_cons, List.not_mem_nil, or_false, not_or] at hb
      exact k3 b o hb.1 (by rw [G1 b (by simpa using hb.2)]; exact q)
    · simp only [List.mem_cons, List.not_mem_nil, or_false] at hb
      rcases hb with rfl | rfl
      · exact faj
      · exact fkj
    · have hlen := o1.length
      have hol := sortVals_length (κ := dataKind hh (dats ks)) (ks := kA.toList) (vs := its) false (by rw [Array.length_toList]; exact hks)
      have hl2 := hlen.trans hol
      exact ⟨by omega, _, c, o1, n3⟩
end
end PL
set_option autoImplicit false
namespace PL
open PySem PySem.Spec L2
open PyProof.Rows hiding St

section
open PySem.W
variable {prog : Program} {w : World} {A : Around} {E : Value → Shared → Prop} {s : Shared}
theorem collect_seq {l : Addr} {o : Obj} {vs : List Value} {n : Nat} {T : String} {Q : List Value → Shared → Prop} (ho : s.heap.get? l = some o) (hc : o.cls = .type T) (hT : T = "list" ∨ T = "tuple") (hd : o.data = .seq vs.toArray n)
    (h : Q vs { s with heap := (s.heap.push (seqObj "list" #[] 0)).update s.heap.objs.size (Obj.mapSeq (· ++ vs.toArray)) }) (hz : vs.length ≤ sizeLine) :
    wpAny (model prog w) A (collect (.ref l)) Q E s := by
  unfold collect
  refine wpAny_bind (wpAny_runValue (codeAny_builtin entry_proto_collect' ?_))
  show wpAny _ _ (do again (.builtin "list.__iadd__" ⟨[← newList [], .ref l], []⟩)) _ _ s
  refine wpAny_bind (wpAny_newList (wpAny_pure ⟨Code.quiet_builtin _ (by decide +kernel), codeAny_builtin entry_list_iadd' ?_⟩))
  show wpAny _ _ (Builtin.List.listExtendWith (.ref s.heap.objs.size) (.ref l) (.ref s.heap.objs.size)) _ _ { s with heap := s.heap.push (seqObj "list" #[] 0) }
  unfold Builtin.List.listExtendWith
  have ho' : (s.heap.push (seqObj "list" #[] 0)).get? l = some o := Heap.get?_push_of_some _ ho
  refine wpAny_bind (wpAny_typeOf (T := T) ⟨o, ho', hc⟩ ?_)
  rw [if_pos (by rcases hT with rfl | rfl <;> simp)]
  refine wpAny_bind (listItems_at ho' hd ?_)
  refine wpAny_bind (listItems_at (xs := #[]) (n := 0) (Heap.get?_push_size _ rfl) rfl ?_)
  rw [if_neg (by simp)]
  refine wpAny_bind (listUpdate_at (xs := #[]) (n := 0) (Heap.get?_push_size _ rfl) rfl ?_ (Nat.zero_le _) (by show (#[] ++ vs.toArray).size ≤ sizeLine + 1; simp only [Array.size_append, List.size_toArray, List.length_nil]; omega))
  refine wpAny_pure ?_
  show wpAny (model prog w) A (do
      let o ← load s.heap.objs.size
      match o.data with
      | .seq xs _ => pure xs.toList
      | _ => unsupported "internal:collect") Q E { s with heap := (s.heap.push (seqObj "list" #[] 0)).update s.heap.objs.size (Obj.mapSeq (· ++ vs.toArray)) }
  refine wpAny_bind (wpAny_load (get?_update_seq (Heap.get?_push_size _ rfl) _) ?_)
  show wpAny _ _ (pure ((#[] : Array Value) ++ vs.toArray).toList) Q E _
  rw [show ((#[] : Array Value) ++ vs.toArray).toList = vs by simp]
  exact wpAny_pure h
theorem sorted_seq {l : Addr} {o : Obj} {vs : List Value} {n : Nat} {T : String} {kw : List (Str × Value)} {Q : Value → Shared → Prop} (ho : s.heap.get? l = some o) (hc : o.cls = .type T) (hT : T = "list" ∨ T = "tuple") (hd : o.data = .seq vs.toArray n) (hL : vs.length ≤ sizeLine)
    (ha1 : argsOk "sorted" ⟨[.ref l], kw⟩) (ha2 : ∀ x, argsOk "list.sort" ⟨[.ref x], kw⟩)
    (body : ∀ E' : Value → Shared → Prop, wpAny (model prog w) A.in1.in1 (Builtin.«list.sort» ⟨[.ref (s.heap.objs.size + 1)], kw⟩) (fun f s' => f = .done (.ret .none) ∧ Q (.ref (s.heap.objs.size + 1)) s') E' { s with heap := copyHeap s.heap vs }) :
    wpAny (model prog w) A (call (.builtin "sorted") [.ref l] kw) Q E s := by
  refine call_function_entry_kw kind_sorted plain_sorted entry_sorted ha1 ?_
  unfold Builtin.«sorted»
  refine wpAny_bind (m := checkCount "sorted" 1 1 _) (wpAny_pure ?_)
  refine wpAny_bind (collect_seq ho hc hT hd ?_ hL)
  refine wpAny_bind (wpAny_newList ?_ hL)
  have hsz : ((s.heap.push (seqObj "list" #[] 0)).update s.heap.objs.size (Obj.mapSeq (· ++ vs.toArray))).objs.size = s.heap.objs.size + 1 := by
    rw [Heap.size_update, size_push']
  show wpAny _ _ _ _ _ { s with heap := copyHeap s.heap vs }
  rw [hsz]
  refine wpAny_bind (wpAny_holding (wpAny_call_entry_kw slot_list_sort ⟨_, copyHeap_at s.heap vs, rfl⟩ entry_list_sort ?body (ha2 _)))
  case body =>
    show wpAny (model prog w) A.in1.in1 (Builtin.«list.sort» ⟨[.ref (s.heap.objs.size + 1)], kw⟩) _ _ _
    refine wpAny_mono (body _) (fun f s' hf => ?_) fun _ _ e => e
    obtain ⟨rfl, hq⟩ := hf
    exact ⟨_, rfl, wpAny_pure ⟨_, rfl, hq⟩⟩
end
theorem room2 {k : Nat} {A : Around} (r : Room (k + 1) A) : Room k A.in1.in1 :=
  ⟨r.hd, by have := r.dp; show A.depth + 3 * k + 5 < _; omega, by have := r.un; show A.units + 1 + 1 + 16 * k + 200 < _; omega⟩
section
variable {X : Cx} {pins : List (Addr × Obj)} {σ : St} {H : Hp} {s : Shared} {h' : Heap}
open PySem.W in
theorem key_sorted {k : Nat} {f l : Addr} {fd : FuncData} {y : Str} {p : PSp} {M : PH} {xs ks : List PV} {vs : List V} {Q : VK}
    (F : FnG X.prog X.w X.K X.mg X.base k f fd [y] p) (hr : Room (k + 1) X.A) (hgd : X.A.guards = some []) (hb : Binds X.K fd [y] [])
    (I : Inv X pins σ H s) (rh : RepH X.K H M) (rx : Reps X.K H xs vs) (hs : SqL X.K H l vs ∨ SqT X.K H l vs) (hl : ks.length = xs.length) (hk : Keys ks)
    (hp : ∀ (i : Nat) (x key : PV), xs[i]? = some x → ks[i]? = some key → p [x] M (fun r M' => r = key ∧ M' = M) (fun _ _ _ => False))
    (h : DnL X.K M H Q (sortK xs ks) M) : wpAny (model X.prog X.w) X.A (call (.builtin "sorted") [.ref l] [(Str.ofString "key", .ref f)]) (EP X pins σ Q) X.xe s := by
  obtain ⟨its, ru, o, n, T, ho, hc, hT, hd, hz⟩ : ∃ (its : List Value) (_ : Vals vs its) (o : Obj) (n : Nat) (T : String), s.heap.get? l = some o ∧ o.cls = .type T ∧ (T = "list" ∨ T = "tuple") ∧ o.data = .seq its.toArray n ∧ vs.length ≤ sizeLine := by
    rcases hs with hs | hs
    · obtain ⟨its, r, ⟨o, n, ho, hc, _, hd⟩, hz⟩ := I.list hs
      exact ⟨its, r, o, n, "list", ho, hc, .inl rfl, hd, hz⟩
    · obtain ⟨its, r, ⟨o, ho, hc, n, hd⟩, hz⟩ := I.tuple hs
      exact ⟨its, r, o, n, "tuple", ho, hc, .inr rfl, hd, hz⟩
  have lvx := rx.length
  have lvu := ru.length
  have hZ : its.length ≤ sizeLine := by omega
  refine sorted_seq ho hc hT hd hZ (PyProof.Rows.ksk_s1 _ _) (fun _ => PyProof.Rows.ksk_l1 _ _) fun E' => ?_
  rw [PyProof.Rows.ksk_t1]
  have ha := copyHeap_at s.heap its
  have old : ∀ b o, s.heap.get? b = some o → (sortingHeap (copyHeap s.heap its) (s.heap.objs.size + 1) its).get? b = some o := fun b o e =>
    sortingHeap_old (Nat.ne_of_lt (Nat.lt_succ_of_lt (Heap.lt_size e))) (copyHeap_old e)
  have lta : (s.heap.objs.size + 1 : Nat) < (copyHeap s.heap its).objs.size := Heap.lt_size ha
  obtain ⟨e1, ho1⟩ : ∃ e1, ((copyHeap s.heap its).update (s.heap.objs.size + 1) (Obj.mapSeq fun _ => (#[] : Array Value))).get? (s.heap.objs.size + 1) = some (seqObj "list" #[] e1) := ⟨_, get?_update_seq ha fun _ => #[]⟩
  have hkS : (((copyHeap s.heap its).update (s.heap.objs.size + 1) (Obj.mapSeq fun _ => (#[] : Array Value))).push (seqObj "tuple" its.toArray 0)).objs.size = (copyHeap s.heap its).objs.size + 1 := by rw [size_push', Heap.size_update]
  have g1 : s.heap.objs.size ≤ (((copyHeap s.heap its).update (s.heap.objs.size + 1) (Obj.mapSeq fun _ => (#[] : Array Value))).push (seqObj "tuple" its.toArray 0)).objs.size := by rw [hkS]; omega
  have g2 : (((copyHeap s.heap its).update (s.heap.objs.size + 1) (Obj.mapSeq fun _ => (#[] : Array Value))).push (seqObj "tuple" its.toArray 0)).objs.size ≠ s.heap.objs.size + 1 := by rw [hkS]; exact Nat.ne_of_gt (by omega)
  unfold ksk_tree
  refine wpAny_bind (listItems_at ha rfl ?_)
  refine wpAny_bind (listUpdate_at ha rfl ?_ (by rw [List.size_toArray]; exact hZ) (Nat.zero_le _))
  refine wpAny_bind (seqEpoch_at ho1 rfl ?_)
  refine wpAny_bind (wpAny_newTuple ?_ (by show its.length ≤ _; exact hZ))
  refine wpAny_bind (wpAny_newList ?_ (Nat.zero_le _))
  refine wpAny_holding ?_
  have fresh : ∀ b, s.heap.objs.size ≤ b → FpOk X pins H b := fun b hb => I.fpOk hb (I.hok.fresh hb)
  have I1 : Inv X pins σ H { s with heap := sortingHeap (copyHeap s.heap its) (s.heap.objs.size + 1) its } := I.kept (t' := s.toks) old
  have hun := hr.un
  refine key_rest (s := { s with heap := sortingHeap (copyHeap s.heap its) (s.heap.objs.size + 1) its }) (kS := (((copyHeap s.heap its).update (s.heap.objs.size + 1) (Obj.mapSeq fun _ => (#[] : Array Value))).push (seqObj "tuple" its.toArray 0)).objs.size)
    F (room2 hr) hgd hb (by show X.A.units + 1 + 1 + 64 < cLine; omega) I1 rh rx ru hl hZ hk hp (fresh _ g1) (fresh _ (Nat.le_succ _)) g2 (Heap.get?_push_size _ rfl) (Heap.get?_push_of_some _ (Heap.get?_push_of_some _ ho1)) fun s3 Hj ws I3 S3 rh3 hn rw3 => ⟨rfl, ?_⟩
  have hsz : (sortK xs ks).length ≤ sizeLine := by
    unfold sortK
    rw [List.length_map, (List.mergeSort_perm _ _).length_eq, List.length_zip]
    omega
  have hw : H (s.heap.objs.size + 1) = none := (fresh _ (Nat.le_succ _)).1
  refine ⟨.ref _, _, I3, rfl, h _ ws _ (S3.over hw) (rh3.upd_free hn) hw (rh.free hw) upd_same (rw3.tk (tk_new hn)) hsz⟩
end
/-! ### the rule -/
def wSrtK (p : PSp) (e : WE) : WL := fun EP s M Q => e EP s M fun x M1 => ∃ xs ks : List PV, seqAt M1 x = some xs ∧ ks.length = xs.length ∧ Keys ks ∧ (∀ (i : Nat) (y key : PV), xs[i]? = some y → ks[i]? = some key → p [y] M1 (fun r M' => r = key ∧ M' = M1) (fun _ _ _ => False)) ∧ Q (sortK xs ks) M1
theorem el_srtK {X : Cx} {W : WX} {k : Nat} {f : Addr} {fd : FuncData} {y fx : Str} {p : PSp} {e : Expr} {we : WE} {pp fpos kpos pos : Pos} (F : FnG X.prog X.w X.K X.mg X.base k f fd [y] p) (hr : Room (k + 1) X.A) (hgd : X.A.guards = some []) (hb : Binds X.K fd [y] [])
    (hf : X.mg fx = some (.ref f)) (hm : X.mg "sorted" = none) (he : EE X W e we) (hg : Gl X "sorted" := by rfl) (hgf : Gl X fx := by rfl) (hdf : (fx == ("__debug__" : Str)) = false := by decide) (hv : bootBuiltins "sorted" = some (.builtin "sorted") := by decide +kernel)
    (h1 : starEach [e] X.env = (false, eval e X.env) :: starEach [] X.env := by rfl)
    (h2 : backTo pos (starEach [e] X.env) = (false, eval e X.env) :: backTo pos (starEach [] X.env) := by rfl) (hpl : (backTo pos (starEach [e] X.env)).any (·.1) = false := by rfl)
    (hall : (backToKw pos (keywordEach [⟨some "key", .Name fx fpos, kpos⟩] X.env)).all (·.1.isSome) = true := by rfl) (hnone : (backToKw pos (keywordEach [⟨some "key", .Name fx fpos, kpos⟩] X.env)).any (·.1.isNone) = false := by rfl)
    (hks : (backToKw pos (keywordEach [⟨some "key", .Name fx fpos, kpos⟩] X.env)).filterMap (·.1) = [Str.ofString "key"] := by rfl) :
    EL X W (.Call (.Name "sorted" pp) [e] [⟨some "key", .Name fx fpos, kpos⟩] pos) (wSrtK p we) := by
  refine ⟨fun EP s M Q Q' k h => he.mono _ _ _ _ _ (fun x M1 ⟨xs, ks, a, b, c, d, q⟩ => ⟨xs, ks, a, b, c, d, k _ _ q⟩) h, ?_⟩
  have hc : CallRK X (.builtin "sorted") [Str.ofString "key"] (fun vs zs H Q => ∃ (l : Addr) (M : PH) (xs ks : List PV) (us : List V), vs = [.ref l] ∧ zs = [.ref f] ∧ RepH X.K H M ∧ Reps X.K H xs us ∧ (SqL X.K H l us ∨ SqT X.K H l us) ∧ ks.length = xs.length ∧ Keys ks ∧
      (∀ (i : Nat) (y key : PV), xs[i]? = some y → ks[i]? = some key → p [y] M (fun r M' => r = key ∧ M' = M) (fun _ _ _ => False)) ∧ DnL X.K M H Q (sortK xs ks) M) := by
    intro pins s σ H vs zs us ws Q I r rz h
    obtain ⟨l, M, xs, ks, us', rfl, rfl, rh, rx, hs, hl, hk, hp, q⟩ := h
    obtain rfl := Vals.ref1 r
    obtain rfl := Vals.ref1 rz
    exact key_sorted F hr hgd hb I rh rx hs hl hk hp q
  refine pe_weak (pe_callBK hc hg hm hv (ea_cons he ea_nil h1).run (ek_cons (W := W) (ee_c (p := .ref f) (pe_glob (v := .ref f) hgf hf rfl hdf) fun _ => by rw [Rep]) ek_nil).run (by decide) (by decide) h2 hpl hall hnone hks) ?_
  rintro σ H Q ⟨EP, s, M, c, h⟩
  refine c.useA (w := wCons we wNil) (ea_cons he ea_nil h1).mono (R := fun ps M1 => ∃ x, ps = [x] ∧ ∃ xs ks : List PV, seqAt M1 x = some xs ∧ ks.length = xs.length ∧ Keys ks ∧ (∀ (i : Nat) (y key : PV), xs[i]? = some y → ks[i]? = some key → p [y] M1 (fun r M' => r = key ∧ M' = M1) (fun _ _ _ => False)) ∧ DnL X.K M H Q (sortK xs ks) M1)
    (he.mono _ _ _ _ _ (fun x M1 z => ⟨x, rfl, z⟩) h) fun ps M1 vs H1 h1' S1 c1 r1 => ?_
  obtain ⟨x, rfl, xs, ks, hx, hl, hk, hp, q⟩ := h1'
  refine c1.useA (w := wCons (wC (.ref f)) wNil) (fun EP s M Q Q' k h => k _ _ h) (R := fun ps M2 => ps = [.ref f] ∧ M2 = M1) ⟨rfl, rfl⟩ fun ps M2 zs H2 h2' S2 c2 r2 => ?_
  obtain ⟨rfl, rfl⟩ := h2'
  obtain ⟨z, rfl, rz⟩ := reps1 r2
  rw [Rep] at rz; subst rz
  obtain ⟨u, rfl, ru⟩ := reps1 r1
  obtain ⟨a, us, rfl, rr, hs⟩ := seqAt_rd c2.rh (ru.tk (S2.tk c1.rh)) hx
  exact ⟨a, M2, xs, ks, us, rfl, rfl, c2.rh, rr, hs, hl, hk, hp, DnL.on (S1.trans S2) q⟩
end PL
set_option autoImplicit false
namespace PL
open PySem PySem.Spec L2
open PyProof.Rows hiding St

/-! ## <= of whole numbers and of pairs of them -/
def rLeX : PR2 := fun x y M Q => match x, y with
  | .int i, .int j => Q (.bl (decide (i ≤ j))) M
  | .tup [.int a, .int b], .tup [.int c, .int d] => Q (.bl (decide (a < c ∨ (a = c ∧ b ≤ d)))) M
  | _, _ => False
theorem mono_leX : Mono2 rLeX := by
  intro x y M Q Q' k h
  unfold rLeX at h ⊢
  split at h
  · exact k _ _ h
  · exact k _ _ h
  · exact h
def r0LeX (K : Fg) : R2 := fun x y H Q => (rI0 fun i j => .bl (decide (i ≤ j))) x y H Q ∨ rLeT K x y H Q
theorem op_leX {X : Cx} (hu : X.A.units + 64 < cLine) : OpR X (compareOp .LtE) (r0LeX X.K) := OpR.or op_le (op_leT (by omega))
theorem reps_ints {K : Fg} {H : Hp} : ∀ {ns : List Int} {vs : List V}, Reps K H (ns.map PV.int) vs → vs = ns.map V.int
  | [], vs, h => by rw [List.map_nil, Reps] at h; exact h
  | n :: ns, vs, h => by
    rw [List.map_cons, Reps] at h
    obtain ⟨v, r, rfl, h1, h2⟩ := h
    rw [Rep] at h1
    rw [h1, reps_ints h2]; rfl
theorem lift_leX {K : Fg} : Lift2 K rLeX (r0LeX K) := by
  intro M H x y v u Q rh rx ry h
  unfold rLeX at h
  split at h
  · rw [Rep] at rx ry; exact .inl ⟨_, _, rx, ry, dn_here rh (by rw [Rep]) h⟩
  · rename_i a b c d
    rw [Rep] at rx ry
    obtain ⟨p, vs, rfl, hs, rr⟩ := rx
    obtain ⟨q, us, rfl, hs', rr'⟩ := ry
    rw [reps_ints (ns := [a, b]) rr] at hs
    rw [reps_ints (ns := [c, d]) rr'] at hs'
    refine .inr ⟨p, q, [a, b], [c, d], rfl, rfl, hs, hs', ?_⟩
    have e : Ob.lexAt (fun j => decide (([a, b] : List Int).getD j 0 = [c, d].getD j 0)) (fun j => decide (([a, b] : List Int).getD j 0 ≤ [c, d].getD j 0)) (decide (([a, b] : List Int).length ≤ [c, d].length)) 0 (min ([a, b] : List Int).length [c, d].length) = decide (a < c ∨ (a = c ∧ b ≤ d)) := by
      show (if decide (a = c) = true then (if decide (b = d) = true then true else decide (b ≤ d)) else decide (a ≤ c)) = _
      by_cases h1 : a = c
      · subst h1
        by_cases h2 : b = d
        · subst h2; simp
        · simp [h2]
      · have : (a ≤ c) ↔ (a < c ∨ (a = c ∧ b ≤ d)) := by omega
        simp only [h1, decide_false, Bool.false_eq_true, if_false, decide_eq_decide]
        simpa [h1] using this
    rw [e]
    exact dn_here rh (by rw [Rep]) h
  · exact h.elim
/-! ## max, min of two whole numbers -/
def cMax2 : PC := fun ps M Q => match ps with
  | [.int i, .int j] => Q (.int (if j > i then j else i)) M
  | _ => False
def cMin2 : PC := fun ps M Q => match ps with
  | [.int i, .int j] => Q (.int (if j < i then j else i)) M
  | _ => False
theorem mono_max2 : MonoC cMax2 := by
  intro ps M Q Q' k h
  unfold cMax2 at h ⊢
  split at h
  · exact k _ _ h
  · exact h
theorem mono_min2 : MonoC cMin2 := by
  intro ps M Q Q' k h
  unfold cMin2 at h ⊢
  split at h
  · exact k _ _ h
  · exact h
theorem lift_max2 {K : Fg} : LiftC K cMax2 (fun xs H Q => ∃ i j, xs = [.int i, .int j] ∧ Q (.int (if j > i then j else i)) H) := by
  intro M H ps vs Q rh r h
  unfold cMax2 at h
  split at h
  · obtain ⟨u, v, rfl, ru, rv⟩ := reps2 r
    rw [Rep] at ru rv; subst ru; subst rv
    exact ⟨_, _, rfl, dn_here rh (by rw [Rep]) h⟩
  · exact h.elim
theorem lift_min2 {K : Fg} : LiftC K cMin2 (fun xs H Q => ∃ i j, xs = [.int i, .int j] ∧ Q (.int (if j < i then j else i)) H) := by
  intro M H ps vs Q rh r h
  unfold cMin2 at h
  split at h
  · obtain ⟨u, v, rfl, ru, rv⟩ := reps2 r
    rw [Rep] at ru rv; subst ru; subst rv
    exact ⟨_, _, rfl, dn_here rh (by rw [Rep]) h⟩
  · exact h.elim
/-! ## xs.insert(i, v) -/
def mInsert : PM := fun x ps M Q => match x, ps with
  | .ref a, [.int i, p] => ∃ xs, M a = some (.lst xs) ∧ xs.length < sizeLine ∧ 0 ≤ i ∧ i < 2 ^ 63 ∧ Q .non (pupd M a (.lst (xs.take i.toNat ++ [p] ++ xs.drop i.toNat)))
  | _, _ => False
theorem mono_insert : MonoM mInsert := by
  intro x ps M Q Q' k h
  unfold mInsert at h ⊢
  split at h
  · exact let ⟨xs, a, b, c, d, e⟩ := h; ⟨xs, a, b, c, d, k _ _ e⟩
  · exact h
theorem lift_insert {K : Fg} : LiftM K mInsert (fun x vs H Q => ∃ (l : Addr) (xs : List V) (i : Int) (y : V), x = .ref l ∧ vs = [.int i, y] ∧ H l = some (.lst xs) ∧ xs.length < sizeLine ∧ 0 ≤ i ∧ i < 2 ^ 63 ∧
    Q .non (upd H l (.lst (xs.take i.toNat ++ [y] ++ xs.drop i.toNat)))) := by
  intro M H x ps v vs Q rh rx rps h
  unfold mInsert at h
  split at h
  · obtain ⟨xs, e, hz, h0, h1, q⟩ := h
    rw [Rep] at rx; subst rx
    obtain ⟨u, w, rfl, ru, rw'⟩ := reps2 rps
    rw [Rep] at ru; subst ru
    obtain ⟨us, hu, rr⟩ := rh _ _ e
    exact ⟨_, us, _, w, rfl, rfl, hu, by rw [← rr.length]; exact hz, h0, h1, dn_wr rh e hu (((rr.take _).append (.cons rw' .nil)).append (rr.drop _)) (by rw [Rep]) q⟩
  · exact h.elim
/-! ## [..] * n -/
def qRepL (xs : List PV) (QA : List PV → PH → Prop) (M2 : PH) (y : PV) : Prop := match y with
  | .int k => 0 ≤ k ∧ k ≤ 1000 ∧ xs.length ≤ 1000 ∧ QA (List.replicate k.toNat xs).flatten M2
  | _ => False
def wRepL (l : WL) (e : WE) : WL := fun EP s M Q => l EP s M fun xs M1 => e EP s M1 fun y M2 => qRepL xs Q M2 y
theorem wRepL_i {EP : PX} {s : PSt} {M : PH} {QA : List PV → PH → Prop} {l : WL} {e : WE} (h : l EP s M fun xs M1 => e EP s M1 fun y M2 => qRepL xs QA M2 y) : wRepL l e EP s M QA := h
theorem qRepL_i {xs : List PV} {QA : List PV → PH → Prop} {M : PH} {k : Int} (h0 : 0 ≤ k) (h1 : k ≤ 1000) (h2 : xs.length ≤ 1000) (h : QA (List.replicate k.toNat xs).flatten M) : qRepL xs QA M (.int k) := ⟨h0, h1, h2, h⟩
theorem rep_flat_len {α : Type} (xs : List α) : ∀ n : Nat, (List.replicate n xs).flatten.length = n * xs.length
  | 0 => by simp
  | n + 1 => by rw [List.replicate_succ, List.flatten_cons, List.length_append, rep_flat_len xs n, Nat.succ_mul]; omega
theorem el_repL {X : Cx} {W : WX} {a b : Expr} {wl : WL} {we : WE} {pos : Pos} (ha : EL X W a wl) (hb : EE X W b we) : EL X W (.BinOp a .Mult b pos) (wRepL wl we) := by
  refine ⟨fun EP s M Q Q' k h => ha.mono _ _ _ _ _ (fun xs M1 z => hb.mono _ _ _ _ _ (fun y M2 z2 => ?_) z) h, pe_weak (pe_op op_rep ha.run hb.run) ?_⟩
  · unfold qRepL at z2 ⊢
    split at z2
    · exact ⟨z2.1, z2.2.1, z2.2.2.1, k _ _ z2.2.2.2⟩
    · exact z2
  · rintro σ H Q ⟨EP, s, M, c, h⟩
    refine c.useL ha.mono h fun xs M1 D vs H1 h1 S1 c1 n w e rr z => ?_
    refine c1.use hb.mono h1 fun y M2 u H2 h2 S2 c2 r2 => ?_
    unfold qRepL at h2
    split at h2
    · rename_i k
      rw [Rep] at r2; subst r2
      obtain ⟨h0, h1', h3, q⟩ := h2
      have e2 := S2.keep D _ e w
      have rr2 := rr.tk (S2.tk c1.rh)
      have lv := rr.length
      have hm : vs.length * k.toNat ≤ 1000 * 1000 := Nat.mul_le_mul (by omega) (by omega)
      refine ⟨D, k, vs, rfl, rfl, e2, by omega, by omega, by rw [sizeLine_eq]; omega, ?_⟩
      exact dnL_new c2.rh (rr2.rep k.toNat) (by rw [rep_flat_len, sizeLine_eq, lv, Nat.mul_comm]; omega) (q.on (S1.trans S2))
    · exact h2.elim
end PL
set_option autoImplicit false
namespace PL
open PySem PySem.Spec L2
open PyProof.Rows hiding St

/-! ## defs with defaults -/
section
variable {P : Program} {w : World} {K : Fg} {mg : Str → Option Value} {base : Heap}
theorem fnG_okD {x qual : Str} {st : Stmt} {f : Addr} {fd : FuncData} {N ps : List Str} {k : Nat} {p : PSp} {wb : WS} {dvs : List V} {kws : List (Str × V)} (F : FunD K x qual (defArgs st) (defBody st) (defScope st) dvs kws f fd) (S : FnScope N ps (defScope st)) (hmp : MonoP p)
    (hbody : ∀ (cdv : Value) (A : Around) (outer : List Env) (s : Shared) (H : Hp) (E : XK), Room k (A.deeper (envOfC qual (defScope st) s.heap.objs.size f cdv)) → A.guards = some [] → EB (XOf P w K mg base N qual (defScope st) f cdv A outer s H E) (WOf E) (defBody st) wb)
    (spec : ∀ (args : List PV) (M : PH) (Q : QE) (E : PX1), args.length = ps.length → p args M Q E → wb (EDef E) (DDef Q) (startP N.length args) M) : FnG P w K mg base (k + 1) f fd ps p := by
  obtain ⟨oc, od, dV, kV, doc, pm, an, cdv, ct, osl, rfl, lk, hcd, _, _⟩ := F.ex
  exact fnG_of lk hcd S hmp (fun A outer s H E => hbody cdv A outer s H E) spec
end
theorem fund_full {K : Fg} {x qual : Str} {params : Arguments} {body : List Stmt} {scope : Scope} {dvs : List V} {kws : List (Str × V)} {f : Addr} {fd : FuncData} {ps : List Str} (F : FunD K x qual params body scope dvs kws f fd) (hd : dvs ≠ [])
    (h : ∀ (T : Addr) (kV doc pm : Value) (an : Option Addr) (cdv ct : Value) (us its : List Value), us.length = ps.length → its.length = dvs.length →
      ∃ k, bindArgs (PySem.W.fnOf x qual params body scope (.ref T) kV doc pm an cdv ct) ⟨us, []⟩ = seqItems? (.ref T) >>= k ∧ k (some its.toArray) = pure (ps.zip us)) : Binds K fd ps [] := by
  obtain ⟨ds, v, b⟩ := F.binds1 (ps := ps) ps.length dvs.length hd (by omega) fun T kV doc pm an cdv ct us its h1 h2 => by
    rw [List.drop_eq_nil_of_le (by omega), List.append_nil]
    exact h T kV doc pm an cdv ct us its h1 h2
  rw [List.drop_eq_nil_of_le (Nat.le_refl _)] at v
  cases v
  exact b
theorem kbn_ofD {K : Fg} {x qual : Str} {params : Arguments} {body : List Stmt} {scope : Scope} {dvs : List V} {kws : List (Str × V)} {f : Addr} {fd : FuncData} {ps ks : List Str} {n : Nat} (F : FunD K x qual params body scope dvs kws f fd) (hd : dvs ≠ []) (g : {α : Type} → List α → List α → List α)
    (h : ∀ (T : Addr) (kV doc pm : Value) (an : Option Addr) (cdv ct : Value) (us ws its : List Value), us.length = n → ws.length = ks.length → its.length = dvs.length →
      ∃ k, bindArgs (PySem.W.fnOf x qual params body scope (.ref T) kV doc pm an cdv ct) ⟨us, ks.zip ws⟩ = seqItems? (.ref T) >>= k ∧ k (some its.toArray) = pure (ps.zip (g us ws)))
    (hr : ∀ {vs : List V} {us : List Value} {zs : List V} {ws : List Value}, Vals vs us → Vals zs ws → Vals (g vs zs) (g us ws)) : KBn K fd ps n ks (fun us ws => g us ws) (fun vs zs => g vs zs) := by
  obtain ⟨oc, od, dV, kV, doc, pm, an, cdv, ct, osl, rfl, lk, hcd, hD, _⟩ := F.ex
  rcases hD with ⟨e, _⟩ | ⟨_, T, o, its, m, rfl, lT, oT, rT⟩
  · exact absurd e hd
  · refine ⟨fun s us ws X h1 h2 => ?_, hr⟩
    obtain ⟨k, e1, e2⟩ := h T kV doc pm an cdv ct us ws its h1 h2 rT.length.symm
    refine BindsTo.of_looks fun M => ?_
    rw [e1]
    exact looks_items X lT oT (.of_pure e2)
theorem fund_mk {K : Fg} {x qual : Str} {st : Stmt} {f T : Addr} {oc oc2 : Value} {od an od2 : Option Addr} {osl sl2 : Array (Option Value)} {kV doc pm cdv ct : Value} {is : Array Value} {n : Nat} {dvs : List V}
    (l : K.lookup f = some ⟨oc, od, .func (PySem.W.fnOf x qual (defArgs st) (defBody st) (defScope st) (.ref T) kV doc pm an cdv ct), osl⟩)
    (c : PySem.W.codeIn K cdv qual = true) (k : PySem.W.keepIn K (.ref f) = true) (m : K.lookup T = some ⟨oc2, od2, .seq is n, sl2⟩) (ne : dvs ≠ []) (v : Vals dvs is.toList) :
    FunD K x qual (defArgs st) (defBody st) (defScope st) dvs [] f (PySem.W.fnOf x qual (defArgs st) (defBody st) (defScope st) (.ref T) kV doc pm an cdv ct) :=
  ⟨⟨oc, od, .ref T, kV, doc, pm, an, cdv, ct, osl, rfl, l, c, .inr ⟨ne, T, _, is.toList, n, rfl, m, by simp, v⟩, .inl rfl⟩, k⟩
/-- two keywords, the other way round -/
def swap2 {α : Type} (us ws : List α) : List α := match us, ws with
  | [], [a, b] => [b, a]
  | _, _ => []
theorem swap2_vals {vs : List V} {us : List Value} {zs : List V} {ws : List Value} (h1 : Vals vs us) (h2 : Vals zs ws) : Vals (swap2 vs zs) (swap2 us ws) := by
  cases h1 with
  | nil =>
    cases h2 with
    | nil => exact .nil
    | cons a t =>
      cases t with
      | nil => exact .nil
      | cons b t =>
        cases t with
        | nil => exact .cons b (.cons a .nil)
        | cons c t => exact .nil
  | cons a t => exact .nil
theorem swap2_reps {K : Fg} {H : Hp} {qs rs : List PV} {vs zs : List V} (h1 : Reps K H qs vs) (h2 : Reps K H rs zs) : Reps K H (swap2 qs rs) (swap2 vs zs) := by
  have l1 := h1.length
  have l2 := h2.length
  match qs, vs, rs, zs, h1, h2, l1, l2 with
  | [], [], [], [], _, _, _, _ => exact .nil
  | [], [], [a], [b], _, _, _, _ => exact .nil
  | [], [], [a, b], [c, d], _, h2, _, _ =>
    rw [Reps] at h2
    obtain ⟨v, r, e, r1, h3⟩ := h2
    obtain ⟨u, e2, r2⟩ := reps1 h3
    subst e2
    cases e
    exact .cons r2 (.cons r1 .nil)
  | [], [], a :: b :: c :: r, d :: e :: f :: t, _, _, _, _ => exact .nil
  | a :: r, b :: t, _, _, _, _, _, _ => exact .nil
section
variable {EP : PX} {D : PEnds} {s : PSt} {M : PH} {Q : QE} {QB : Bool → PH → Prop} {QA : List PV → PH → Prop}
theorem rLeX_int {i j : Int} (h : Q (.bl (decide (i ≤ j))) M) : rLeX (.int i) (.int j) M Q := h
theorem rLeX_pair {a b c d : Int} (h : Q (.bl (decide (a < c ∨ (a = c ∧ b ≤ d)))) M) : rLeX (.tup [.int a, .int b]) (.tup [.int c, .int d]) M Q := h
theorem cMax2_i {i j : Int} (h : Q (.int (if j > i then j else i)) M) : cMax2 [.int i, .int j] M Q := h
theorem cMin2_i {i j : Int} (h : Q (.int (if j < i then j else i)) M) : cMin2 [.int i, .int j] M Q := h
theorem mInsert_i {a : Addr} {xs : List PV} {n : Nat} {p : PV} (ea : M a = some (.lst xs)) (hz : xs.length < sizeLine) (hn : n < 1000000) (h : Q .non (pupd M a (.lst (xs.take n ++ [p] ++ xs.drop n)))) : mInsert (.ref a) [.int (n : Nat), p] M Q :=
  ⟨xs, ea, hz, by omega, by omega, h⟩
theorem wSrtK_i {p : PSp} {e : WE} (h : e EP s M fun x M1 => ∃ xs ks : List PV, seqAt M1 x = some xs ∧ ks.length = xs.length ∧ Keys ks ∧ (∀ (i : Nat) (y key : PV), xs[i]? = some y → ks[i]? = some key → p [y] M1 (fun r M' => r = key ∧ M' = M1) (fun _ _ _ => False)) ∧ QA (sortK xs ks) M1) : wSrtK p e EP s M QA := h
theorem iNw_i {l : WL} {QI : PSrc → PH → Prop} (h : l EP s M fun xs M1 => QI ⟨xs, fun _ => True⟩ M1) : iNw l EP s M QI := h
def qNeg (Q : QE) : QE := fun x M1 => match x with
  | .int i => Q (.int (-i)) M1
  | _ => False
theorem wNeg_i {e : WE} (h : e EP s M (qNeg Q)) : wNeg e EP s M Q := h
theorem qNeg_i {i : Int} (h : Q (.int (-i)) M) : qNeg Q (.int i) M := h
end
end PL
set_option autoImplicit false
namespace PL
open PySem PySem.Spec L2
open PyProof.Rows hiding St

/-! ## min of two things that the heap keeps -/
/-- what stands outside of some places stays -/
def Kp (wr : List Addr) (S : Addr) (h h' : Heap) : Prop := ∀ b o, b ∉ wr → b ≠ S → h.get? b = some o → h'.get? b = some o
theorem Kp.trans {wr : List Addr} {S : Addr} {h h1 h2 : Heap} (a : Kp wr S h h1) (b : Kp wr S h1 h2) : Kp wr S h h2 := fun x o n m e => b x o n m (a x o n m e)
theorem Kp.upd {wr : List Addr} {S : Addr} {h h' : Heap} (f : ∀ b, b ≠ S → h'.get? b = h.get? b) : Kp wr S h h' := fun b o _ n e => (f b n).trans e
/-- the list that min keeps by it -/
abbrev mnObj (xs : Array Value) (c : Nat) : Obj := { cls := .type "list", dict := none, data := .seq xs c, slots := #[] }
section
variable {prog : Program} {w : World} {A : Around} {R : Result → Shared → Prop} {I S : Addr} {fp wr : List Addr} {P : Nat → Value → Prop} {St : Nat → Heap → Prop}
abbrev mnCode (I S : Addr) : Code := .builtin "min.loop" ⟨[.ref I, .none, .ref S], []⟩
theorem mn_end (W : Walks prog w A.in1 I fp wr 2 P St) (n : S ∉ wr) {s : Shared} {u : Value} {c : Nat} (t : St 2 s.heap) (o : s.heap.get? S = some (mnObj #[u, u] c))
    (r : ∀ h' tk, Kp wr S s.heap h' → R (.ok (.ret u)) { s with heap := h', toks := tk }) : codeAny (model prog w) A (mnCode I S) R s := by
  unfold mnCode
  refine codeAny_builtin PySem.F.entry_min_loop ?_
  rw [Around.under_plainId PySem.F.plain_min_loop _]
  show wpAny _ A.in1 (seqItems? (.ref S) >>= _) _ _ s
  refine wpAny_bind (wpAny_seqItems o rfl ?_)
  show wpAny _ A.in1 (tryCatch (pyNext (.ref I)) _ >>= _) _ _ s
  refine wpAny_bind (wpAny_tryCatch (W.done s _ _ t fun h1 tk kp => ?_))
  show wpAny _ A.in1 (updateSeq S (fun _ => #[]) >>= _) _ _ _
  exact wpAny_bind (wpAny_updateSeq (kp S _ n o) rfl (wpAny_bind (wpAny_letGo (wpAny_pure (r _ tk (Kp.trans (fun b o' nb _ => kp b o' nb) (Kp.upd fun b nb => Heap.get?_update_other _ _ (Ne.symm nb))))))))
theorem mn_mid (W : Walks prog w A.in1 I fp wr 2 P St) (nf : S ∉ fp) {b : Bool} {s : Shared} {u : Value} {c : Nat} (t : St 1 s.heap) (o : s.heap.get? S = some (mnObj #[u, u] c))
    (cmp : ∀ v h' tk (Q : Value → Shared → Prop) (E : Value → Shared → Prop), P 1 v → Kp wr S s.heap h' → Q (.bool b) { s with heap := h', toks := tk } → wpAny (model prog w) A.in1 (richCompare .Lt v u) Q E { s with heap := h', toks := tk })
    (r : ∀ v h' tk, P 1 v → Kp wr S s.heap h' → R (.ok (.ret (if b = true then v else u))) { s with heap := h', toks := tk }) : codeAny (model prog w) A (mnCode I S) R s := by
  have n : S ∉ wr := fun h => nf (W.sub _ h)
  unfold mnCode
  refine codeAny_builtin PySem.F.entry_min_loop ?_
  rw [Around.under_plainId PySem.F.plain_min_loop _]
  show wpAny _ A.in1 (seqItems? (.ref S) >>= _) _ _ s
  refine wpAny_bind (wpAny_seqItems o rfl ?_)
  show wpAny _ A.in1 (tryCatch (pyNext (.ref I)) _ >>= _) _ _ s
  refine wpAny_bind (wpAny_tryCatch (W.item 1 s _ _ (by omega) t fun v h1 tk pv t1 kp => ?_))
  have o1 := kp S _ n o
  have k1 : Kp wr S s.heap h1 := fun b o' nb _ => kp b o' nb
  show wpAny _ A.in1 (tryCatch (holding [v, v] (richCompare .Lt v u >>= _)) _ >>= _) _ _ _
  refine wpAny_bind (wpAny_tryCatch (wpAny_holding (wpAny_bind (cmp v h1 tk _ _ pv k1 ?_))))
  refine wpAny_bind (wpAny_holding (wpAny_truthy_bool ?_))
  refine wpAny_bind (wpAny_letGo (wpAny_pure ?_))
  cases b with
  | true =>
    simp only [if_true]
    refine wpAny_bind (wpAny_updateSeq o1 rfl (wpAny_bind (wpAny_letGo ?_)))
    exact wpAny_pure ⟨plainId_quiet PySem.F.plain_min_loop _, mn_end W n (W.frame _ _ _ t1 fun x hx o' e => (Heap.get?_update_other _ _ (fun h : S = x => nf (h ▸ hx))).trans e) (Heap.get?_update_self _ o1 rfl)
      fun h2 tk2 k2 => r v h2 tk2 pv (k1.trans (Kp.trans (Kp.upd fun x nx => Heap.get?_update_other _ _ (Ne.symm nx)) k2))⟩
  | false =>
    simp only [Bool.false_eq_true, if_false]
    refine wpAny_bind (wpAny_letGo ?_)
    exact wpAny_pure ⟨plainId_quiet PySem.F.plain_min_loop _, mn_end W n t1 o1 fun h2 tk2 k2 => r v h2 tk2 pv (k1.trans k2)⟩
theorem mn_first (W : Walks prog w A.in1 I fp wr 2 P St) (nf : S ∉ fp) {b : Bool} {s : Shared} {c : Nat} (t : St 0 s.heap) (o : s.heap.get? S = some (mnObj #[] c))
    (cmp : ∀ u v h' tk (Q : Value → Shared → Prop) (E : Value → Shared → Prop), P 0 u → P 1 v → Kp wr S s.heap h' → Q (.bool b) { s with heap := h', toks := tk } → wpAny (model prog w) A.in1 (richCompare .Lt v u) Q E { s with heap := h', toks := tk })
    (r : ∀ u v h' tk, P 0 u → P 1 v → Kp wr S s.heap h' → R (.ok (.ret (if b = true then v else u))) { s with heap := h', toks := tk }) : codeAny (model prog w) A (mnCode I S) R s := by
  have n : S ∉ wr := fun h => nf (W.sub _ h)
  unfold mnCode
  refine codeAny_builtin PySem.F.entry_min_loop ?_
  rw [Around.under_plainId PySem.F.plain_min_loop _]
  show wpAny _ A.in1 (seqItems? (.ref S) >>= _) _ _ s
  refine wpAny_bind (wpAny_seqItems o rfl ?_)
  show wpAny _ A.in1 (tryCatch (pyNext (.ref I)) _ >>= _) _ _ s
  refine wpAny_bind (wpAny_tryCatch (W.item 0 s _ _ (by omega) t fun u h1 tk pu t1 kp => ?_))
  have o1 := kp S _ n o
  show wpAny _ A.in1 (updateSeq S (fun _ => #[u, u]) >>= _) _ _ _
  refine wpAny_bind (wpAny_updateSeq o1 rfl ?_)
  have k2 : Kp wr S s.heap (h1.update S (Obj.mapSeq fun _ => #[u, u])) := Kp.trans (fun b o' nb _ => kp b o' nb) (Kp.upd fun x nx => Heap.get?_update_other _ _ (Ne.symm nx))
  exact wpAny_pure ⟨plainId_quiet PySem.F.plain_min_loop _, mn_mid W nf (W.frame _ _ _ t1 fun x hx o' e => (Heap.get?_update_other _ _ (fun h : S = x => nf (h ▸ hx))).trans e) (Heap.get?_update_self _ o1 rfl)
    (fun v h' tk Q E pv k q => cmp u v h' tk Q E pu pv (k2.trans k) q) fun v h' tk pv k => r u v h' tk pu pv (k2.trans k)⟩
/-- the lesser of two things, where the state that keeps what is there tells the one less -/
theorem min_kept {a b : Value} {r : Bool} {s : Shared} {Q : Value → Shared → Prop} {E : Value → Shared → Prop} (hh : A.handled = none)
    (cmp : ∀ h' tk (Q : Value → Shared → Prop) (E : Value → Shared → Prop), (∀ d o, s.heap.get? d = some o → h'.get? d = some o) → Q (.bool r) { s with heap := h', toks := tk } → wpAny (model prog w) A.in1 (richCompare .Lt b a) Q E { s with heap := h', toks := tk })
    (k : ∀ h' tk, (∀ d o, s.heap.get? d = some o → h'.get? d = some o) → Q (if r = true then b else a) { s with heap := h', toks := tk }) :
    wpAny (model prog w) A (call (.builtin "min") [a, b]) Q E s := by
  refine call_function_tree PySem.F.kind_min PySem.F.plain_min PySem.F.entry_min (PySem.F.args_min2 _ _) ?_
  show wpAny _ A.in1 (Builtin.Builtins.bindParams "min" ["key", "default"] 0 ⟨[], []⟩ >>= _) _ _ s
  refine wpAny_bind (wpAny_of_eq (show Builtin.Builtins.bindParams "min" ["key", "default"] 0 ⟨[], []⟩ = pure [none, none] from rfl) ?_)
  show wpAny _ A.in1 (newTuple [a, b] >>= _) _ _ s
  refine wpAny_bind (wpAny_newObj_type ?_)
  have tT : (s.heap.push { cls := .type "tuple", data := .seq #[a, b] }).IsTuple s.heap.objs.size #[a, b] := ⟨_, Heap.get?_push_size _ rfl, rfl, 0, rfl⟩
  have z1 : (s.heap.push { cls := .type "tuple", data := .seq #[a, b] }).objs.size = s.heap.objs.size + 1 := Heap.size_push ..
  refine wpAny_bind (wpAny_pyIter_tuple tT ?_)
  refine wpAny_bind (wpAny_newObj_type ?_)
  have nm : (toString "min" ++ toString ".loop" : String) = "min.loop" := by decide
  rw [nm]
  generalize hh1 : s.heap.push { cls := .type "tuple", data := .seq #[a, b] } = h1 at tT z1
  have z2 : (h1.push { cls := .type "tuple_iterator", data := .fields #[.ref s.heap.objs.size, .int 0 0] }).objs.size = h1.objs.size + 1 := Heap.size_push ..
  have t2 : (h1.push { cls := .type "tuple_iterator", data := .fields #[.ref s.heap.objs.size, .int 0 0] }).IsTupleIter h1.objs.size s.heap.objs.size 0 ∧ (h1.push { cls := .type "tuple_iterator", data := .fields #[.ref s.heap.objs.size, .int 0 0] }).IsTuple s.heap.objs.size #[a, b] := ⟨⟨_, Heap.get?_push_size _ rfl, rfl, rfl⟩, tT.push _⟩
  have e2 : ∀ d o, s.heap.get? d = some o → (h1.push { cls := .type "tuple_iterator", data := .fields #[.ref s.heap.objs.size, .int 0 0] }).get? d = some o := fun d o e => Heap.get?_push_of_some _ (by rw [← hh1]; exact Heap.get?_push_of_some _ e)
  generalize h1.push { cls := .type "tuple_iterator", data := .fields #[.ref s.heap.objs.size, .int 0 0] } = h2 at z2 t2 e2
  have l1 : (s.heap.objs.size : Nat) < h1.objs.size := by omega
  have l2 : (h1.objs.size : Nat) < h2.objs.size := by omega
  have W := Walks.tuple (prog := prog) (w := w) (A := A.in1) hh h1.objs.size s.heap.objs.size (Nat.ne_of_lt l1) #[a, b]
  have keep : ∀ {h' : Heap}, Kp [h1.objs.size] h2.objs.size (h2.push (mnObj #[] 0)) h' → ∀ d o, s.heap.get? d = some o → h'.get? d = some o := fun kp d o e => by
    have l := Heap.lt_size e
    exact kp d o (by rw [List.mem_singleton]; intro z; rw [z] at l; exact Nat.lt_irrefl _ (Nat.lt_trans l l1)) (by intro z; rw [z] at l; exact Nat.lt_irrefl _ (Nat.lt_trans l (Nat.lt_trans l1 l2))) (Heap.get?_push_of_some _ (e2 d o e))
  refine wpAny_pure ⟨plainId_quiet PySem.F.plain_min_loop _, mn_first (b := r) W (fun z => by
    rcases List.mem_cons.mp z with z | z
    · exact Nat.ne_of_gt l2 z
    · rw [List.mem_singleton] at z; exact Nat.ne_of_gt (Nat.lt_trans l1 l2) z) (W.frame _ _ _ t2 fun x _ o' e => Heap.get?_push_of_some _ e) (Heap.get?_push_size _ rfl)
    (fun u v h' tk Q' E' pu pv kp q => ?_) fun u v h' tk pu pv kp => ?_⟩
  · have eu : a = u := by simpa using pu
    have ev : b = v := by simpa using pv
    subst eu; subst ev
    exact cmp h' tk Q' E' (keep kp) q
  · have eu : a = u := by simpa using pu
    have ev : b = v := by simpa using pv
    subst eu; subst ev
    exact k h' tk (keep kp)
end
end PL
set_option autoImplicit false
namespace PL
open PySem PySem.Spec L2
open PyProof.Rows hiding St

/-! ## min of two numbers or of two tuples of data -/
def r0MinD (K : Fg) : List V → Hp → VK → Prop := fun xs H Q => ∃ x y d e, xs = [x, y] ∧ Dp K H x d ∧ Dp K H y e ∧ SeqAt.shaped d = true ∧ SeqAt.shaped e = true ∧ cmpD e d = true ∧ Q (if ltD e d = true then y else x) H
theorem call_minD {X : Cx} (hc : X.calm = true) (hu : X.A.units + 65 < cLine) : CallR X (.builtin "min") (r0MinD X.K) := by
  intro pins s σ H xs us Q I r h
  obtain ⟨x, y, d, e, rfl, hd, he, sd, se, hcmp, q⟩ := h
  obtain ⟨u, v, rfl, r1, r2⟩ := vals2 r
  have u1 : X.A.in1.units = X.A.units + 1 := rfl
  refine min_kept (r := ltD e d) (I.ok.hd hc) (fun h' tk Q' E' k q' => ?_) fun h' tk k => ⟨if ltD e d = true then y else x, H, I.kept k, ?_, q⟩
  · obtain ⟨as, a1⟩ := Dp.reads (I.kept (t' := tk) k) d x u hd r1
    obtain ⟨bs, a2⟩ := Dp.reads (I.kept (t' := tk) k) e y v he r2
    exact lt_rc _ e d X.A.in1 _ v u _ _ (Nat.le_refl _) a2 a1 (SeqAt.canLay_of_shaped se) (SeqAt.canLay_of_shaped sd) hcmp (SeqAt.room_of_shaped se (by rw [u1]; omega)) X.prog X.w E' Q' q'
  · split
    · exact r2
    · exact r1
def cMinX : PC := fun ps M Q => match ps with
  | [.int i, .int j] => Q (.int (if j < i then j else i)) M
  | [.tup xs, .tup ys] => pur (.tup xs) = true ∧ pur (.tup ys) = true ∧ shp (dat (.tup xs)) = true ∧ shp (dat (.tup ys)) = true ∧ cmpD (dat (.tup ys)) (dat (.tup xs)) = true ∧ Q (if ltD (dat (.tup ys)) (dat (.tup xs)) = true then .tup ys else .tup xs) M
  | _ => False
theorem mono_minX : MonoC cMinX := by
  intro ps M Q Q' k h
  unfold cMinX at h ⊢
  split at h
  · exact k _ _ h
  · exact ⟨h.1, h.2.1, h.2.2.1, h.2.2.2.1, h.2.2.2.2.1, k _ _ h.2.2.2.2.2⟩
  · exact h
def r0MinX (K : Fg) : List V → Hp → VK → Prop := fun xs H Q => (∃ i j, xs = [.int i, .int j] ∧ Q (.int (if j < i then j else i)) H) ∨ r0MinD K xs H Q
theorem call_minX {X : Cx} (hc : X.calm = true) (hu : X.A.units + 65 < cLine) : CallR X (.builtin "min") (r0MinX X.K) := by
  intro pins s σ H xs us Q I r h
  rcases h with h | h
  · exact call_min2 hc pins s σ H xs us Q I r h
  · exact call_minD hc hu pins s σ H xs us Q I r h
theorem lift_minX {K : Fg} : LiftC K cMinX (r0MinX K) := by
  intro M H ps vs Q rh r h
  unfold cMinX at h
  split at h
  · obtain ⟨u, v, rfl, ru, rv⟩ := reps2 r
    rw [Rep] at ru rv; subst ru; subst rv
    exact .inl ⟨_, _, rfl, dn_here rh (by rw [Rep]) h⟩
  · obtain ⟨u, v, rfl, ru, rv⟩ := reps2 r
    refine .inr ⟨u, v, _, _, rfl, dp_of h.1 ru, dp_of h.2.1 rv, h.2.2.1, h.2.2.2.1, h.2.2.2.2.1, ?_⟩
    have q := h.2.2.2.2.2
    split at q
    · rename_i hl; rw [if_pos hl]; exact dn_here rh rv q
    · rename_i hl; rw [if_neg hl]; exact dn_here rh ru q
  · exact h.elim
end PL
set_option autoImplicit false
namespace PL
open PySem PySem.Spec L2
open PyProof.Rows hiding St

/-! ## values as wholes: lists within them are parts of them -/
abbrev PV.lst (xs : List PV) : PV := .bx .lst xs
/-- what a name holds: a value that stays as it is, or a list of one's own -/
inductive SV where
  | sh (v : PV)
  | ow (pin : Bool) (xs : List PV)
abbrev VEnv := List (Option SV)
abbrev ASet := Addr → Prop
mutual
/-- v stands at p, all its parts at places of F -/
def RV (M : PH) (F : ASet) : PV → PV → Prop
  | .tup xs, p => ∃ ps, p = .tup ps ∧ RVs M F xs ps
  | .bx .lst xs, p => ∃ a ps, p = .ref a ∧ F a ∧ M a = some (.lst ps) ∧ RVs M F xs ps
  | .bx _ _, _ => False
  | .ref _, _ => False
  | .non, p => p = .non
  | .bl b, p => p = .bl b
  | .int b, p => p = .int b
  | .str b, p => p = .str b
  | .ty b, p => p = .ty b
def RVs (M : PH) (F : ASet) : List PV → List PV → Prop
  | [], ps => ps = []
  | x :: xs, ps => ∃ p r, ps = p :: r ∧ RV M F x p ∧ RVs M F xs r
end
section
variable {M M' : PH} {F F' : ASet}
mutual
theorem RV.on (hk : ∀ b o, F b → M b = some o → M' b = some o) (hf : ∀ b, F b → F' b) : ∀ {v p : PV}, RV M F v p → RV M' F' v p
  | .tup xs, p, h => by
    rw [RV] at h ⊢
    obtain ⟨ps, e, r⟩ := h
    exact ⟨ps, e, RVs.on hk hf r⟩
  | .bx .lst xs, p, h => by
    rw [RV] at h ⊢
    obtain ⟨a, ps, e, fa, m, r⟩ := h
    exact ⟨a, ps, e, hf a fa, hk a _ fa m, RVs.on hk hf r⟩
  | .bx .dct _, p, h => by rw [RV] at h; exact h.elim; all_goals (intros; contradiction)
  | .bx .set _, p, h => by rw [RV] at h; exact h.elim; all_goals (intros; contradiction)
  | .bx (.ins _ _) _, p, h => by rw [RV] at h; exact h.elim; all_goals (intros; contradiction)
  | .ref _, p, h => by rw [RV] at h; exact h.elim
  | .non, p, h => by rw [RV] at h ⊢; exact h
  | .bl _, p, h => by rw [RV] at h ⊢; exact h
  | .int _, p, h => by rw [RV] at h ⊢; exact h
  | .str _, p, h => by rw [RV] at h ⊢; exact h
  | .ty _, p, h => by rw [RV] at h ⊢; exact h
theorem RVs.on (hk : ∀ b o, F b → M b = some o → M' b = some o) (hf : ∀ b, F b → F' b) : ∀ {vs ps : List PV}, RVs M F vs ps → RVs M' F' vs ps
  | [], p, h => by rw [RVs] at h ⊢; exact h
  | x :: xs, p, h => by
    rw [RVs] at h ⊢
    obtain ⟨q, r, e, h1, h2⟩ := h
    exact ⟨q, r, e, RV.on hk hf h1, RVs.on hk hf h2⟩
end
theorem RVs.nil : RVs M F [] [] := by rw [RVs]
theorem RVs.cons {p v : PV} {ps vs : List PV} (h : RV M F p v) (t : RVs M F ps vs) : RVs M F (p :: ps) (v :: vs) := by
  rw [RVs]; exact ⟨v, vs, rfl, h, t⟩
theorem RVs.length : ∀ {ps vs : List PV}, RVs M F ps vs → ps.length = vs.length
  | [], _, h => by rw [RVs] at h; subst h; rfl
  | x :: xs, _, h => by
    rw [RVs] at h
    obtain ⟨v, r, e, _, q⟩ := h
    subst e
    simp [RVs.length q]
theorem RVs.append : ∀ {ps qs vs us : List PV}, RVs M F ps vs → RVs M F qs us → RVs M F (ps ++ qs) (vs ++ us)
  | [], _, _, _, h, g => by rw [RVs] at h; subst h; exact g
  | x :: xs, qs, _, us, h, g => by
    rw [RVs] at h
    obtain ⟨v, r, e, h1, q⟩ := h
    subst e
    exact .cons h1 (RVs.append q g)
theorem RVs.get : ∀ {ps vs : List PV}, RVs M F ps vs → ∀ {i : Nat} {p : PV}, ps[i]? = some p → ∃ v, vs[i]? = some v ∧ RV M F p v
  | [], _, _, i, p, e => by simp at e
  | x :: xs, _, h, i, p, e => by
    rw [RVs] at h
    obtain ⟨v, r, e', h1, q⟩ := h
    subst e'
    cases i with
    | zero => simp at e; subst e; exact ⟨v, rfl, h1⟩
    | succ i =>
      obtain ⟨u, a, b⟩ := RVs.get q (i := i) (p := p) (by simpa using e)
      exact ⟨u, by simpa using a, b⟩
theorem RVs.set {p v : PV} (r : RV M F p v) : ∀ {ps vs : List PV} (i : Nat), RVs M F ps vs → RVs M F (ps.set i p) (vs.set i v)
  | [], _, _, h => by rw [RVs] at h; subst h; exact .nil
  | x :: xs, _, i, h => by
    rw [RVs] at h
    obtain ⟨u, t, e, h1, q⟩ := h
    subst e
    cases i with
    | zero => exact .cons r q
    | succ i => exact .cons h1 (RVs.set r i q)
theorem RVs.take : ∀ {ps vs : List PV} (n : Nat), RVs M F ps vs → RVs M F (ps.take n) (vs.take n)
  | [], _, n, h => by rw [RVs] at h; subst h; simp [RVs]
  | x :: xs, _, n, h => by
    rw [RVs] at h
    obtain ⟨u, t, e, h1, q⟩ := h
    subst e
    cases n with
    | zero => exact .nil
    | succ n => exact .cons h1 (RVs.take n q)
theorem RVs.drop : ∀ {ps vs : List PV} (n : Nat), RVs M F ps vs → RVs M F (ps.drop n) (vs.drop n)
  | [], _, n, h => by rw [RVs] at h; subst h; simp [RVs]
  | x :: xs, _, n, h => by
    rw [RVs] at h
    obtain ⟨u, t, e, h1, q⟩ := h
    subst e
    cases n with
    | zero => exact .cons h1 q
    | succ n => exact RVs.drop n q
theorem RVs.eraseIdx : ∀ {ps vs : List PV} (n : Nat), RVs M F ps vs → RVs M F (ps.eraseIdx n) (vs.eraseIdx n)
  | [], _, n, h => by rw [RVs] at h; subst h; simp [RVs]
  | x :: xs, _, n, h => by
    rw [RVs] at h
    obtain ⟨u, t, e, h1, q⟩ := h
    subst e
    cases n with
    | zero => exact q
    | succ n => exact .cons h1 (RVs.eraseIdx n q)
theorem RVs.rep {ps vs : List PV} (h : RVs M F ps vs) : ∀ k : Nat, RVs M F (List.replicate k ps).flatten (List.replicate k vs).flatten
  | 0 => .nil
  | k + 1 => by
    rw [List.replicate_succ, List.replicate_succ, List.flatten_cons, List.flatten_cons]
    exact h.append (RVs.rep h k)
theorem RVs.reverse : ∀ {ps vs : List PV}, RVs M F ps vs → RVs M F ps.reverse vs.reverse
  | [], _, h => by rw [RVs] at h; subst h; exact .nil
  | x :: xs, _, h => by
    rw [RVs] at h
    obtain ⟨u, t, e, h1, q⟩ := h
    subst e
    rw [List.reverse_cons, List.reverse_cons]
    exact (RVs.reverse q).append (.cons h1 .nil)
theorem RVs.isEmpty {ps vs : List PV} (h : RVs M F ps vs) : ps.isEmpty = vs.isEmpty := by
  have := h.length
  cases ps <;> cases vs <;> simp_all
theorem RVs.snoc {xs ps : List PV} {x p : PV} (h : RVs M F xs ps) (r : RV M F x p) : RVs M F (xs ++ [x]) (ps ++ [p]) := h.append (.cons r .nil)
/-- where no list is within, a value stands for itself -/
theorem repF_pur : ∀ {v p : PV}, pur v = true → RV M F v p → p = v := by
  exact fun h r => go _ _ h r
where
  go : ∀ (v p : PV), pur v = true → RV M F v p → p = v
  | .tup xs, p, h, r => by
    rw [RV] at r
    obtain ⟨ps, rfl, r⟩ := r
    rw [pur] at h
    rw [gos xs ps h r]
  | .bx _ _, _, h, _ => by rw [pur] at h; cases h
  | .ref _, _, h, _ => by rw [pur] at h; cases h
  | .ty _, _, h, _ => by rw [pur] at h; cases h
  | .non, _, _, r => by rw [RV] at r; exact r
  | .bl _, _, _, r => by rw [RV] at r; exact r
  | .int _, _, _, r => by rw [RV] at r; exact r
  | .str _, _, _, r => by rw [RV] at r; exact r
  gos : ∀ (vs ps : List PV), purs vs = true → RVs M F vs ps → ps = vs
  | [], ps, _, r => by rw [RVs] at r; exact r
  | x :: xs, ps, h, r => by
    rw [RVs] at r
    obtain ⟨p, q, rfl, r1, r2⟩ := r
    rw [purs, Bool.and_eq_true] at h
    rw [go x p h.1 r1, gos xs q h.2 r2]
theorem repFs_pur {vs ps : List PV} (h : purs vs = true) (r : RVs M F vs ps) : ps = vs := repF_pur.gos vs ps h r
theorem repF_self : ∀ {v : PV}, pur v = true → RV M F v v := by
  exact fun h => go _ h
where
  go : ∀ (v : PV), pur v = true → RV M F v v
  | .tup xs, h => by
    rw [RV]
    rw [pur] at h
    exact ⟨xs, rfl, gos xs h⟩
  | .bx _ _, h => by rw [pur] at h; cases h
  | .ref _, h => by rw [pur] at h; cases h
  | .ty _, h => by rw [pur] at h; cases h
  | .non, _ => by rw [RV]
  | .bl _, _ => by rw [RV]
  | .int _, _ => by rw [RV]
  | .str _, _ => by rw [RV]
  gos : ∀ (vs : List PV), purs vs = true → RVs M F vs vs
  | [], _ => .nil
  | x :: xs, h => by
    rw [purs, Bool.and_eq_true] at h
    exact .cons (go x h.1) (gos xs h.2)
theorem repFs_self {vs : List PV} (h : purs vs = true) : RVs M F vs vs := repF_self.gos vs h
end

/-! ## states -/
def OwAt (e : VEnv) (s : PSt) (i : Nat) (a : Addr) : Prop := (∃ b xs, e[i]? = some (some (.ow b xs))) ∧ s[i]? = some (some (.ref a))
def Own (e : VEnv) (s : PSt) : ASet := fun a => ∃ i, OwAt e s i a
structure RS (M : PH) (F : ASet) (e : VEnv) (s : PSt) : Prop where
  len : e.length = s.length
  sh : ∀ (i : Nat) (v : PV), e[i]? = some (some (.sh v)) → ∃ p, s[i]? = some (some p) ∧ RV M F v p
  ow : ∀ (i : Nat) (b : Bool) (xs : List PV), e[i]? = some (some (.ow b xs)) → ∃ a ps, s[i]? = some (some (.ref a)) ∧ M a = some (.lst ps) ∧ RVs M F xs ps ∧ ¬ F a
  sep : ∀ (i j : Nat) (a : Addr), OwAt e s i a → OwAt e s j a → i = j
  nr : NR M
  fr : ∀ a, F a → M a ≠ none
structure Tr (M : PH) (F O : ASet) (M' : PH) (F' O' : ASet) : Prop where
  keep : ∀ b o, M b = some o → ¬ O b → M' b = some o
  there : ∀ b, M b ≠ none → M' b ≠ none
  fsub : ∀ b, F b → F' b
  fnew : ∀ b, F' b → F b ∨ O b ∨ M b = none
  onew : ∀ b, O' b → O b ∨ M b = none
structure Go (M : PH) (F : ASet) (e : VEnv) (s : PSt) (M' : PH) (F' : ASet) (e' : VEnv) (s' : PSt) : Prop where
  tr : Tr M F (Own e s) M' F' (Own e' s')
  pin : ∀ (i : Nat) (xs : List PV), e[i]? = some (some (SV.ow true xs)) → (∃ ys, e'[i]? = some (some (SV.ow true ys))) ∧ s'[i]? = s[i]?
theorem Tr.refl (M : PH) (F O : ASet) : Tr M F O M F O := ⟨fun _ _ h _ => h, fun _ h => h, fun _ h => h, fun _ h => .inl h, fun _ h => .inl h⟩
theorem none_back {M M' : PH} (h : ∀ b, M b ≠ none → M' b ≠ none) {b : Addr} (e : M' b = none) : M b = none := Classical.byContradiction fun z => h b z e
theorem Tr.trans {M M1 M2 : PH} {F F1 F2 O O1 O2 : ASet} (a : Tr M F O M1 F1 O1) (b : Tr M1 F1 O1 M2 F2 O2) : Tr M F O M2 F2 O2 := by
  refine ⟨fun x o e n => b.keep x o (a.keep x o e n) fun h => ?_, fun x h => b.there x (a.there x h), fun x h => b.fsub x (a.fsub x h), fun x h => ?_, fun x h => ?_⟩
  · rcases a.onew x h with h | h
    · exact n h
    · rw [e] at h; cases h
  · rcases b.fnew x h with h | h | h
    · exact a.fnew x h
    · exact .inr (a.onew x h)
    · exact .inr (.inr (none_back a.there h))
  · rcases b.onew x h with h | h
    · exact a.onew x h
    · exact .inr (none_back a.there h)
theorem Go.refl (M : PH) (F : ASet) (e : VEnv) (s : PSt) : Go M F e s M F e s := ⟨.refl _ _ _, fun i xs h => ⟨⟨xs, h⟩, rfl⟩⟩
theorem Go.trans {M M1 M2 : PH} {F F1 F2 : ASet} {e e1 e2 : VEnv} {s s1 s2 : PSt} (a : Go M F e s M1 F1 e1 s1) (b : Go M1 F1 e1 s1 M2 F2 e2 s2) : Go M F e s M2 F2 e2 s2 := by
  refine ⟨a.tr.trans b.tr, fun i xs h => ?_⟩
  obtain ⟨⟨ys, h1⟩, h2⟩ := a.pin i xs h
  obtain ⟨h3, h4⟩ := b.pin i ys h1
  exact ⟨h3, h4.trans h2⟩
section
variable {M M' : PH} {F F' : ASet} {e e' : VEnv} {s s' : PSt}
theorem RS.nfo (R : RS M F e s) {a : Addr} (h : Own e s a) : ¬ F a := by
  obtain ⟨i, ⟨b, xs, h1⟩, h2⟩ := h
  obtain ⟨a', ps, e1, _, _, n⟩ := R.ow i b xs h1
  rw [h2] at e1; cases e1
  exact n
theorem RS.own_some (R : RS M F e s) {a : Addr} (h : Own e s a) : M a ≠ none := by
  obtain ⟨i, ⟨b, xs, h1⟩, h2⟩ := h
  obtain ⟨a', ps, e1, m, _, n⟩ := R.ow i b xs h1
  rw [h2] at e1; cases e1
  rw [m]; exact fun z => (by cases z)
theorem Go.keepF (R : RS M F e s) (G : Go M F e s M' F' e' s') : ∀ b o, F b → M b = some o → M' b = some o := fun b o f m => G.tr.keep b o m fun h => R.nfo h f
theorem RV.go (R : RS M F e s) (G : Go M F e s M' F' e' s') {v p : PV} (h : RV M F v p) : RV M' F' v p := h.on (G.keepF R) G.tr.fsub
theorem RVs.go (R : RS M F e s) (G : Go M F e s M' F' e' s') {v p : List PV} (h : RVs M F v p) : RVs M' F' v p := h.on (G.keepF R) G.tr.fsub
/-- new things only -/
structure Fr (M : PH) (F : ASet) (M' : PH) (F' : ASet) : Prop where
  keep : ∀ b o, M b = some o → M' b = some o
  fsub : ∀ b, F b → F' b
  fnew : ∀ b, F' b → F b ∨ M b = none
  nr : NR M'
  fr : ∀ a, F' a → M' a ≠ none
theorem Fr.refl (nr : NR M) (fr : ∀ a, F a → M a ≠ none) : Fr M F M F := ⟨fun _ _ h => h, fun _ h => h, fun _ h => .inl h, nr, fr⟩
theorem RS.fr0 (R : RS M F e s) : Fr M F M F := .refl R.nr R.fr
theorem RS.fresh (R : RS M F e s) (f : Fr M F M' F') : RS M' F' e s := by
  refine ⟨R.len, fun i v h => ?_, fun i b xs h => ?_, R.sep, f.nr, f.fr⟩
  · obtain ⟨p, h1, h2⟩ := R.sh i v h
    exact ⟨p, h1, h2.on (fun b o _ m => f.keep b o m) f.fsub⟩
  · obtain ⟨a, ps, h1, h2, h3, h4⟩ := R.ow i b xs h
    refine ⟨a, ps, h1, f.keep _ _ h2, h3.on (fun b o _ m => f.keep b o m) f.fsub, fun z => ?_⟩
    rcases f.fnew a z with z | z
    · exact h4 z
    · rw [h2] at z; cases z
theorem RS.fresh_go (R : RS M F e s) (f : Fr M F M' F') : Go M F e s M' F' e s :=
  ⟨⟨fun b o h _ => f.keep b o h, fun b h z => (by
    cases q : M b with
    | none => exact h q
    | some o => rw [f.keep b o q] at z; cases z), f.fsub, fun b h => (f.fnew b h).elim .inl fun z => .inr (.inr z), fun _ h => .inl h⟩, fun i xs h => ⟨⟨xs, h⟩, rfl⟩⟩
theorem nr_none (nr : NR M) {D : Addr} (n : ¬ Wr M D) : M D = none := nr.none n
/-- a new list that stays -/
theorem fr_new (nr : NR M) (fr : ∀ a, F a → M a ≠ none) {D : Addr} (n : M D = none) {ps : List PV} : Fr M F (pupd M D (.lst ps)) (fun b => F b ∨ b = D) := by
  refine ⟨fun b o h => ?_, fun b h => .inl h, fun b h => h.elim .inl fun h => .inr (h ▸ n), nr.upd, fun a h => ?_⟩
  · rw [pupd_ne fun z => by rw [z, n] at h; cases h]; exact h
  · by_cases z : a = D
    · rw [z, pupd_same]; exact fun z => (by cases z)
    · rw [pupd_ne z]; exact h.elim (fr a) fun h => (z h).elim
theorem repF_new {D : Addr} {xs ps : List PV} (n : M D = none) (h : RVs M F xs ps) : RV (pupd M D (.lst ps)) (fun b => F b ∨ b = D) (.lst xs) (.ref D) := by
  rw [RV]
  refine ⟨D, ps, rfl, .inr rfl, pupd_same, h.on (fun b o _ m => ?_) fun b h => .inl h⟩
  rw [pupd_ne fun z => by rw [z, n] at m; cases m]; exact m
/-- .. that is one's own -/
theorem fr_lay (nr : NR M) (fr : ∀ a, F a → M a ≠ none) {D : Addr} (n : M D = none) {ps : List PV} : Fr M F (pupd M D (.lst ps)) F := by
  refine ⟨fun b o h => ?_, fun b h => h, fun b h => .inl h, nr.upd, fun a h => ?_⟩
  · rw [pupd_ne fun z => by rw [z, n] at h; cases h]; exact h
  · rw [pupd_ne fun z => fr a h (by rw [z]; exact n)]; exact fr a h
/-- may a name be stored -/
def free (e : VEnv) (i : Nat) : Bool := match e[i]? with
  | some (some (.ow true _)) => false
  | some _ => true
  | none => false
theorem free_lt {i : Nat} (h : free e i = true) : i < e.length := by
  unfold free at h
  rcases Nat.lt_or_ge i e.length with z | z
  · exact z
  · rw [List.getElem?_eq_none z] at h; cases h
theorem set_get {α : Type} {l : List α} {i j : Nat} {x y : α} (h : (l.set i x)[j]? = some y) : (j = i ∧ x = y) ∨ (j ≠ i ∧ l[j]? = some y) := by
  by_cases z : j = i
  · subst z
    have hl : j < l.length := by
      have := (List.getElem?_eq_some_iff.mp h).1
      simpa using this
    rw [List.getElem?_set_self hl] at h
    cases h
    exact .inl ⟨rfl, rfl⟩
  · rw [List.getElem?_set_ne (Ne.symm z)] at h
    exact .inr ⟨z, h⟩
theorem set_own {i : Nat} {u : Option SV} {p : Option PV} {a : Addr} (h : Own (e.set i u) (s.set i p) a) : ((∃ b xs, u = some (.ow b xs)) ∧ p = some (.ref a)) ∨ ∃ j, j ≠ i ∧ OwAt e s j a := by
  obtain ⟨j, ⟨b, xs, h1⟩, h2⟩ := h
  rcases set_get h1 with ⟨rfl, z⟩ | ⟨n, z⟩
  · rcases set_get h2 with ⟨_, z2⟩ | ⟨n2, _⟩
    · exact .inl ⟨⟨b, xs, z⟩, z2⟩
    · exact (n2 rfl).elim
  · rcases set_get h2 with ⟨n2, _⟩ | ⟨_, z2⟩
    · exact (n n2).elim
    · exact .inr ⟨j, n, ⟨b, xs, z⟩, z2⟩
theorem owat_set {i j : Nat} {u : Option SV} {p : Option PV} {a : Addr} (h : OwAt (e.set i u) (s.set i p) j a) : (j = i ∧ (∃ b xs, u = some (.ow b xs)) ∧ p = some (.ref a)) ∨ (j ≠ i ∧ OwAt e s j a) := by
  obtain ⟨⟨b, xs, h1⟩, h2⟩ := h
  rcases set_get h1 with ⟨rfl, z⟩ | ⟨n, z⟩
  · rcases set_get h2 with ⟨_, z2⟩ | ⟨n2, _⟩
    · exact .inl ⟨rfl, ⟨b, xs, z⟩, z2⟩
    · exact (n2 rfl).elim
  · rcases set_get h2 with ⟨n2, _⟩ | ⟨_, z2⟩
    · exact (n n2).elim
    · exact .inr ⟨n, ⟨b, xs, z⟩, z2⟩
theorem pin_set {i : Nat} {u : Option SV} {p : Option PV} (f : free e i = true) : ∀ (j : Nat) (xs : List PV), e[j]? = some (some (.ow true xs)) → (∃ ys, (e.set i u)[j]? = some (some (.ow true ys))) ∧ (s.set i p)[j]? = s[j]? := by
  intro j xs h
  have n : i ≠ j := fun z => by
    subst z
    unfold free at f
    rw [h] at f; cases f
  exact ⟨⟨xs, by rw [List.getElem?_set_ne n]; exact h⟩, by rw [List.getElem?_set_ne n]⟩
theorem RS.setSh (R : RS M F e s) {i : Nat} (f : free e i = true) {v p : PV} (r : RV M F v p) : RS M F (e.set i (some (.sh v))) (s.set i (some p)) ∧ Go M F e s M F (e.set i (some (.sh v))) (s.set i (some p)) := by
  refine ⟨⟨by simp [R.len], fun j u h => ?_, fun j b xs h => ?_, fun j k a h1 h2 => ?_, R.nr, R.fr⟩, ⟨⟨fun _ _ h _ => h, fun _ h => h, fun _ h => h, fun _ h => .inl h, fun b h => ?_⟩, pin_set f⟩⟩
  · rcases set_get h with ⟨rfl, z⟩ | ⟨n, z⟩
    · cases z
      exact ⟨p, List.getElem?_set_self (by rw [← R.len]; exact free_lt f), r⟩
    · obtain ⟨q, h1, h2⟩ := R.sh j u z
      exact ⟨q, by rw [List.getElem?_set_ne (Ne.symm n)]; exact h1, h2⟩
  · rcases set_get h with ⟨rfl, z⟩ | ⟨n, z⟩
    · cases z
    · obtain ⟨a, ps, h1, h2⟩ := R.ow j b xs z
      exact ⟨a, ps, by rw [List.getElem?_set_ne (Ne.symm n)]; exact h1, h2⟩
  · rcases owat_set h1 with ⟨_, ⟨b, xs, z⟩, _⟩ | ⟨_, z1⟩
    · cases z
    · rcases owat_set h2 with ⟨_, ⟨b, xs, z⟩, _⟩ | ⟨_, z2⟩
      · cases z
      · exact R.sep j k a z1 z2
  · rcases set_own h with ⟨⟨c, xs, z⟩, _⟩ | ⟨j, _, z⟩
    · cases z
    · exact .inl ⟨j, z⟩
/-- a name is forgotten -/
theorem RS.setN (R : RS M F e s) {i : Nat} (p : Option PV) (f : free e i = true) : RS M F (e.set i none) (s.set i p) ∧ Go M F e s M F (e.set i none) (s.set i p) := by
  refine ⟨⟨by simp [R.len], fun j u h => ?_, fun j b xs h => ?_, fun j k a h1 h2 => ?_, R.nr, R.fr⟩, ⟨⟨fun _ _ h _ => h, fun _ h => h, fun _ h => h, fun _ h => .inl h, fun b h => ?_⟩, pin_set f⟩⟩
  · rcases set_get h with ⟨rfl, z⟩ | ⟨n, z⟩
    · cases z
    · obtain ⟨q, h1, h2⟩ := R.sh j u z
      exact ⟨q, by rw [List.getElem?_set_ne (Ne.symm n)]; exact h1, h2⟩
  · rcases set_get h with ⟨rfl, z⟩ | ⟨n, z⟩
    · cases z
    · obtain ⟨a, ps, h1, h2⟩ := R.ow j b xs z
      exact ⟨a, ps, by rw [List.getElem?_set_ne (Ne.symm n)]; exact h1, h2⟩
  · rcases owat_set h1 with ⟨_, ⟨b, xs, z⟩, _⟩ | ⟨_, z1⟩
    · cases z
    · rcases owat_set h2 with ⟨_, ⟨b, xs, z⟩, _⟩ | ⟨_, z2⟩
      · cases z
      · exact R.sep j k a z1 z2
  · rcases set_own h with ⟨⟨c, xs, z⟩, _⟩ | ⟨j, _, z⟩
    · cases z
    · exact .inl ⟨j, z⟩
/-- a list of one's own stays as it is from now on -/
theorem RS.frz (R : RS M F e s) {i : Nat} {xs : List PV} (h : e[i]? = some (some (.ow false xs))) : ∃ a, s[i]? = some (some (.ref a)) ∧ RS M (fun b => F b ∨ b = a) (e.set i (some (.sh (PV.lst xs)))) s ∧ Go M F e s M (fun b => F b ∨ b = a) (e.set i (some (.sh (PV.lst xs)))) s ∧ RV M (fun b => F b ∨ b = a) (PV.lst xs) (.ref a) := by
  obtain ⟨a, ps, h1, h2, h3, h4⟩ := R.ow i false xs h
  have hi : i < e.length := (List.getElem?_eq_some_iff.mp h).1
  have rv : RV M (fun b => F b ∨ b = a) (PV.lst xs) (.ref a) := by
    rw [RV]; exact ⟨a, ps, rfl, .inr rfl, h2, h3.on (fun _ _ _ m => m) fun _ h => .inl h⟩
  have ow1 : ∀ j c, OwAt (e.set i (some (.sh (PV.lst xs)))) s j c → j ≠ i ∧ OwAt e s j c := fun j c ⟨⟨b2, zs, z1⟩, z2⟩ => by
    rcases set_get z1 with ⟨_, z⟩ | ⟨n, z⟩
    · cases z
    · exact ⟨n, ⟨b2, zs, z⟩, z2⟩
  refine ⟨a, h1, ⟨by simp [R.len], fun j u z => ?_, fun j b2 zs z => ?_, fun j k c z1 z2 => R.sep j k c (ow1 j c z1).2 (ow1 k c z2).2, R.nr, fun c fc => ?_⟩, ⟨⟨fun _ _ h _ => h, fun _ h => h, fun _ h => .inl h, fun c fc => ?_, fun c ⟨j, z⟩ => .inl ⟨j, (ow1 j c z).2⟩⟩, fun j zs z => ?_⟩, rv⟩
  · rcases set_get z with ⟨ez, w⟩ | ⟨n, z⟩
    · subst ez; cases w; exact ⟨_, h1, rv⟩
    · obtain ⟨q, z1, z2⟩ := R.sh j u z
      exact ⟨q, z1, z2.on (fun _ _ _ m => m) fun _ h => .inl h⟩
  · rcases set_get z with ⟨_, w⟩ | ⟨n, z⟩
    · cases w
    · obtain ⟨c, us, z1, z2, z3, z4⟩ := R.ow j b2 zs z
      refine ⟨c, us, z1, z2, z3.on (fun _ _ _ m => m) fun _ h => .inl h, fun q => ?_⟩
      rcases q with q | q
      · exact z4 q
      · exact n (R.sep j i c ⟨⟨b2, zs, z⟩, z1⟩ ⟨⟨false, xs, h⟩, by rw [q]; exact h1⟩)
  · rcases fc with fc | fc
    · exact R.fr c fc
    · rw [fc, h2]; exact fun z => (by cases z)
  · rcases fc with fc | fc
    · exact .inl fc
    · exact .inr (.inl ⟨i, ⟨false, xs, h⟩, by rw [fc]; exact h1⟩)
  · have n : i ≠ j := fun q => by rw [q, z] at h; cases h
    exact ⟨⟨zs, by rw [List.getElem?_set_ne n]; exact z⟩, rfl⟩
/-- a list of one's own comes to a name -/
theorem RS.setOw (R : RS M F e s) {i : Nat} (f : free e i = true) {D : Addr} {xs ps : List PV} (m : M D = some (.lst ps)) (r : RVs M F xs ps) (nf : ¬ F D) (no : ¬ Own e s D) : RS M F (e.set i (some (.ow false xs))) (s.set i (some (.ref D))) := by
  refine ⟨by simp [R.len], fun j u h => ?_, fun j b ys h => ?_, fun j k a h1 h2 => ?_, R.nr, R.fr⟩
  · rcases set_get h with ⟨rfl, z⟩ | ⟨n, z⟩
    · cases z
    · obtain ⟨q, h1, h2⟩ := R.sh j u z
      exact ⟨q, by rw [List.getElem?_set_ne (Ne.symm n)]; exact h1, h2⟩
  · rcases set_get h with ⟨rfl, z⟩ | ⟨n, z⟩
    · cases z
      exact ⟨D, ps, List.getElem?_set_self (by rw [← R.len]; exact free_lt f), m, r, nf⟩
    · obtain ⟨a, ps, h1, h2⟩ := R.ow j b ys z
      exact ⟨a, ps, by rw [List.getElem?_set_ne (Ne.symm n)]; exact h1, h2⟩
  · rcases owat_set h1 with ⟨e1, _, z⟩ | ⟨n1, z1⟩
    · rcases owat_set h2 with ⟨e2, _, z2⟩ | ⟨_, z2⟩
      · rw [e1, e2]
      · cases z; exact (no ⟨k, z2⟩).elim
    · rcases owat_set h2 with ⟨e2, _, z2⟩ | ⟨_, z2⟩
      · cases z2; exact (no ⟨j, z1⟩).elim
      · exact R.sep j k a z1 z2
/-- .. is changed -/
theorem RS.upd (R : RS M F e s) {i : Nat} {b : Bool} {xs ys ps : List PV} {a : Addr} (h : e[i]? = some (some (.ow b xs))) (ea : s[i]? = some (some (.ref a))) (r : RVs M F ys ps) :
    RS (pupd M a (.lst ps)) F (e.set i (some (.ow b ys))) s ∧ Go M F e s (pupd M a (.lst ps)) F (e.set i (some (.ow b ys))) s := by
  obtain ⟨a', qs, h1, h2, h3, h4⟩ := R.ow i b xs h
  rw [ea] at h1; cases h1
  have hi : i < e.length := (List.getElem?_eq_some_iff.mp h).1
  have kp : ∀ c o, F c → M c = some o → pupd M a (.lst ps) c = some o := fun c o fc m => by
    rw [pupd_ne fun z => h4 (by rw [← z]; exact fc)]; exact m
  have ow1 : ∀ j c, OwAt (e.set i (some (.ow b ys))) s j c → OwAt e s j c := fun j c ⟨⟨b2, zs, z1⟩, z2⟩ => by
    rcases set_get z1 with ⟨rfl, _⟩ | ⟨n, z⟩
    · exact ⟨⟨b, xs, h⟩, z2⟩
    · exact ⟨⟨b2, zs, z⟩, z2⟩
  refine ⟨⟨by simp [R.len], fun j u z => ?_, fun j b2 zs z => ?_, fun j k c z1 z2 => R.sep j k c (ow1 j c z1) (ow1 k c z2), R.nr.upd, fun c fc => ?_⟩, ⟨⟨fun c o m n => ?_, fun c m => ?_, fun _ h => h, fun _ h => .inl h, fun c z => .inl ?_⟩, fun j zs z => ?_⟩⟩
  · rcases set_get z with ⟨_, z⟩ | ⟨n, z⟩
    · cases z
    · obtain ⟨q, z1, z2⟩ := R.sh j u z
      exact ⟨q, z1, z2.on kp fun _ h => h⟩
  · rcases set_get z with ⟨ez, w⟩ | ⟨n, z⟩
    · subst ez
      cases w
      exact ⟨a, ps, ea, pupd_same, r.on kp fun _ h => h, h4⟩
    · obtain ⟨c, us, z1, z2, z3, z4⟩ := R.ow j b2 zs z
      refine ⟨c, us, z1, ?_, z3.on kp fun _ h => h, z4⟩
      rw [pupd_ne fun q => n (R.sep j i c ⟨⟨b2, zs, z⟩, z1⟩ ⟨⟨b, xs, h⟩, by rw [q]; exact ea⟩)]; exact z2
  · by_cases q : c = a
    · rw [q, pupd_same]; exact fun z => (by cases z)
    · rw [pupd_ne q]; exact R.fr c fc
  · rw [pupd_ne fun q => n ⟨i, ⟨b, xs, h⟩, by rw [q]; exact ea⟩]; exact m
  · by_cases q : c = a
    · rw [q, pupd_same]; exact fun z => (by cases z)
    · rw [pupd_ne q]; exact m
  · obtain ⟨j, z⟩ := z
    exact ⟨j, ow1 j c z⟩
  · by_cases q : i = j
    · subst q
      rw [h] at z; cases z
      exact ⟨⟨ys, List.getElem?_set_self hi⟩, rfl⟩
    · exact ⟨⟨zs, by rw [List.getElem?_set_ne q]; exact z⟩, rfl⟩
end
end PL
set_option autoImplicit false
namespace PL
open PySem PySem.Spec L2
open PyProof.Rows hiding St

/-! ## results of what is reckoned -/
inductive TV where
  | sh (v : PV)
  | al (i : Nat)
inductive Rs (α : Type) where
  | ok (a : α) (e : VEnv)
  | ex (c : Nat) (fs : List (Str × PV)) (e : VEnv)
  | no
def Rs.bind {α β : Type} (r : Rs α) (f : α → VEnv → Rs β) : Rs β := match r with
  | .ok a e => f a e
  | .ex c fs e => .ex c fs e
  | .no => .no
def Rs.ofO {α : Type} (o : Option α) (e : VEnv) : Rs α := match o with
  | some a => .ok a e
  | none => .no
def RT (M : PH) (F : ASet) (s : PSt) : TV → PV → Prop
  | .sh v, p => RV M F v p
  | .al i, p => ∃ a, p = .ref a ∧ s[i]? = some (some (.ref a))
def RTs (M : PH) (F : ASet) (s : PSt) : List TV → List PV → Prop
  | [], ps => ps = []
  | t :: ts, ps => ∃ p r, ps = p :: r ∧ RT M F s t p ∧ RTs M F s ts r
/-- a value that is read: what it stands for, in a list of one's own too -/
def VV (M : PH) (F : ASet) (v p : PV) : Prop := RV M F v p ∨ ∃ xs a ps, v = PV.lst xs ∧ p = .ref a ∧ M a = some (.lst ps) ∧ RVs M F xs ps
def VVs (M : PH) (F : ASet) : List PV → List PV → Prop
  | [], ps => ps = []
  | t :: ts, ps => ∃ p r, ps = p :: r ∧ VV M F t p ∧ VVs M F ts r
def view (e : VEnv) : TV → Option PV
  | .sh v => some v
  | .al i => match e[i]? with
    | some (some (.ow _ xs)) => some (PV.lst xs)
    | _ => none
def views (e : VEnv) : List TV → Option (List PV)
  | [] => some []
  | t :: ts => match view e t, views e ts with
    | some v, some vs => some (v :: vs)
    | _, _ => none
def shOf : TV → Option PV
  | .sh v => some v
  | .al _ => none
def shsOf : List TV → Option (List PV)
  | [] => some []
  | .sh v :: ts => match shsOf ts with
    | some vs => some (v :: vs)
    | none => none
  | .al _ :: _ => none
section
variable {M M' : PH} {F F' : ASet} {e e' : VEnv} {s s' : PSt}
theorem RT.go (R : RS M F e s) (G : Go M F e s M' F' e' s') {t : TV} {p : PV} (h : RT M F s t p) : RT M' F' s t p := by
  cases t with
  | sh v => exact RV.go R G h
  | al i => exact h
theorem RTs.go (R : RS M F e s) (G : Go M F e s M' F' e' s') : ∀ {ts : List TV} {ps : List PV}, RTs M F s ts ps → RTs M' F' s ts ps
  | [], _, h => h
  | t :: ts, _, ⟨p, r, e, h1, h2⟩ => ⟨p, r, e, RT.go R G h1, RTs.go R G h2⟩
theorem view_rep (R : RS M F e s) {t : TV} {p v : PV} (h : RT M F s t p) (hv : view e t = some v) : VV M F v p := by
  cases t with
  | sh u => cases hv; exact .inl h
  | al i =>
    obtain ⟨a, rfl, h⟩ := h
    unfold view at hv
    dsimp only at hv
    split at hv
    · rename_i b xs ei
      cases hv
      obtain ⟨a', ps, h1, h2, h3, _⟩ := R.ow i b xs ei
      rw [h] at h1; cases h1
      exact .inr ⟨xs, _, ps, rfl, rfl, h2, h3⟩
    · cases hv
theorem views_rep (R : RS M F e s) : ∀ {ts : List TV} {ps vs : List PV}, RTs M F s ts ps → views e ts = some vs → VVs M F vs ps
  | [], ps, vs, h, hv => by cases hv; exact h
  | t :: ts, ps, vs, ⟨p, r, e1, h1, h2⟩, hv => by
    unfold views at hv
    split at hv
    · rename_i v vs' e2 e3
      cases hv
      exact ⟨p, r, e1, view_rep R h1 e2, views_rep R h2 e3⟩
    · cases hv
theorem shs_rep : ∀ {ts : List TV} {ps vs : List PV}, RTs M F s ts ps → shsOf ts = some vs → RVs M F vs ps
  | [], ps, vs, h, hv => by cases hv; rw [RVs]; exact h
  | .al _ :: _, _, _, _, hv => by cases hv
  | .sh v :: ts, ps, vs, ⟨p, r, e1, h1, h2⟩, hv => by
    unfold shsOf at hv
    split at hv
    · rename_i vs' e2
      cases hv
      subst e1
      exact .cons h1 (shs_rep h2 e2)
    · cases hv
theorem VV.lst {xs : List PV} {p : PV} (h : VV M F (PV.lst xs) p) : ∃ a ps, p = .ref a ∧ M a = some (.lst ps) ∧ RVs M F xs ps := by
  rcases h with h | ⟨ys, a, ps, e, h1, h2, h3⟩
  · unfold PV.lst at h
    rw [RV] at h
    obtain ⟨a, ps, h1, _, h2, h3⟩ := h
    exact ⟨a, ps, h1, h2, h3⟩
  · cases e; exact ⟨a, ps, h1, h2, h3⟩
theorem VV.tup {xs : List PV} {p : PV} (h : VV M F (.tup xs) p) : ∃ ps, p = .tup ps ∧ RVs M F xs ps := by
  rcases h with h | ⟨ys, a, ps, e, h1, h2, h3⟩
  · rw [RV] at h; exact h
  · cases e
theorem VV.pur {v p : PV} (z : PL.pur v = true) (h : VV M F v p) : p = v := by
  rcases h with h | ⟨ys, a, ps, e, h1, h2, h3⟩
  · exact repF_pur z h
  · subst e; unfold PV.lst at z; rw [PL.pur] at z; cases z
theorem VV.int {i : Int} {p : PV} (h : VV M F (.int i) p) : p = .int i := h.pur (by rw [PL.pur] <;> (intros; contradiction))
theorem VV.str {i : Str} {p : PV} (h : VV M F (.str i) p) : p = .str i := h.pur (by rw [PL.pur] <;> (intros; contradiction))
theorem VV.bl {i : Bool} {p : PV} (h : VV M F (.bl i) p) : p = .bl i := h.pur (by rw [PL.pur] <;> (intros; contradiction))
theorem VV.non {p : PV} (h : VV M F .non p) : p = .non := h.pur (by rw [PL.pur] <;> (intros; contradiction))
theorem VV.ty {n : String} {p : PV} (h : VV M F (.ty n) p) : p = .ty n := by
  rcases h with h | ⟨ys, a, ps, e, h1, h2, h3⟩
  · rw [RV] at h; exact h
  · cases e
end

section
variable (cm : Nat → Addr)
def OkE {α : Type} (EP : PX) (s : PSt) (M : PH) (F : ASet) (e : VEnv) (r : Rs α) (K : α → VEnv → PH → ASet → Prop) : Prop := match r with
  | .ok a e' => ∀ M' F', RS M' F' e' s → Go M F e s M' F' e' s → K a e' M' F'
  | .ex c fs e' => ∀ ps M' F', RS M' F' e' s → Go M F e s M' F' e' s → RVs M' F' (fs.map (·.2)) ps → EP (.ref (cm c)) ((fs.map (·.1)).zip ps) s M'
  | .no => False
def wE (f : VEnv → Rs TV) : WE := fun EP s M Q => ∃ e F, RS M F e s ∧ OkE cm EP s M F e (f e) fun t e' M' F' => ∀ p, RT M' F' s t p → Q p M'
def wA (f : VEnv → Rs (List TV)) : WA := fun EP s M Q => ∃ e F, RS M F e s ∧ OkE cm EP s M F e (f e) fun t e' M' F' => ∀ p, RTs M' F' s t p → Q p M'
def wT (f : VEnv → Rs Bool) : WT := fun EP s M Q => ∃ e F, RS M F e s ∧ OkE cm EP s M F e (f e) fun t e' M' F' => Q t M'
def wL (f : VEnv → Rs (List PV)) : WL := fun EP s M Q => ∃ e F, RS M F e s ∧ OkE cm EP s M F e (f e) fun t e' M' F' => ∀ p, RVs M' F' t p → Q p M'
def wO (f : VEnv → Rs (Option Int)) : WO := fun EP s M Q => ∃ e F, RS M F e s ∧ OkE cm EP s M F e (f e) fun t e' M' F' => Q t M'
variable {cm}
theorem OkE.mono {α : Type} {EP : PX} {s : PSt} {M : PH} {F : ASet} {e : VEnv} {r : Rs α} {K K' : α → VEnv → PH → ASet → Prop} (h : OkE cm EP s M F e r K)
    (k : ∀ a e' M' F', RS M' F' e' s → Go M F e s M' F' e' s → K a e' M' F' → K' a e' M' F') : OkE cm EP s M F e r K' := by
  cases r with
  | ok a e' => exact fun M' F' R G => k a e' M' F' R G (h M' F' R G)
  | ex c fs e' => exact h
  | no => exact h
theorem OkE.bind {α β : Type} {EP : PX} {s : PSt} {M : PH} {F : ASet} {e : VEnv} {r : Rs α} {g : α → VEnv → Rs β} {K : β → VEnv → PH → ASet → Prop} (h : OkE cm EP s M F e (r.bind g) K) :
    OkE cm EP s M F e r fun a e1 M1 F1 => OkE cm EP s M1 F1 e1 (g a e1) K := by
  cases r with
  | ok a e1 =>
    intro M1 F1 R1 G1
    have h : OkE cm EP s M F e (g a e1) K := h
    show OkE cm EP s M1 F1 e1 (g a e1) K
    cases q : g a e1 with
    | ok b e2 => rw [q] at h; exact fun M2 F2 R2 G2 => h M2 F2 R2 (G1.trans G2)
    | ex c fs e2 => rw [q] at h; exact fun ps M2 F2 R2 G2 => h ps M2 F2 R2 (G1.trans G2)
    | no => rw [q] at h; exact h
  | ex c fs e1 => exact h
  | no => exact h
theorem OkE.ofO {α : Type} {EP : PX} {s : PSt} {M : PH} {F : ASet} {e : VEnv} {o : Option α} {K : α → VEnv → PH → ASet → Prop} (h : OkE cm EP s M F e (.ofO o e) K) : ∃ a, o = some a ∧ ∀ M' F', RS M' F' e s → Go M F e s M' F' e s → K a e M' F' := by
  cases o with
  | none => exact h.elim
  | some a => exact ⟨a, rfl, h⟩
/-- .. of things that are new -/
theorem OkE.fresh {α : Type} {EP : PX} {s : PSt} {M : PH} {F : ASet} {e : VEnv} {a : α} {K : α → VEnv → PH → ASet → Prop} (R : RS M F e s) (h : ∀ M' F', RS M' F' e s → Go M F e s M' F' e s → K a e M' F') {M' : PH} {F' : ASet} (f : Fr M F M' F') : K a e M' F' := h M' F' (R.fresh f) (R.fresh_go f)
theorem wE_mono {f : VEnv → Rs TV} : MonoE (wE cm f) := fun EP s M Q Q' k ⟨e, F, R, h⟩ => ⟨e, F, R, h.mono fun _ _ _ _ _ _ z p hp => k _ _ (z p hp)⟩
theorem wA_mono {f : VEnv → Rs (List TV)} : MonoA (wA cm f) := fun EP s M Q Q' k ⟨e, F, R, h⟩ => ⟨e, F, R, h.mono fun _ _ _ _ _ _ z p hp => k _ _ (z p hp)⟩
theorem wT_mono {f : VEnv → Rs Bool} : MonoT (wT cm f) := fun EP s M Q Q' k ⟨e, F, R, h⟩ => ⟨e, F, R, h.mono fun _ _ _ _ _ _ z => k _ _ z⟩
theorem wL_mono {f : VEnv → Rs (List PV)} : MonoA (wL cm f) := fun EP s M Q Q' k ⟨e, F, R, h⟩ => ⟨e, F, R, h.mono fun _ _ _ _ _ _ z p hp => k _ _ (z p hp)⟩
theorem wO_mono {f : VEnv → Rs (Option Int)} : MonoO (wO cm f) := fun EP s M Q Q' k ⟨e, F, R, h⟩ => ⟨e, F, R, h.mono fun _ _ _ _ _ _ z => k _ _ z⟩
section
variable {X : Cx} {W : WX} {pos : Pos}
theorem ve_of {x : Expr} {w : WE} {f : VEnv → Rs TV} (h : EE X W x w) (k : ∀ EP s M Q, wE cm f EP s M Q → w EP s M Q) : EE X W x (wE cm f) :=
  ⟨wE_mono, pe_weak h.run fun σ H Q ⟨EP, s, M, c, q⟩ => ⟨EP, s, M, c, k _ _ _ _ q⟩⟩
theorem va_of {x : List Expr} {w : WA} {f : VEnv → Rs (List TV)} (h : EA X W x w) (k : ∀ EP s M Q, wA cm f EP s M Q → w EP s M Q) : EA X W x (wA cm f) :=
  ⟨wA_mono, pa_weak h.run fun σ H Q ⟨EP, s, M, c, q⟩ => ⟨EP, s, M, c, k _ _ _ _ q⟩⟩
theorem vt_of {x : Expr} {w : WT} {f : VEnv → Rs Bool} (h : ET X W x w) (k : ∀ EP s M Q, wT cm f EP s M Q → w EP s M Q) : ET X W x (wT cm f) :=
  ⟨wT_mono, pt_weak h.run fun σ H Q ⟨EP, s, M, c, q⟩ => ⟨EP, s, M, c, k _ _ _ _ q⟩⟩
theorem vw_of {x : Expr} {w : WT} {f : VEnv → Rs Bool} (h : EW X W x w) (k : ∀ EP s M Q, wT cm f EP s M Q → w EP s M Q) : EW X W x (wT cm f) :=
  ⟨wT_mono, pw_weak h.run fun σ H Q ⟨EP, s, M, c, q⟩ => ⟨EP, s, M, c, k _ _ _ _ q⟩⟩
theorem vl_of {x : Expr} {w : WL} {f : VEnv → Rs (List PV)} (h : EL X W x w) (k : ∀ EP s M Q, wL cm f EP s M Q → w EP s M Q) : EL X W x (wL cm f) :=
  ⟨wL_mono, pe_weak h.run fun σ H Q ⟨EP, s, M, c, q⟩ => ⟨EP, s, M, c, k _ _ _ _ q⟩⟩
theorem vo_of {x : Option Expr} {w : WO} {f : VEnv → Rs (Option Int)} (h : EO X W x w) (k : ∀ EP s M Q, wO cm f EP s M Q → w EP s M Q) : EO X W x (wO cm f) :=
  ⟨wO_mono, po_weak h.run fun σ H Q ⟨EP, s, M, c, q⟩ => ⟨EP, s, M, c, k _ _ _ _ q⟩⟩

/-! ## names, constants, displays -/
def fVar (i : Nat) : VEnv → Rs TV := fun e => match e[i]? with
  | some (some (.sh v)) => .ok (.sh v) e
  | some (some (.ow _ _)) => .ok (.al i) e
  | _ => .no
def fC (v : PV) : VEnv → Rs TV := fun e => .ok (.sh v) e
def fNil : VEnv → Rs (List TV) := fun e => .ok [] e
def fCons (f : VEnv → Rs TV) (g : VEnv → Rs (List TV)) : VEnv → Rs (List TV) := fun e => (f e).bind fun t e1 => (g e1).bind fun ts e2 => .ok (t :: ts) e2
def fTup (g : VEnv → Rs (List TV)) : VEnv → Rs TV := fun e => (g e).bind fun ts e1 => .ofO (match shsOf ts with
  | some vs => if vs.length ≤ sizeLine then some (.sh (.tup vs)) else none
  | none => none) e1
def lDisp (g : VEnv → Rs (List TV)) : VEnv → Rs (List PV) := fun e => (g e).bind fun ts e1 => .ofO (match shsOf ts with
  | some vs => if vs.length ≤ sizeLine then some vs else none
  | none => none) e1
def fNew (g : VEnv → Rs (List PV)) : VEnv → Rs TV := fun e => (g e).bind fun xs e1 => .ok (.sh (PV.lst xs)) e1
theorem ve_var (i : Nat) {x : Str} (hN : X.N[i]? = some x := by rfl) (hv : Vis X.env.scope x := by first | exact Or.inl rfl | exact Or.inr (Or.inl rfl) | exact Or.inr (Or.inr rfl)) (hd : (x == ("__debug__" : Str)) = false := by decide) (hcd : (x == ("__classdict__" : Str)) = false := by decide) : EE X W (.Name x pos) (wE cm (fVar i)) := by
  refine ve_of (ee_var i hN hv hd hcd) ?_
  rintro EP s M Q ⟨e, F, R, h⟩
  unfold fVar at h
  split at h
  · rename_i v hv
    obtain ⟨p, h1, h2⟩ := R.sh i v hv
    exact wVar_i h1 (h M F R (.refl _ _ _ _) p h2)
  · rename_i b xs hv
    obtain ⟨a, ps, h1, _⟩ := R.ow i b xs hv
    exact wVar_i h1 (h M F R (.refl _ _ _ _) _ ⟨a, rfl, h1⟩)
  · exact h.elim
theorem ve_c {x : Expr} {v : PV} (h : EE X W x (wC v)) (hp : ∀ M F, RV M F v v) : EE X W x (wE cm (fC v)) := by
  refine ve_of h ?_
  rintro EP s M Q ⟨e, F, R, h⟩
  exact h M F R (.refl _ _ _ _) v (hp _ _)
theorem ve_int {i j} : EE X W (.Constant (.int i) j pos) (wE cm (fC (.int i))) := ve_c ee_int fun _ _ => by rw [RV]
theorem ve_bl {i j} : EE X W (.Constant (.bool i) j pos) (wE cm (fC (.bl i))) := ve_c ee_bl fun _ _ => by rw [RV]
theorem ve_non {j} : EE X W (.Constant .none j pos) (wE cm (fC .non)) := ve_c ee_non fun _ _ => by rw [RV]
theorem ve_str {i j} : EE X W (.Constant (.str i) j pos) (wE cm (fC (.str i))) := ve_c ee_str fun _ _ => by rw [RV]
theorem ve_glob {x : Str} {p : PV} {v : V} {u : Value} (hm : X.mg x = some u) (r : RelV v u) (rp : ∀ H, Rep X.K H p v) (hp : ∀ M F, RV M F p p) (hg : Gl X x := by rfl) (hd : (x == ("__debug__" : Str)) = false := by decide) : EE X W (.Name x pos) (wE cm (fC p)) := ve_c (ee_glob hm r rp hg hd) hp
theorem ve_blt {x : Str} {n : String} {v : V} {u : Value} (hm : X.mg x = none) (hv : bootBuiltins x = some u) (r : RelV v u) (rp : ∀ H, Rep X.K H (.ty n) v) (hg : Gl X x := by rfl) (hn : x ≠ "__name__" := by decide) (hd : (x == ("__debug__" : Str)) = false := by decide) : EE X W (.Name x pos) (wE cm (fC (.ty n))) := ve_c (ee_blt hm hv r rp hg hn hd) fun _ _ => by rw [RV]
theorem va_nil : EA X W [] (wA cm fNil) := by
  refine va_of ea_nil ?_
  rintro EP s M Q ⟨e, F, R, h⟩
  exact h M F R (.refl _ _ _ _) [] rfl
theorem va_cons {x : Expr} {es : List Expr} {f : VEnv → Rs TV} {g : VEnv → Rs (List TV)} (ha : EE X W x (wE cm f)) (hr : EA X W es (wA cm g)) (hs : starEach (x :: es) X.env = (false, eval x X.env) :: starEach es X.env := by rfl) : EA X W (x :: es) (wA cm (fCons f g)) := by
  refine va_of (ea_cons ha hr hs) ?_
  rintro EP s M Q ⟨e, F, R, h⟩
  refine ⟨e, F, R, h.bind.mono fun t e1 M1 F1 R1 G1 h1 p hp => ⟨e1, F1, R1, OkE.mono (OkE.bind h1) fun ts e2 M2 F2 R2 G2 h2 ps hps => ?_⟩⟩
  exact h2 M2 F2 R2 (.refl _ _ _ _) (p :: ps) ⟨p, ps, rfl, RT.go R1 G2 hp, hps⟩
theorem ve_tup {x1} {es : List Expr} {g : VEnv → Rs (List TV)} (h : EA X W es (wA cm g)) : EE X W (.Tuple es x1 pos) (wE cm (fTup g)) := by
  refine ve_of (ee_tup h) ?_
  rintro EP s M Q ⟨e, F, R, h⟩
  refine ⟨e, F, R, h.bind.mono fun ts e1 M1 F1 R1 G1 h1 ps hps => ?_⟩
  obtain ⟨t, h1, h2⟩ := h1.ofO
  split at h1
  · rename_i vs hv
    split at h1
    · rename_i hl
      cases h1
      have r := shs_rep hps hv
      exact ⟨by rw [← r.length]; exact hl, h2 M1 F1 R1 (.refl _ _ _ _) _ (by rw [RT, RV]; exact ⟨ps, rfl, r⟩)⟩
    · cases h1
  · cases h1
theorem vl_disp {es : List Expr} {g : VEnv → Rs (List TV)} (h : EA X W es (wA cm g)) : EL X W (.List es pos) (wL cm (lDisp g)) := by
  refine vl_of (el_disp h) ?_
  rintro EP s M Q ⟨e, F, R, h⟩
  refine ⟨e, F, R, h.bind.mono fun ts e1 M1 F1 R1 G1 h1 ps hps => ?_⟩
  obtain ⟨t, h1, h2⟩ := h1.ofO
  split at h1
  · rename_i vs hv
    split at h1
    · rename_i hl
      cases h1
      have r := shs_rep hps hv
      exact ⟨by rw [← r.length]; exact hl, h2 M1 F1 R1 (.refl _ _ _ _) _ r⟩
    · cases h1
  · cases h1
theorem ve_new {x : Expr} {g : VEnv → Rs (List PV)} (h : EL X W x (wL cm g)) : EE X W x (wE cm (fNew g)) := by
  refine ve_of (ee_new h) ?_
  rintro EP s M Q ⟨e, F, R, h⟩
  refine ⟨e, F, R, h.bind.mono fun xs e1 M1 F1 R1 G1 h1 ps hps D nD nD1 => ?_⟩
  have n := R1.nr.none nD1
  have f := fr_new R1.nr R1.fr n (ps := ps)
  exact h1 _ _ (R1.fresh f) (R1.fresh_go f) _ (repF_new n hps)

/-! ## operators of two -/
def OpG (r : PR2) (g : PV → PV → Option PV) : Prop := ∀ {M : PH} {F : ASet} {v u x y z : PV} {Q : QE}, NR M → (∀ a, F a → M a ≠ none) → VV M F v x → VV M F u y → g v u = some z → (∀ p M' F', Fr M F M' F' → RV M' F' z p → Q p M') → r x y M Q
def fOp (g : PV → PV → Option PV) (a b : VEnv → Rs TV) : VEnv → Rs TV := fun e => (a e).bind fun t e1 => (b e1).bind fun u e2 => .ofO (match view e2 t, view e2 u with
  | some v, some w => (match g v w with
    | some z => some (.sh z)
    | none => none)
  | _, _ => none) e2
theorem op_use {r : PR2} {g : PV → PV → Option PV} (hg : OpG r g) {EP : PX} {s : PSt} {M : PH} {F : ASet} {e : VEnv} {t u : TV} {x y : PV} {Q : QE} (R : RS M F e s) (ht : RT M F s t x) (hu : RT M F s u y)
    (h : OkE cm EP s M F e (.ofO (match view e t, view e u with
  | some v, some w => (match g v w with
    | some z => some (TV.sh z)
    | none => none)
  | _, _ => none) e) fun t e' M' F' => ∀ p, RT M' F' s t p → Q p M') : r x y M Q := by
  obtain ⟨z, h1, h2⟩ := h.ofO
  split at h1
  · rename_i v w hv hw
    split at h1
    · rename_i z' hz
      cases h1
      exact hg R.nr R.fr (view_rep R ht hv) (view_rep R hu hw) hz fun p M' F' f hp => h2 M' F' (R.fresh f) (R.fresh_go f) p hp
    · cases h1
  · cases h1
theorem v_op {r : PR2} {g : PV → PV → Option PV} (hg : OpG r g) {a b : VEnv → Rs TV} : ∀ EP s M Q, wE cm (fOp g a b) EP s M Q → wOp r (wE cm a) (wE cm b) EP s M Q := by
  rintro EP s M Q ⟨e, F, R, h⟩
  refine ⟨e, F, R, h.bind.mono fun t e1 M1 F1 R1 G1 h1 x hx => ⟨e1, F1, R1, OkE.mono (OkE.bind h1) fun u e2 M2 F2 R2 G2 h2 y hy => ?_⟩⟩
  exact op_use hg R2 (RT.go R1 G2 hx) hy h2
theorem ve_op {a b : Expr} {fa fb : VEnv → Rs TV} {op : Operator} {r : PR2} {r0 : R2} {g : PV → PV → Option PV} (hg : OpG r g) (ho : OpR X (binaryOp op) r0) (hl : Lift2 X.K r r0) (hr : Mono2 r) (ha : EE X W a (wE cm fa)) (hb : EE X W b (wE cm fb)) : EE X W (.BinOp a op b pos) (wE cm (fOp g fa fb)) :=
  ve_of (ee_op ho hl hr ha hb) (v_op hg)
theorem ve_cmp {a b : Expr} {fa fb : VEnv → Rs TV} {op : CmpOp} {r : PR2} {r0 : R2} {g : PV → PV → Option PV} (hg : OpG r g) (ho : OpR X (compareOp op) r0) (hl : Lift2 X.K r r0) (hr : Mono2 r) (ha : EE X W a (wE cm fa)) (hb : EE X W b (wE cm fb)) (hm : behindInMarks op b = false) : EE X W (.Compare a [op] [b] pos) (wE cm (fOp g fa fb)) :=
  ve_of (ee_cmp ho hl hr ha hb hm) (v_op hg)
/-- as a test -/
def fTest (f : VEnv → Rs TV) : VEnv → Rs Bool := fun e => (f e).bind fun t e1 => .ofO (match t with
  | .sh (.bl b) => some b
  | _ => none) e1
theorem v_test {w : WE} {f : VEnv → Rs TV} (hw : MonoE w) (k : ∀ EP s M Q, wE cm f EP s M Q → w EP s M Q) : ∀ EP s M Q, wT cm (fTest f) EP s M Q → wTest w EP s M Q := by
  rintro EP s M Q ⟨e, F, R, h⟩
  refine wTest_i (k EP s M _ ⟨e, F, R, h.bind.mono fun t e1 M1 F1 R1 G1 h1 p hp => ?_⟩)
  obtain ⟨b, h2, h3⟩ := h1.ofO
  split at h2
  · cases h2
    rw [RT, RV] at hp
    subst hp
    exact qBl_i (h3 M1 F1 R1 (.refl _ _ _ _))
  · cases h2
theorem vt_cmp {a b : Expr} {fa fb : VEnv → Rs TV} {op : CmpOp} {r : PR2} {r0 : R2} {g : PV → PV → Option PV} (hg : OpG r g) (ho : OpR X (compareOp op) r0) (hl : Lift2 X.K r r0) (hr : Mono2 r) (ha : EE X W a (wE cm fa)) (hb : EE X W b (wE cm fb)) (hm : behindInMarks op b = false) : ET X W (.Compare a [op] [b] pos) (wT cm (fTest (fOp g fa fb))) :=
  vt_of (et_cmp ho hl hr ha hb hm) (v_test (mono_op hr wE_mono wE_mono) (v_op hg))
/-- a op b op c -/
def fChain (g g' : PV → PV → Option PV) (a b c : VEnv → Rs TV) : VEnv → Rs TV := fun e => (a e).bind fun t e1 => (b e1).bind fun u e2 => (Rs.ofO (match view e2 t, view e2 u with
  | some v, some w => (match g v w with
    | some (.bl k) => some k
    | _ => none)
  | _, _ => none) e2).bind fun k e2 => if k = true then (c e2).bind fun x e3 => .ofO (match view e3 u, view e3 x with
    | some v, some w => (match g' v w with
      | some z => some (.sh z)
      | none => none)
    | _, _ => none) e3 else .ok (.sh (.bl false)) e2
theorem v_chain {r r' : PR2} {g g' : PV → PV → Option PV} (hg : OpG r g) (hg' : OpG r' g') {a b c : VEnv → Rs TV} : ∀ EP s M Q, wE cm (fChain g g' a b c) EP s M Q → wChain r r' (wE cm a) (wE cm b) (wE cm c) EP s M Q := by
  rintro EP s M Q ⟨e, F, R, h⟩
  refine ⟨e, F, R, h.bind.mono fun t e1 M1 F1 R1 G1 h1 x hx => ⟨e1, F1, R1, OkE.mono (OkE.bind h1) fun u e2 M2 F2 R2 G2 h2 y hy => ?_⟩⟩
  have h3 := OkE.bind h2
  obtain ⟨k, h4, h5⟩ := h3.ofO
  split at h4
  · rename_i v w hv hw
    split at h4
    · rename_i k' hz
      cases h4
      refine hg R2.nr R2.fr (view_rep R2 (RT.go R1 G2 hx) hv) (view_rep R2 hy hw) hz fun p M3 F3 f hp => ?_
      rw [RV] at hp
      subst hp
      have h6 := h5 M3 F3 (R2.fresh f) (R2.fresh_go f)
      have R3 := R2.fresh f
      have G3 := R2.fresh_go f
      dsimp only
      cases k with
      | true =>
        rw [if_pos rfl] at h6 ⊢
        refine ⟨e2, F3, R3, OkE.mono (OkE.bind h6) fun x2 e4 M4 F4 R4 G4 h7 p hp => ?_⟩
        exact op_use hg' R4 (RT.go R3 G4 (RT.go R2 G3 hy)) hp h7
      | false =>
        rw [if_neg (by simp)] at h6 ⊢
        exact h6 M3 F3 R3 (.refl _ _ _ _) _ (by rw [RT, RV])
    · cases h4
  · cases h4
theorem ve_chain {a b c : Expr} {fa fb fc : VEnv → Rs TV} {op op' : CmpOp} {r r' : PR2} {r0 r0' : R2} {g g' : PV → PV → Option PV} (hg : OpG r g) (ho : OpR X (compareOp op) r0) (hl : Lift2 X.K r r0) (hr : Mono2 r) (hg' : OpG r' g') (ho' : OpR X (compareOp op') r0') (hl' : Lift2 X.K r' r0') (hr' : Mono2 r')
    (ha : EE X W a (wE cm fa)) (hb : EE X W b (wE cm fb)) (hc : EE X W c (wE cm fc)) (hm : lastMarks [op, op'] [b, c] = false := by with_unfolding_all rfl) : EE X W (.Compare a [op, op'] [b, c] pos) (wE cm (fChain g g' fa fb fc)) :=
  ve_of (ee_chain ho hl hr ho' hl' hr' ha hb hc hm) (v_chain hg hg')
theorem vt_chain {a b c : Expr} {fa fb fc : VEnv → Rs TV} {op op' : CmpOp} {r r' : PR2} {r0 r0' : R2} {g g' : PV → PV → Option PV} (hg : OpG r g) (ho : OpR X (compareOp op) r0) (hl : Lift2 X.K r r0) (hr : Mono2 r) (hg' : OpG r' g') (ho' : OpR X (compareOp op') r0') (hl' : Lift2 X.K r' r0') (hr' : Mono2 r')
    (ha : EE X W a (wE cm fa)) (hb : EE X W b (wE cm fb)) (hc : EE X W c (wE cm fc)) (hm : lastMarks [op, op'] [b, c] = false := by with_unfolding_all rfl) : ET X W (.Compare a [op, op'] [b, c] pos) (wT cm (fTest (fChain g g' fa fb fc))) :=
  vt_of (et_chain ho hl hr ho' hl' hr' ha hb hc hm) (v_test (mono_chain hr hr' wE_mono wE_mono wE_mono) (v_chain hg hg'))

/-! ## truth -/
def truG : PV → Option Bool
  | .non => some false
  | .bl b => some b
  | .int i => some (i != 0)
  | .str y => if y.length ≤ sizeLine then some ((y.length : Int) != 0) else none
  | .tup xs => some (!xs.isEmpty)
  | .bx .lst xs => some (!xs.isEmpty)
  | _ => none
def fTru (f : VEnv → Rs TV) : VEnv → Rs Bool := fun e => (f e).bind fun t e1 => .ofO (match view e1 t with
  | some v => truG v
  | none => none) e1
theorem tru_use {M : PH} {F : ASet} {v p : PV} {b : Bool} {Q : Bool → PH → Prop} (h : VV M F v p) (hb : truG v = some b) (q : Q b M) : truV p M Q := by
  unfold truG at hb
  split at hb
  · cases hb; rw [h.non]; exact q
  · cases hb; rw [h.bl]; exact q
  · cases hb; rw [h.int]; exact q
  · split at hb
    · rename_i hz
      cases hb; rw [h.str]; exact ⟨hz, q⟩
    · cases hb
  · cases hb
    obtain ⟨ps, rfl, r⟩ := h.tup
    show Q _ M
    rw [← r.isEmpty]; exact q
  · cases hb
    obtain ⟨a, ps, rfl, m, r⟩ := VV.lst h
    unfold truV
    dsimp only
    rw [m]
    dsimp only
    rw [← r.isEmpty]; exact q
  · cases hb
theorem vt_tru {a : Expr} {fa : VEnv → Rs TV} (ha : EE X W a (wE cm fa)) (he : ∀ whole, isTrue a X.env whole = (do let v ← whole; standAt a.pos; holding [v] (truthy v)) := by intro _; rfl) : ET X W a (wT cm (fTru fa)) := by
  refine vt_of (et_tru ha he) ?_
  rintro EP s M Q ⟨e, F, R, h⟩
  refine wTru_i ⟨e, F, R, h.bind.mono fun t e1 M1 F1 R1 G1 h1 p hp => ?_⟩
  obtain ⟨b, h2, h3⟩ := h1.ofO
  split at h2
  · rename_i v hv
    exact tru_use (view_rep R1 hp hv) h2 (h3 M1 F1 R1 (.refl _ _ _ _))
  · cases h2
def fAndT (t u : VEnv → Rs Bool) : VEnv → Rs Bool := fun e => (t e).bind fun c e1 => if c = true then u e1 else .ok false e1
def fOrT (t u : VEnv → Rs Bool) : VEnv → Rs Bool := fun e => (t e).bind fun c e1 => if c = true then .ok true e1 else u e1
def fNotT (t : VEnv → Rs Bool) : VEnv → Rs Bool := fun e => (t e).bind fun c e1 => .ok (!c) e1
section
variable {a b : Expr} {rest : List Expr} {ta tb : VEnv → Rs Bool}
theorem vw_and1 (ha : ET X W a (wT cm ta)) : EW X W (.BoolOp .And [a] pos) (wT cm ta) := ew_and1 ha
theorem vw_or1 (ha : ET X W a (wT cm ta)) : EW X W (.BoolOp .Or [a] pos) (wT cm ta) := ew_or1 ha
theorem vw_and (ha : ET X W a (wT cm ta)) (hb : EW X W (.BoolOp .And (b :: rest) pos) (wT cm tb)) : EW X W (.BoolOp .And (a :: b :: rest) pos) (wT cm (fAndT ta tb)) := by
  refine vw_of (ew_and ha hb) ?_
  rintro EP s M Q ⟨e, F, R, h⟩
  refine ⟨e, F, R, h.bind.mono fun c e1 M1 F1 R1 G1 h1 => ?_⟩
  cases c with
  | true => exact ⟨e1, F1, R1, h1⟩
  | false => exact h1 M1 F1 R1 (.refl _ _ _ _)
theorem vw_or (ha : ET X W a (wT cm ta)) (hb : EW X W (.BoolOp .Or (b :: rest) pos) (wT cm tb)) : EW X W (.BoolOp .Or (a :: b :: rest) pos) (wT cm (fOrT ta tb)) := by
  refine vw_of (ew_or ha hb) ?_
  rintro EP s M Q ⟨e, F, R, h⟩
  refine ⟨e, F, R, h.bind.mono fun c e1 M1 F1 R1 G1 h1 => ?_⟩
  cases c with
  | true => exact h1 M1 F1 R1 (.refl _ _ _ _)
  | false => exact ⟨e1, F1, R1, h1⟩
theorem vt_w (h : EW X W a (wT cm ta)) : ET X W a (wT cm ta) := et_w h
theorem vt_not (ha : ET X W a (wT cm ta)) : ET X W (.UnaryOp .Not a pos) (wT cm (fNotT ta)) := by
  refine vt_of (et_not ha) ?_
  rintro EP s M Q ⟨e, F, R, h⟩
  exact ⟨e, F, R, h.bind.mono fun c e1 M1 F1 R1 G1 h1 => h1 M1 F1 R1 (.refl _ _ _ _)⟩
end
/-! .. as values -/
def fAndV (t u : VEnv → Rs TV) : VEnv → Rs TV := fun e => (t e).bind fun c e1 => match c with
  | .sh (.bl true) => u e1
  | .sh (.bl false) => .ok (.sh (.bl false)) e1
  | _ => .no
def fOrV (t u : VEnv → Rs TV) : VEnv → Rs TV := fun e => (t e).bind fun c e1 => match c with
  | .sh (.bl true) => .ok (.sh (.bl true)) e1
  | .sh (.bl false) => u e1
  | _ => .no
def fNotV (t : VEnv → Rs TV) : VEnv → Rs TV := fun e => (t e).bind fun c e1 => match c with
  | .sh (.bl b) => .ok (.sh (.bl (!b))) e1
  | _ => .no
def fIfE (t : VEnv → Rs Bool) (a b : VEnv → Rs TV) : VEnv → Rs TV := fun e => (t e).bind fun c e1 => if c = true then a e1 else b e1
section
variable {a b c : Expr} {rest : List Expr} {ta tb : VEnv → Rs TV} {tc : VEnv → Rs Bool}
theorem ve_one {op} (ha : EE X W a (wE cm ta)) : EE X W (.BoolOp op [a] pos) (wE cm ta) := ee_one ha
theorem ve_and (ha : EE X W a (wE cm ta)) (hb : EE X W (.BoolOp .And (b :: rest) pos) (wE cm tb)) : EE X W (.BoolOp .And (a :: b :: rest) pos) (wE cm (fAndV ta tb)) := by
  refine ve_of (ee_and ha hb) ?_
  rintro EP s M Q ⟨e, F, R, h⟩
  refine ⟨e, F, R, h.bind.mono fun c e1 M1 F1 R1 G1 h1 p hp => ?_⟩
  split at h1
  · rw [RT, RV] at hp; subst hp
    exact ⟨e1, F1, R1, h1⟩
  · rw [RT, RV] at hp; subst hp
    exact h1 M1 F1 R1 (.refl _ _ _ _) _ (by rw [RT, RV])
  · exact h1.elim
theorem ve_or (ha : EE X W a (wE cm ta)) (hb : EE X W (.BoolOp .Or (b :: rest) pos) (wE cm tb)) : EE X W (.BoolOp .Or (a :: b :: rest) pos) (wE cm (fOrV ta tb)) := by
  refine ve_of (ee_or ha hb) ?_
  rintro EP s M Q ⟨e, F, R, h⟩
  refine ⟨e, F, R, h.bind.mono fun c e1 M1 F1 R1 G1 h1 p hp => ?_⟩
  split at h1
  · rw [RT, RV] at hp; subst hp
    exact h1 M1 F1 R1 (.refl _ _ _ _) _ (by rw [RT, RV])
  · rw [RT, RV] at hp; subst hp
    exact ⟨e1, F1, R1, h1⟩
  · exact h1.elim
theorem ve_not (ha : EE X W a (wE cm ta)) : EE X W (.UnaryOp .Not a pos) (wE cm (fNotV ta)) := by
  refine ve_of (ee_not ha) ?_
  rintro EP s M Q ⟨e, F, R, h⟩
  refine ⟨e, F, R, h.bind.mono fun c e1 M1 F1 R1 G1 h1 p hp => ?_⟩
  split at h1
  · rw [RT, RV] at hp; subst hp
    exact h1 M1 F1 R1 (.refl _ _ _ _) _ (by rw [RT, RV])
  · exact h1.elim
theorem ve_if (hc : ET X W c (wT cm tc)) (ha : EE X W a (wE cm ta)) (hb : EE X W b (wE cm tb)) : EE X W (.IfExp c a b pos) (wE cm (fIfE tc ta tb)) := by
  refine ve_of (ee_if hc ha hb) ?_
  rintro EP s M Q ⟨e, F, R, h⟩
  refine ⟨e, F, R, h.bind.mono fun c e1 M1 F1 R1 G1 h1 => ?_⟩
  cases c with
  | true => exact ⟨e1, F1, R1, h1⟩
  | false => exact ⟨e1, F1, R1, h1⟩
end
end
end
end PL
set_option autoImplicit false
namespace PL
open PySem PySem.Spec L2
open PyProof.Rows hiding St

/-! ## what operators give -/
def gAdd : PV → PV → Option PV
  | .int i, .int j => some (.int (i + j))
  | .str i, .str j => if i.length + j.length ≤ sizeLine then some (.str (i ++ j)) else none
  | .tup xs, .tup ys => if xs.length + ys.length ≤ sizeLine then some (.tup (xs ++ ys)) else none
  | .bx .lst xs, .bx .lst ys => if xs.length + ys.length ≤ sizeLine then some (PV.lst (xs ++ ys)) else none
  | _, _ => none
def gInt (C : Int → Int → Bool) (g : Int → Int → PV) : PV → PV → Option PV
  | .int i, .int j => if C i j = true then some (g i j) else none
  | _, _ => none
section
variable {M : PH} {F : ASet}
theorem opg_add : OpG rAdd gAdd := by
  intro M F v u x y z Q nr fr hv hu hz k
  unfold gAdd at hz
  split at hz
  · cases hz; rw [hv.int, hu.int]; exact k _ _ _ (.refl nr fr) (by rw [RV])
  · split at hz
    · rename_i hl
      cases hz; rw [hv.str, hu.str]; exact ⟨hl, k _ _ _ (.refl nr fr) (by rw [RV])⟩
    · cases hz
  · split at hz
    · rename_i hl
      cases hz
      obtain ⟨ps, rfl, r1⟩ := hv.tup
      obtain ⟨qs, rfl, r2⟩ := hu.tup
      exact ⟨by rw [← r1.length, ← r2.length]; exact hl, k _ _ _ (.refl nr fr) (by rw [RV]; exact ⟨_, rfl, r1.append r2⟩)⟩
    · cases hz
  · split at hz
    · rename_i hl
      cases hz
      obtain ⟨a, ps, rfl, m1, r1⟩ := VV.lst hv
      obtain ⟨b, qs, rfl, m2, r2⟩ := VV.lst hu
      refine ⟨ps, qs, m1, m2, by rw [← r1.length, ← r2.length]; exact hl, fun D n => ?_⟩
      exact k _ _ _ (fr_new nr fr (nr.none n)) (repF_new (nr.none n) (r1.append r2))
    · cases hz
  · cases hz
theorem opg_int {C : Int → Int → Prop} {B : Int → Int → Bool} {g : Int → Int → PV} (hc : ∀ i j, B i j = true → C i j) (hg : ∀ i j, pur (g i j) = true) : OpG (rInt C g) (gInt B g) := by
  intro M F v u x y z Q nr fr hv hu hz k
  unfold gInt at hz
  split at hz
  · split at hz
    · rename_i i j hb
      cases hz; rw [hv.int, hu.int]
      exact ⟨hc _ _ hb, k _ _ _ (.refl nr fr) (repF_self (hg _ _))⟩
    · cases hz
  · cases hz
end
theorem pur_int {i : Int} : pur (.int i) = true := by rw [pur] <;> (intros; contradiction)
theorem pur_bl {i : Bool} : pur (.bl i) = true := by rw [pur] <;> (intros; contradiction)
theorem pur_str {i : Str} : pur (.str i) = true := by rw [pur] <;> (intros; contradiction)
theorem pur_non : pur .non = true := by rw [pur] <;> (intros; contradiction)
def gSub := gInt (fun _ _ => true) fun i j => .int (i - j)
def gMod := gInt (fun _ j => decide (j ≠ 0)) fun i j => .int (i.fmod j)
def gFdiv := gInt (fun _ j => decide (j ≠ 0 ∧ j.natAbs < 1073741824)) fun i j => .int (i.fdiv j)
def gPow := gInt (fun i j => decide (0 ≤ j ∧ j ≤ 1000000 ∧ i.natAbs < 18446744073709551616)) fun i j => .int (i ^ j.toNat)
def gGt := gInt (fun _ _ => true) fun i j => .bl (decide (j < i))
def gGe := gInt (fun _ _ => true) fun i j => .bl (decide (j ≤ i))
theorem opg_sub : OpG rSub gSub := opg_int (fun _ _ _ => trivial) fun _ _ => pur_int
theorem opg_mod : OpG rMod gMod := opg_int (fun _ _ h => of_decide_eq_true h) fun _ _ => pur_int
theorem opg_fdiv : OpG rFdiv gFdiv := opg_int (fun _ _ h => of_decide_eq_true h) fun _ _ => pur_int
theorem opg_pow : OpG rPow gPow := opg_int (fun _ _ h => of_decide_eq_true h) fun _ _ => pur_int
theorem opg_gt : OpG rGt gGt := opg_int (fun _ _ _ => trivial) fun _ _ => pur_bl
theorem opg_ge : OpG rGe gGe := opg_int (fun _ _ _ => trivial) fun _ _ => pur_bl
def gMul : PV → PV → Option PV
  | .int i, .int j => if (-18446744073709551616 < i ∧ i < 18446744073709551616) ∨ (-18446744073709551616 < j ∧ j < 18446744073709551616) then some (.int (i * j)) else none
  | .tup xs, .int k => if xs ≠ [] ∧ 1 ≤ k ∧ k ≤ 1000 ∧ xs.length ≤ 1000 then some (.tup (List.replicate k.toNat xs).flatten) else none
  | _, _ => none
theorem opg_mul : OpG rMul gMul := by
  intro M F v u x y z Q nr fr hv hu hz k
  unfold gMul at hz
  split at hz
  · split at hz
    · rename_i hb
      cases hz; rw [hv.int, hu.int]
      exact ⟨hb, k _ _ _ (.refl nr fr) (by rw [RV])⟩
    · cases hz
  · split at hz
    · rename_i hb
      cases hz; rw [hu.int]
      obtain ⟨ps, rfl, r⟩ := hv.tup
      obtain ⟨h1, h2, h3, h4⟩ := hb
      exact ⟨fun h => h1 (by subst h; cases r.length |> List.length_eq_zero_iff.mp; rfl), h2, h3, by rw [← r.length]; exact h4, k _ _ _ (.refl nr fr) (by rw [RV]; exact ⟨_, rfl, r.rep _⟩)⟩
    · cases hz
  · cases hz
def gLt : PV → PV → Option PV
  | .int i, .int j => some (.bl (decide (i < j)))
  | .str i, .str j => some (.bl (decide (i.cps.toList < j.cps.toList)))
  | .tup xs, .tup ys => if (pur (.tup xs) && pur (.tup ys) && shp (dat (.tup xs)) && shp (dat (.tup ys)) && cmpD (dat (.tup xs)) (dat (.tup ys))) = true then some (.bl (ltD (dat (.tup xs)) (dat (.tup ys)))) else none
  | _, _ => none
theorem opg_lt : OpG rLtX gLt := by
  intro M F v u x y z Q nr fr hv hu hz k
  unfold gLt at hz
  split at hz
  · cases hz; rw [hv.int, hu.int]; exact k _ _ _ (.refl nr fr) (by rw [RV])
  · cases hz; rw [hv.str, hu.str]; exact k _ _ _ (.refl nr fr) (by rw [RV])
  · split at hz
    · rename_i h
      cases hz
      simp only [Bool.and_eq_true] at h
      obtain ⟨⟨⟨⟨h1, h2⟩, h3⟩, h4⟩, h5⟩ := h
      rw [hv.pur h1, hu.pur h2]
      exact ⟨h1, h2, h3, h4, h5, k _ _ _ (.refl nr fr) (by rw [RV])⟩
    · cases hz
  · cases hz
def gLe : PV → PV → Option PV
  | .int i, .int j => some (.bl (decide (i ≤ j)))
  | .tup [.int a, .int b], .tup [.int c, .int d] => some (.bl (decide (a < c ∨ (a = c ∧ b ≤ d))))
  | _, _ => none
theorem pur_pair {a b : Int} : pur (.tup [.int a, .int b]) = true := by simp [pur, purs]
theorem opg_le : OpG rLeX gLe := by
  intro M F v u x y z Q nr fr hv hu hz k
  unfold gLe at hz
  split at hz
  · cases hz; rw [hv.int, hu.int]; exact k _ _ _ (.refl nr fr) (by rw [RV])
  · cases hz; rw [hv.pur pur_pair, hu.pur pur_pair]; exact k _ _ _ (.refl nr fr) (by rw [RV])
  · cases hz
/-- what data a value is -/
def vdat : PV → Option PyData
  | .bx .lst xs => if purs xs = true then some (.list (dats xs)) else none
  | v => if pur v = true then some (dat v) else none
theorem vdat_datM {M : PH} {F : ASet} {v p : PV} {d : PyData} (h : VV M F v p) (hd : vdat v = some d) : datM M p = some d := by
  have other : ∀ v : PV, (if pur v = true then some (dat v) else none) = some d → VV M F v p → datM M p = some d := fun v hd h => by
    split at hd
    · rename_i z
      rw [h.pur z]
      cases v with
      | ref a => rw [pur] at z; cases z
      | _ => unfold datM; dsimp only; rw [if_pos z]; exact hd
    · cases hd
  cases v with
  | bx b xs =>
    cases b with
    | lst =>
      unfold vdat at hd
      dsimp only at hd
      split at hd
      · rename_i z
        obtain ⟨a, ps, rfl, m, r⟩ := VV.lst h
        have := repFs_pur z r
        subst this
        unfold datM
        dsimp only
        rw [m]
        dsimp only
        rw [if_pos z]; exact hd
      · cases hd
    | _ => unfold vdat at hd; exact other _ hd h
  | _ => unfold vdat at hd; exact other _ hd h
def gEqN (neg : Bool) (v u : PV) : Option PV := match v, u with
  | .str i, .str j => some (.bl (if neg = true then !decide (i = j) else decide (i = j)))
  | v, u => match vdat v, vdat u with
    | some d, some e => if (shp d && shp e) = true then some (.bl (if neg = true then !PyData.eqv d e else PyData.eqv d e)) else none
    | _, _ => none
theorem vv_kind {M : PH} {F : ASet} {v p : PV} {i : Str} {d : PyData} (h : VV M F v p) (hd : vdat v = some d) (e : p = .str i) : v = .str i := by
  subst e
  cases v with
  | bx b xs => cases b with
    | lst => obtain ⟨a, ps, z, _⟩ := VV.lst h; cases z
    | _ => exact absurd hd (by simp [vdat, pur])
  | ref a => exact absurd hd (by simp [vdat, pur])
  | ty a => exact absurd hd (by simp [vdat, pur])
  | tup xs => obtain ⟨ps, z, _⟩ := h.tup; cases z
  | non => exact (h.non).symm
  | bl _ => exact (h.bl).symm
  | int _ => exact (h.int).symm
  | str _ => exact (h.str).symm
theorem opg_eq : OpG rEq (gEqN false) := by
  intro M F v u x y z Q nr fr hv hu hz k
  unfold gEqN at hz
  split at hz
  · cases hz; rw [hv.str, hu.str]; exact k _ _ _ (.refl nr fr) (by rw [RV]; rfl)
  · rename_i ns
    split at hz
    · rename_i d e e1 e2
      split at hz
      · rename_i hs
        rw [Bool.and_eq_true] at hs
        cases hz
        unfold rEq
        split
        · rename_i i j
          exact (ns i j (vv_kind hv e1 rfl) (vv_kind hu e2 rfl)).elim
        · rw [vdat_datM hv e1, vdat_datM hu e2]
          exact ⟨hs.1, hs.2, k _ _ _ (.refl nr fr) (by rw [RV]; rfl)⟩
      · cases hz
    · cases hz
theorem opg_ne : OpG rNe (gEqN true) := by
  intro M F v u x y z Q nr fr hv hu hz k
  unfold gEqN at hz
  split at hz
  · cases hz; rw [hv.str, hu.str]; exact k _ _ _ (.refl nr fr) (by rw [RV]; rfl)
  · rename_i ns
    split at hz
    · rename_i d e e1 e2
      split at hz
      · rename_i hs
        rw [Bool.and_eq_true] at hs
        cases hz
        unfold rNe
        split
        · rename_i i j
          exact (ns i j (vv_kind hv e1 rfl) (vv_kind hu e2 rfl)).elim
        · rw [vdat_datM hv e1, vdat_datM hu e2]
          exact ⟨hs.1, hs.2, k _ _ _ (.refl nr fr) (by rw [RV]; rfl)⟩
      · cases hz
    · cases hz
def gIn (neg : Bool) (v u : PV) : Option PV := match u with
  | .str j => match v with
    | .str i => some (.bl (if neg then !inStr i j else inStr i j))
    | _ => none
  | .bx .lst ys => match vdat v with
    | some d => if (purs ys && shp d && shp (.list (dats ys))) = true then some (.bl (if neg then !(dats ys).any (fun z => PyData.eqv z d) else (dats ys).any fun z => PyData.eqv z d)) else none
    | none => none
  | .tup ys => match vdat v with
    | some d => if (purs ys && shp d && shp (.tuple (dats ys))) = true then some (.bl (if neg then !(dats ys).any (fun z => PyData.eqv z d) else (dats ys).any fun z => PyData.eqv z d)) else none
    | none => none
  | _ => none
theorem opg_in {neg : Bool} : OpG (rInG neg) (gIn neg) := by
  intro M F v u x y z Q nr fr hv hu hz k
  unfold gIn at hz
  split at hz
  · split at hz
    · cases hz; rw [hv.str, hu.str]; exact k _ _ _ (.refl nr fr) (by rw [RV])
    · cases hz
  · rename_i ys
    split at hz
    · rename_i d e1
      split at hz
      · rename_i hs
        rw [Bool.and_eq_true, Bool.and_eq_true] at hs
        cases hz
        obtain ⟨a, ps, rfl, m, r⟩ := VV.lst hu
        have := repFs_pur hs.1.1 r
        subst this
        unfold rInG
        dsimp only
        rw [m]
        dsimp only
        rw [vdat_datM hv e1]
        have : datM M (.ref a) = some (.list (dats ps)) := datM_lst m hs.1.1
        rw [this]
        exact ⟨hs.1.2, hs.2, k _ _ _ (.refl nr fr) (by rw [RV])⟩
      · cases hz
    · cases hz
  · rename_i ys
    split at hz
    · rename_i d e1
      split at hz
      · rename_i hs
        rw [Bool.and_eq_true, Bool.and_eq_true] at hs
        cases hz
        have z : pur (.tup ys) = true := by rw [pur]; exact hs.1.1
        rw [hu.pur z]
        unfold rInG
        dsimp only
        rw [vdat_datM hv e1]
        have : datM M (.tup ys) = some (.tuple (dats ys)) := by
          unfold datM
          dsimp only
          rw [if_pos z, dat]
        rw [this]
        exact ⟨hs.1.2, hs.2, k _ _ _ (.refl nr fr) (by rw [RV])⟩
      · cases hz
    · cases hz
  · cases hz
def isNonP : PV → Bool
  | .non => true
  | _ => false
def gIs (neg : Bool) (v u : PV) : Option PV := match u with
  | .non => some (.bl (if isNonP v = true then !neg else neg))
  | .bl b => match v with
    | .bl a => some (.bl (if neg then !decide (a = b) else decide (a = b)))
    | _ => none
  | _ => none
theorem rv_bx0 {M : PH} {F : ASet} {b : BK} {xs : List PV} {p : PV} (n : b ≠ .lst) (h : VV M F (.bx b xs) p) : False := by
  rcases h with h | ⟨ys, a, ps, e, _⟩
  · cases b with
    | lst => exact n rfl
    | _ => rw [RV] at h; exact h; all_goals (intros; contradiction)
  · cases e; exact n rfl
theorem vv_non {M : PH} {F : ASet} {v p : PV} (h : VV M F v p) : isNonP p = isNonP v := by
  cases v with
  | bx b xs => cases b with
    | lst => obtain ⟨a, ps, rfl, _⟩ := VV.lst h; rfl
    | _ => exact (rv_bx0 (by intro z; cases z) h).elim
  | ref a => (rcases h with h | ⟨ys, a, ps, e, _⟩); (rw [RV] at h; exact h.elim); cases e
  | ty a => rw [h.ty]
  | tup xs => obtain ⟨ps, rfl, _⟩ := h.tup; rfl
  | non => rw [h.non]
  | bl _ => rw [h.bl]
  | int _ => rw [h.int]
  | str _ => rw [h.str]
theorem opg_is {neg : Bool} : OpG (rIsX neg) (gIs neg) := by
  intro M F v u x y z Q nr fr hv hu hz k
  unfold gIs at hz
  split at hz
  · cases hz
    rw [hu.non]
    have := vv_non hv
    have q := k (.bl (if isNonP v = true then !neg else neg)) _ _ (.refl nr fr) (by rw [RV])
    rw [← this] at q
    unfold rIsX
    dsimp only
    cases x <;> exact q
  · split at hz
    · cases hz; rw [hv.bl, hu.bl]; exact k _ _ _ (.refl nr fr) (by rw [RV])
    · cases hz
  · cases hz
def gIx : PV → PV → Option PV
  | .str z, .int i => if z.length ≤ sizeLine then (atI z.cps.toList i).map fun c => .str ⟨#[c]⟩ else none
  | .tup xs, .int i => atI xs i
  | .bx .lst xs, .int i => atI xs i
  | _, _ => none
theorem atI_rv {M : PH} {F : ASet} {xs ps : List PV} (r : RVs M F xs ps) {i : Int} {v : PV} (h : atI xs i = some v) : ∃ p, atI ps i = some p ∧ RV M F v p := by
  unfold atI at h ⊢
  rw [← r.length]
  cases e : ixN xs.length i with
  | none => rw [e] at h; cases h
  | some j =>
    rw [e] at h
    exact r.get h
theorem opg_ix : OpG rIxP gIx := by
  intro M F v u x y z Q nr fr hv hu hz k
  unfold gIx at hz
  split at hz
  · split at hz
    · rename_i hl
      obtain ⟨c, e, rfl⟩ := Option.map_eq_some_iff.mp hz
      rw [hv.str, hu.int]
      exact rIx_str hl e (k _ _ _ (.refl nr fr) (by rw [RV]))
    · cases hz
  · obtain ⟨ps, rfl, r⟩ := hv.tup
    obtain ⟨p, e, rp⟩ := atI_rv r hz
    rw [hu.int]
    exact rIx_tup e (k _ _ _ (.refl nr fr) rp)
  · obtain ⟨a, ps, rfl, m, r⟩ := VV.lst hv
    obtain ⟨p, e, rp⟩ := atI_rv r hz
    rw [hu.int]
    exact rIx_lst m e (k _ _ _ (.refl nr fr) rp)
  · cases hz

section
variable {cm : Nat → Addr} {X : Cx} {W : WX} {pos : Pos}
theorem ve_ix {a b : Expr} {fa fb : VEnv → Rs TV} (ha : EE X W a (wE cm fa)) (hb : EE X W b (wE cm fb)) (hs : PlainIx b := by exact fun _ _ => rfl) : EE X W (.Subscript a b pos) (wE cm (fOp gIx fa fb)) :=
  ve_of (ee_ix ha hb hs) (v_op opg_ix)
/-! ## slices -/
def oNo : VEnv → Rs (Option Int) := fun e => .ok none e
def oPt (f : VEnv → Rs TV) : VEnv → Rs (Option Int) := fun e => (f e).bind fun t e1 => match t with
  | .sh (.int i) => .ok (some i) e1
  | _ => .no
theorem vo_no : EO X W none (wO cm oNo) := by
  refine vo_of eo_none ?_
  rintro EP s M Q ⟨e, F, R, h⟩
  exact h M F R (.refl _ _ _ _)
theorem vo_pt {x : Expr} {f : VEnv → Rs TV} (h : EE X W x (wE cm f)) : EO X W (some x) (wO cm (oPt f)) := by
  refine vo_of (eo_some h) ?_
  rintro EP s M Q ⟨e, F, R, h⟩
  refine wPt_i ⟨e, F, R, h.bind.mono fun t e1 M1 F1 R1 G1 h1 p hp => ?_⟩
  split at h1
  · rw [RT, RV] at hp; subst hp
    exact qPt_i (h1 M1 F1 R1 (.refl _ _ _ _))
  · exact h1.elim
def gSl (v : PV) (lo hi : Option Int) : Option PV := match v with
  | .tup xs => some (.tup (pcut xs lo hi))
  | .str z => if z.length ≤ sizeLine then some (.str (cutS z lo hi)) else none
  | .bx .lst xs => some (PV.lst (pcut xs lo hi))
  | _ => none
theorem pcut_rv {M : PH} {F : ASet} {xs ps : List PV} (r : RVs M F xs ps) (lo hi : Option Int) : RVs M F (pcut xs lo hi) (pcut ps lo hi) := by
  unfold pcut
  rw [← r.length]
  exact (r.drop _).take _
def fSl (f : VEnv → Rs TV) (l h : VEnv → Rs (Option Int)) : VEnv → Rs TV := fun e => (f e).bind fun t e1 => (l e1).bind fun lo e2 => (h e2).bind fun hi e3 => .ofO (match view e3 t with
  | some v => (match gSl v lo hi with
    | some z => some (.sh z)
    | none => none)
  | none => none) e3
theorem sl_use {M : PH} {F : ASet} {v p z : PV} {lo hi : Option Int} {Q : QE} (nr : NR M) (fr : ∀ a, F a → M a ≠ none) (h : VV M F v p) (hz : gSl v lo hi = some z) (k : ∀ p M' F', Fr M F M' F' → RV M' F' z p → Q p M') : rSlP p lo hi M Q := by
  unfold gSl at hz
  split at hz
  · cases hz
    obtain ⟨ps, rfl, r⟩ := h.tup
    exact k _ _ _ (.refl nr fr) (by rw [RV]; exact ⟨_, rfl, pcut_rv r lo hi⟩)
  · split at hz
    · rename_i hl
      cases hz; rw [h.str]; exact ⟨hl, k _ _ _ (.refl nr fr) (by rw [RV])⟩
    · cases hz
  · cases hz
    obtain ⟨a, ps, rfl, m, r⟩ := VV.lst h
    exact rSl_lst (listAt_lst m) fun D n => k _ _ _ (fr_new nr fr (nr.none n)) (repF_new (nr.none n) (pcut_rv r lo hi))
  · cases hz
theorem ve_sl {x : Expr} {lo hi : Option Expr} {f : VEnv → Rs TV} {l h : VEnv → Rs (Option Int)} {p2 : Pos} (he : EE X W x (wE cm f)) (hl : EO X W lo (wO cm l)) (hh : EO X W hi (wO cm h)) : EE X W (.Subscript x (.Slice lo hi none p2) pos) (wE cm (fSl f l h)) := by
  refine ve_of (ee_sl he hl hh) ?_
  rintro EP s M Q ⟨e, F, R, h⟩
  refine ⟨e, F, R, h.bind.mono fun t e1 M1 F1 R1 G1 h1 p hp => ⟨e1, F1, R1, OkE.mono (OkE.bind h1) fun lo e2 M2 F2 R2 G2 h2 => ⟨e2, F2, R2, OkE.mono (OkE.bind h2) fun hi e3 M3 F3 R3 G3 h3 => ?_⟩⟩⟩
  obtain ⟨z, h4, h5⟩ := h3.ofO
  split at h4
  · rename_i v hv
    split at h4
    · rename_i z' hz
      cases h4
      exact sl_use R3.nr R3.fr (view_rep R3 (RT.go R2 G3 (RT.go R1 G2 hp)) hv) hz fun p M' F' f hp => h5 M' F' (R3.fresh f) (R3.fresh_go f) p hp
    · cases h4
  · cases h4
def gBack : PV → Option PV
  | .tup xs => some (.tup xs.reverse)
  | .bx .lst xs => some (PV.lst xs.reverse)
  | _ => none
def fUn (g : PV → Option PV) (f : VEnv → Rs TV) : VEnv → Rs TV := fun e => (f e).bind fun t e1 => .ofO (match view e1 t with
  | some v => (match g v with
    | some z => some (.sh z)
    | none => none)
  | none => none) e1
/-- operators of one -/
def UnG (r : PV → PH → QE → Prop) (g : PV → Option PV) : Prop := ∀ {M : PH} {F : ASet} {v x z : PV} {Q : QE}, NR M → (∀ a, F a → M a ≠ none) → VV M F v x → g v = some z → (∀ p M' F', Fr M F M' F' → RV M' F' z p → Q p M') → r x M Q
theorem v_un {r : PV → PH → QE → Prop} {g : PV → Option PV} (hg : UnG r g) {f : VEnv → Rs TV} {EP : PX} {s : PSt} {M : PH} {Q : QE} (h : wE cm (fUn g f) EP s M Q) : wE cm f EP s M fun p M1 => r p M1 Q := by
  obtain ⟨e, F, R, h⟩ := h
  refine ⟨e, F, R, h.bind.mono fun t e1 M1 F1 R1 G1 h1 p hp => ?_⟩
  obtain ⟨z, h4, h5⟩ := h1.ofO
  split at h4
  · rename_i v hv
    split at h4
    · rename_i z' hz
      cases h4
      exact hg R1.nr R1.fr (view_rep R1 hp hv) hz fun p M' F' f hp => h5 M' F' (R1.fresh f) (R1.fresh_go f) p hp
    · cases h4
  · cases h4
theorem ung_back : UnG (fun p M Q => qBack Q p M) gBack := by
  intro M F v x z Q nr fr hv hz k
  unfold gBack at hz
  split at hz
  · cases hz
    obtain ⟨ps, rfl, r⟩ := hv.tup
    exact k _ _ _ (.refl nr fr) (by rw [RV]; exact ⟨_, rfl, r.reverse⟩)
  · cases hz
    obtain ⟨a, ps, rfl, m, r⟩ := VV.lst hv
    unfold qBack
    dsimp only
    rw [listAt_lst m]
    exact fun D n => k _ _ _ (fr_new nr fr (nr.none n)) (repF_new (nr.none n) r.reverse)
  · cases hz
theorem ve_back {x : Expr} {f : VEnv → Rs TV} {k : Nat} {p1 p2 p3 : Pos} (h : EE X W x (wE cm f)) : EE X W (.Subscript x (.Slice none none (some (.UnaryOp .USub (.Constant (.int 1) k p1) p2)) p3) pos) (wE cm (fUn gBack f)) :=
  ve_of (ee_back h) fun EP s M Q h => v_un ung_back h
def gNeg : PV → Option PV
  | .int i => some (.int (-i))
  | _ => none
theorem ung_neg : UnG (fun p M Q => qNeg Q p M) gNeg := by
  intro M F v x z Q nr fr hv hz k
  unfold gNeg at hz
  split at hz
  · cases hz; rw [hv.int]; exact k _ _ _ (.refl nr fr) (by rw [RV])
  · cases hz
theorem ve_neg {x : Expr} {f : VEnv → Rs TV} (h : EE X W x (wE cm f)) : EE X W (.UnaryOp .USub x pos) (wE cm (fUn gNeg f)) :=
  ve_of (ee_neg h) fun EP s M Q h => wNeg_i (v_un ung_neg h)
end
end PL
set_option autoImplicit false
namespace PL
open PySem PySem.Spec L2
open PyProof.Rows hiding St

/-! ## calls of built-ins -/
def CG (r : PC) (g : List PV → Option PV) : Prop := ∀ {M : PH} {F : ASet} {vs ps : List PV} {z : PV} {Q : QE}, NR M → (∀ a, F a → M a ≠ none) → VVs M F vs ps → g vs = some z → (∀ p M' F', Fr M F M' F' → RV M' F' z p → Q p M') → r ps M Q
def CLG (r : PCL) (g : List PV → Option (List PV)) : Prop := ∀ {M : PH} {F : ASet} {vs ps zs : List PV} {Q : List PV → PH → Prop}, NR M → (∀ a, F a → M a ≠ none) → VVs M F vs ps → g vs = some zs → (∀ qs M' F', Fr M F M' F' → RVs M' F' zs qs → Q qs M') → r ps M Q
/-- of a list just made -/
def LCG (r : PC) (g : List PV → Option PV) : Prop := ∀ {M : PH} {F : ASet} {xs ps : List PV} {z : PV} {Q : QE}, NR M → (∀ a, F a → M a ≠ none) → RVs M F xs ps → g xs = some z → (∀ p M' F', Fr M F M' F' → RV M' F' z p → Q p M') → r ps M Q
def LLG (r : PCL) (g : List PV → Option (List PV)) : Prop := ∀ {M : PH} {F : ASet} {xs ps zs : List PV} {Q : List PV → PH → Prop}, NR M → (∀ a, F a → M a ≠ none) → RVs M F xs ps → g xs = some zs → (∀ qs M' F', Fr M F M' F' → RVs M' F' zs qs → Q qs M') → r ps M Q
def fCB (g : List PV → Option PV) (f : VEnv → Rs (List TV)) : VEnv → Rs TV := fun e => (f e).bind fun ts e1 => .ofO (match views e1 ts with
  | some vs => (match g vs with
    | some z => some (.sh z)
    | none => none)
  | none => none) e1
def lCB (g : List PV → Option (List PV)) (f : VEnv → Rs (List TV)) : VEnv → Rs (List PV) := fun e => (f e).bind fun ts e1 => .ofO (match views e1 ts with
  | some vs => g vs
  | none => none) e1
def fCBL (g : List PV → Option PV) (f : VEnv → Rs (List PV)) : VEnv → Rs TV := fun e => (f e).bind fun xs e1 => .ofO (match g xs with
    | some z => some (.sh z)
    | none => none) e1
def lCBL (g : List PV → Option (List PV)) (f : VEnv → Rs (List PV)) : VEnv → Rs (List PV) := fun e => (f e).bind fun xs e1 => .ofO (g xs) e1
section
variable {cm : Nat → Addr} {X : Cx} {W : WX} {pos : Pos}
theorem v_cb {r : PC} {g : List PV → Option PV} (hg : CG r g) {f : VEnv → Rs (List TV)} : ∀ EP s M Q, wE cm (fCB g f) EP s M Q → wCB r (wA cm f) EP s M Q := by
  rintro EP s M Q ⟨e, F, R, h⟩
  refine ⟨e, F, R, h.bind.mono fun ts e1 M1 F1 R1 G1 h1 ps hps => ?_⟩
  obtain ⟨z, h4, h5⟩ := h1.ofO
  split at h4
  · rename_i vs hv
    split at h4
    · rename_i z' hz
      cases h4
      exact hg R1.nr R1.fr (views_rep R1 hps hv) hz fun p M' F' f hp => h5 M' F' (R1.fresh f) (R1.fresh_go f) p hp
    · cases h4
  · cases h4
theorem v_cbl {r : PCL} {g : List PV → Option (List PV)} (hg : CLG r g) {f : VEnv → Rs (List TV)} : ∀ EP s M Q, wL cm (lCB g f) EP s M Q → wCBL r (wA cm f) EP s M Q := by
  rintro EP s M Q ⟨e, F, R, h⟩
  refine ⟨e, F, R, h.bind.mono fun ts e1 M1 F1 R1 G1 h1 ps hps => ?_⟩
  obtain ⟨z, h4, h5⟩ := h1.ofO
  split at h4
  · rename_i vs hv
    exact hg R1.nr R1.fr (views_rep R1 hps hv) h4 fun p M' F' f hp => h5 M' F' (R1.fresh f) (R1.fresh_go f) p hp
  · cases h4
theorem v_lcb {r : PC} {g : List PV → Option PV} (hg : LCG r g) {f : VEnv → Rs (List PV)} : ∀ EP s M Q, wE cm (fCBL g f) EP s M Q → wCB r (wL cm f) EP s M Q := by
  rintro EP s M Q ⟨e, F, R, h⟩
  refine ⟨e, F, R, h.bind.mono fun ts e1 M1 F1 R1 G1 h1 ps hps => ?_⟩
  obtain ⟨z, h4, h5⟩ := h1.ofO
  split at h4
  · rename_i z' hz
    cases h4
    exact hg R1.nr R1.fr hps hz fun p M' F' f hp => h5 M' F' (R1.fresh f) (R1.fresh_go f) p hp
  · cases h4
theorem v_lcbl {r : PCL} {g : List PV → Option (List PV)} (hg : LLG r g) {f : VEnv → Rs (List PV)} : ∀ EP s M Q, wL cm (lCBL g f) EP s M Q → wCBL r (wL cm f) EP s M Q := by
  rintro EP s M Q ⟨e, F, R, h⟩
  refine ⟨e, F, R, h.bind.mono fun ts e1 M1 F1 R1 G1 h1 ps hps => ?_⟩
  obtain ⟨z, h4, h5⟩ := h1.ofO
  exact hg R1.nr R1.fr hps h4 fun p M' F' f hp => h5 M' F' (R1.fresh f) (R1.fresh_go f) p hp
end
/-! ### which -/
def gLen : List PV → Option PV
  | [.str y] => if y.length ≤ sizeLine then some (.int y.length) else none
  | [.bx .lst xs] => some (.int xs.length)
  | [.tup xs] => some (.int xs.length)
  | _ => none
theorem vvs1 {M : PH} {F : ASet} {v : PV} {ps : List PV} (h : VVs M F [v] ps) : ∃ p, ps = [p] ∧ VV M F v p := by
  obtain ⟨p, r, rfl, h1, h2⟩ := h
  cases h2
  exact ⟨p, rfl, h1⟩
theorem vvs2 {M : PH} {F : ASet} {v u : PV} {ps : List PV} (h : VVs M F [v, u] ps) : ∃ p q, ps = [p, q] ∧ VV M F v p ∧ VV M F u q := by
  obtain ⟨p, r, rfl, h1, q, t, rfl, h2, h3⟩ := h
  cases h3
  exact ⟨p, q, rfl, h1, h2⟩
theorem cg_len : CG cLen gLen := by
  intro M F vs ps z Q nr fr hv hz k
  unfold gLen at hz
  split at hz
  · obtain ⟨p, rfl, hp⟩ := vvs1 hv
    split at hz
    · rename_i hl
      cases hz; rw [hp.str]; exact ⟨hl, k _ _ _ (.refl nr fr) (by rw [RV])⟩
    · cases hz
  · obtain ⟨p, rfl, hp⟩ := vvs1 hv
    cases hz
    obtain ⟨a, ps, rfl, m, r⟩ := VV.lst hp
    refine cLen_lst m ?_
    rw [← r.length]
    exact k _ _ _ (.refl nr fr) (by rw [RV])
  · obtain ⟨p, rfl, hp⟩ := vvs1 hv
    cases hz
    obtain ⟨ps, rfl, r⟩ := hp.tup
    refine cLen_tup ?_
    rw [← r.length]
    exact k _ _ _ (.refl nr fr) (by rw [RV])
  · cases hz
def gLenL (xs : List PV) : Option PV := some (.int xs.length)
theorem lg_len : LCG cLenL gLenL := by
  intro M F xs ps z Q nr fr hv hz k
  cases hz
  refine cLenL_i ?_
  rw [← hv.length]
  exact k _ _ _ (.refl nr fr) (by rw [RV])
def gTup : List PV → Option PV
  | [.tup xs] => some (.tup xs)
  | [.bx .lst xs] => some (.tup xs)
  | _ => none
theorem cg_tup : CG cTup gTup := by
  intro M F vs ps z Q nr fr hv hz k
  unfold gTup at hz
  split at hz
  · obtain ⟨p, rfl, hp⟩ := vvs1 hv
    cases hz
    obtain ⟨ps, rfl, r⟩ := hp.tup
    exact cTup_tup (k _ _ _ (.refl nr fr) (by rw [RV]; exact ⟨_, rfl, r⟩))
  · obtain ⟨p, rfl, hp⟩ := vvs1 hv
    cases hz
    obtain ⟨a, ps, rfl, m, r⟩ := VV.lst hp
    exact cTup_lst m (k _ _ _ (.refl nr fr) (by rw [RV]; exact ⟨_, rfl, r⟩))
  · cases hz
def gTupL (xs : List PV) : Option PV := some (.tup xs)
theorem lg_tup : LCG cTupL gTupL := by
  intro M F xs ps z Q nr fr hv hz k
  cases hz
  exact cTupL_i (k _ _ _ (.refl nr fr) (by rw [RV]; exact ⟨_, rfl, hv⟩))
theorem bools_purs : ∀ {xs : List PV} {bs : List Bool}, boolsOf xs = some bs → purs xs = true
  | [], _, _ => by rw [purs]
  | .bl b :: t, bs, h => by
    rw [boolsOf] at h
    obtain ⟨cs, e, _⟩ := Option.map_eq_some_iff.mp h
    rw [purs, pur_bl, bools_purs e]; rfl
  | .non :: _, _, h => by cases h
  | .int _ :: _, _, h => by cases h
  | .str _ :: _, _, h => by cases h
  | .tup _ :: _, _, h => by cases h
  | .ref _ :: _, _, h => by cases h
  | .ty _ :: _, _, h => by cases h
  | .bx _ _ :: _, _, h => by cases h
def gAllB (xs : List PV) : Option PV := (boolsOf xs).map fun bs => .bl (bs.all id)
def gAnyB (xs : List PV) : Option PV := (boolsOf xs).map fun bs => .bl (bs.any id)
theorem lg_all : LCG cAllL gAllB := by
  intro M F xs ps z Q nr fr hv hz k
  obtain ⟨bs, e, rfl⟩ := Option.map_eq_some_iff.mp hz
  rw [repFs_pur (bools_purs e) hv]
  unfold cAllL
  rw [e]
  exact k _ _ _ (.refl nr fr) (by rw [RV])
theorem lg_any : LCG cAnyL gAnyB := by
  intro M F xs ps z Q nr fr hv hz k
  obtain ⟨bs, e, rfl⟩ := Option.map_eq_some_iff.mp hz
  rw [repFs_pur (bools_purs e) hv]
  unfold cAnyL
  rw [e]
  exact k _ _ _ (.refl nr fr) (by rw [RV])
def gMax2 : List PV → Option PV
  | [.int i, .int j] => some (.int (if j > i then j else i))
  | _ => none
def gMin2 : List PV → Option PV
  | [.int i, .int j] => some (.int (if j < i then j else i))
  | _ => none
theorem cg_max2 : CG cMax2 gMax2 := by
  intro M F vs ps z Q nr fr hv hz k
  unfold gMax2 at hz
  split at hz
  · obtain ⟨p, q, rfl, hp, hq⟩ := vvs2 hv
    cases hz; rw [hp.int, hq.int]; exact k _ _ _ (.refl nr fr) (by rw [RV])
  · cases hz
theorem cg_min2 : CG cMin2 gMin2 := by
  intro M F vs ps z Q nr fr hv hz k
  unfold gMin2 at hz
  split at hz
  · obtain ⟨p, q, rfl, hp, hq⟩ := vvs2 hv
    cases hz; rw [hp.int, hq.int]; exact k _ _ _ (.refl nr fr) (by rw [RV])
  · cases hz
open Classical in
noncomputable def gRepr : List PV → Option PV
  | [v] => match vdat v with
    | some d => if Shw d then some (.str d.shown) else none
    | none => none
  | _ => none
theorem cg_repr : CG cRepr gRepr := by
  intro M F vs ps z Q nr fr hv hz k
  unfold gRepr at hz
  split at hz
  · obtain ⟨p, rfl, hp⟩ := vvs1 hv
    split at hz
    · rename_i d e
      split at hz
      · rename_i hs
        cases hz
        unfold cRepr
        dsimp only
        rw [vdat_datM hp e]
        exact ⟨hs, k _ _ _ (.refl nr fr) (by rw [RV])⟩
      · cases hz
    · cases hz
  · cases hz
open Classical in
noncomputable def gSorted : List PV → Option (List PV)
  | [.bx .lst xs] => if Srtb xs ∧ xs.length ≤ sizeLine then some (sortP xs) else none
  | _ => none
theorem purs_of_mem : ∀ {xs : List PV}, (∀ x ∈ xs, pur x = true) → purs xs = true
  | [], _ => by rw [purs]
  | x :: xs, h => by
    rw [purs, Bool.and_eq_true]
    exact ⟨h x List.mem_cons_self, purs_of_mem fun y hy => h y (List.mem_cons_of_mem _ hy)⟩
theorem purs_sort {xs : List PV} (h : purs xs = true) : purs (sortP xs) = true :=
  purs_of_mem fun x hx => purs_mem h x ((List.mergeSort_perm xs leP).mem_iff.mp hx)
theorem clg_sorted : CLG cSorted gSorted := by
  intro M F vs ps zs Q nr fr hv hz k
  unfold gSorted at hz
  split at hz
  · obtain ⟨p, rfl, hp⟩ := vvs1 hv
    split at hz
    · rename_i hs
      cases hz
      obtain ⟨a, qs, rfl, m, r⟩ := VV.lst hp
      have := repFs_pur hs.1.1 r
      subst this
      exact cSorted_lst m hs.1 hs.2 (k _ _ _ (.refl nr fr) (repFs_self (purs_sort hs.1.1)))
    · cases hz
  · cases hz
open Classical in
noncomputable def gSortedL (xs : List PV) : Option (List PV) := if Srtb xs then some (sortP xs) else none
theorem llg_sorted : LLG cSortedL gSortedL := by
  intro M F xs ps zs Q nr fr hv hz k
  unfold gSortedL at hz
  split at hz
  · rename_i hs
    cases hz
    have := repFs_pur hs.1 hv
    subst this
    exact cSortedL_i hs (k _ _ _ (.refl nr fr) (repFs_self (purs_sort hs.1)))
  · cases hz
def gList : List PV → Option (List PV)
  | [.tup xs] => if xs.length ≤ sizeLine then some xs else none
  | [.bx .lst xs] => if xs.length ≤ sizeLine then some xs else none
  | _ => none
theorem clg_list : CLG cList gList := by
  intro M F vs ps zs Q nr fr hv hz k
  unfold gList at hz
  split at hz
  · obtain ⟨p, rfl, hp⟩ := vvs1 hv
    split at hz
    · rename_i hl
      cases hz
      obtain ⟨qs, rfl, r⟩ := hp.tup
      exact ⟨by rw [← r.length]; exact hl, k _ _ _ (.refl nr fr) r⟩
    · cases hz
  · obtain ⟨p, rfl, hp⟩ := vvs1 hv
    split at hz
    · rename_i hl
      cases hz
      obtain ⟨a, qs, rfl, m, r⟩ := VV.lst hp
      unfold cList seqAt
      dsimp only
      rw [listAt_lst m]
      exact ⟨by rw [← r.length]; exact hl, k _ _ _ (.refl nr fr) r⟩
    · cases hz
  · cases hz
def vty : PV → Option String
  | .non => some "NoneType"
  | .bl _ => some "bool"
  | .int _ => some "int"
  | .str _ => some "str"
  | .tup _ => some "tuple"
  | .bx .lst _ => some "list"
  | _ => none
theorem vty_tyN {M : PH} {F : ASet} {v p : PV} {t : String} (h : VV M F v p) (ht : vty v = some t) : tyN M p = some t := by
  unfold vty at ht
  split at ht
  · rw [h.non]; exact ht
  · rw [h.bl]; exact ht
  · rw [h.int]; exact ht
  · rw [h.str]; exact ht
  · obtain ⟨ps, rfl, _⟩ := h.tup; exact ht
  · obtain ⟨a, ps, rfl, m, _⟩ := VV.lst h
    unfold tyN
    dsimp only
    rw [m]; exact ht
  · cases ht
def gIsi : List PV → Option PV
  | [v, .ty T] => match vty v with
    | some t => (kitB t T).map .bl
    | none => none
  | _ => none
theorem cg_isi : CG cIsi gIsi := by
  intro M F vs ps z Q nr fr hv hz k
  unfold gIsi at hz
  split at hz
  · obtain ⟨p, q, rfl, hp, hq⟩ := vvs2 hv
    split at hz
    · rename_i t ht
      obtain ⟨b, e, rfl⟩ := Option.map_eq_some_iff.mp hz
      rw [hq.ty]
      exact ⟨t, b, vty_tyN hp ht, e, k _ _ _ (.refl nr fr) (by rw [RV])⟩
    · cases hz
  · cases hz

/-! ## lists just made, as operands -/
section
variable {cm : Nat → Addr} {X : Cx} {W : WX} {pos : Pos}
def lCatEL (f : VEnv → Rs TV) (g : VEnv → Rs (List PV)) : VEnv → Rs (List PV) := fun e => (f e).bind fun t e1 => (g e1).bind fun ys e2 => .ofO (match view e2 t with
  | some (.bx .lst xs) => if xs.length + ys.length ≤ sizeLine then some (xs ++ ys) else none
  | _ => none) e2
theorem vl_catEL {a b : Expr} {f : VEnv → Rs TV} {g : VEnv → Rs (List PV)} (ha : EE X W a (wE cm f)) (hb : EL X W b (wL cm g)) : EL X W (.BinOp a .Add b pos) (wL cm (lCatEL f g)) := by
  refine vl_of (el_catEL ha hb) ?_
  rintro EP s M Q ⟨e, F, R, h⟩
  refine ⟨e, F, R, h.bind.mono fun t e1 M1 F1 R1 G1 h1 x hx => ⟨e1, F1, R1, OkE.mono (OkE.bind h1) fun ys e2 M2 F2 R2 G2 h2 qs hqs => ?_⟩⟩
  obtain ⟨z, h4, h5⟩ := h2.ofO
  split at h4
  · rename_i xs hv
    split at h4
    · rename_i hl
      cases h4
      obtain ⟨a, ps, rfl, m, r⟩ := VV.lst (view_rep R2 (RT.go R1 G2 hx) hv)
      exact ⟨ps, m, by rw [← r.length, ← hqs.length]; exact hl, h5 M2 F2 R2 (.refl _ _ _ _) _ (r.append hqs)⟩
    · cases h4
  · cases h4
def fEqL (neg : Bool) (f : VEnv → Rs TV) (g : VEnv → Rs (List PV)) : VEnv → Rs TV := fun e => (f e).bind fun t e1 => (g e1).bind fun ys e2 => .ofO (match view e2 t with
  | some v => (match vdat v with
    | some d => if (purs ys && shp d && shp (.list (dats ys))) = true then some (.sh (.bl (if neg then !PyData.eqv d (.list (dats ys)) else PyData.eqv d (.list (dats ys))))) else none
    | none => none)
  | none => none) e2
theorem v_eqL {neg : Bool} {f : VEnv → Rs TV} {g : VEnv → Rs (List PV)} : ∀ EP s M Q, wE cm (fEqL neg f g) EP s M Q → wEqL neg (wE cm f) (wL cm g) EP s M Q := by
  rintro EP s M Q ⟨e, F, R, h⟩
  refine ⟨e, F, R, h.bind.mono fun t e1 M1 F1 R1 G1 h1 x hx => ⟨e1, F1, R1, OkE.mono (OkE.bind h1) fun ys e2 M2 F2 R2 G2 h2 qs hqs => ?_⟩⟩
  obtain ⟨z, h4, h5⟩ := h2.ofO
  split at h4
  · rename_i v hv
    split at h4
    · rename_i d hd
      split at h4
      · rename_i hs
        rw [Bool.and_eq_true, Bool.and_eq_true] at hs
        cases h4
        have := repFs_pur hs.1.1 hqs
        subst this
        rw [vdat_datM (view_rep R2 (RT.go R1 G2 hx) hv) hd]
        exact ⟨hs.1.1, hs.1.2, hs.2, h5 M2 F2 R2 (.refl _ _ _ _) _ (by rw [RT, RV])⟩
      · cases h4
    · cases h4
  · cases h4
theorem ve_eqL {a b : Expr} {f : VEnv → Rs TV} {g : VEnv → Rs (List PV)} (hu : X.A.units + 64 < cLine) (ha : EE X W a (wE cm f)) (hb : EL X W b (wL cm g)) : EE X W (.Compare a [.Eq] [b] pos) (wE cm (fEqL false f g)) := ve_of (ee_eqL hu ha hb) v_eqL
theorem ve_neL {a b : Expr} {f : VEnv → Rs TV} {g : VEnv → Rs (List PV)} (hu : X.A.units + 64 < cLine) (ha : EE X W a (wE cm f)) (hb : EL X W b (wL cm g)) : EE X W (.Compare a [.NotEq] [b] pos) (wE cm (fEqL true f g)) := ve_of (ee_neL hu ha hb) v_eqL
theorem vt_eqL {a b : Expr} {f : VEnv → Rs TV} {g : VEnv → Rs (List PV)} (hu : X.A.units + 64 < cLine) (ha : EE X W a (wE cm f)) (hb : EL X W b (wL cm g)) : ET X W (.Compare a [.Eq] [b] pos) (wT cm (fTest (fEqL false f g))) := vt_of (et_eqL hu ha hb) (v_test (mono_eqL wE_mono wL_mono) v_eqL)
theorem vt_neL {a b : Expr} {f : VEnv → Rs TV} {g : VEnv → Rs (List PV)} (hu : X.A.units + 64 < cLine) (ha : EE X W a (wE cm f)) (hb : EL X W b (wL cm g)) : ET X W (.Compare a [.NotEq] [b] pos) (wT cm (fTest (fEqL true f g))) := vt_of (et_neL hu ha hb) (v_test (mono_eqL wE_mono wL_mono) v_eqL)
def fIxL (g : VEnv → Rs (List PV)) (f : VEnv → Rs TV) : VEnv → Rs TV := fun e => (g e).bind fun xs e1 => (f e1).bind fun t e2 => .ofO (match t with
  | .sh (.int k) => (atI xs k).map .sh
  | _ => none) e2
theorem ve_ixL {a b : Expr} {f : VEnv → Rs TV} {g : VEnv → Rs (List PV)} (ha : EL X W a (wL cm g)) (hb : EE X W b (wE cm f)) (hs : PlainIx b := by exact fun _ _ => rfl) : EE X W (.Subscript a b pos) (wE cm (fIxL g f)) := by
  refine ve_of (ee_ixL ha hb hs) ?_
  rintro EP s M Q ⟨e, F, R, h⟩
  refine wIxL_i ⟨e, F, R, h.bind.mono fun xs e1 M1 F1 R1 G1 h1 ps hps => ⟨e1, F1, R1, OkE.mono (OkE.bind h1) fun t e2 M2 F2 R2 G2 h2 q hq => ?_⟩⟩
  obtain ⟨z, h4, h5⟩ := h2.ofO
  split at h4
  · obtain ⟨v, e3, rfl⟩ := Option.map_eq_some_iff.mp h4
    rw [RT, RV] at hq
    subst hq
    obtain ⟨p, e4, hp⟩ := atI_rv (RVs.go R1 G2 hps) e3
    exact qIxL_i e4 (h5 M2 F2 R2 (.refl _ _ _ _) _ hp)
  · cases h4
def lRepL (g : VEnv → Rs (List PV)) (f : VEnv → Rs TV) : VEnv → Rs (List PV) := fun e => (g e).bind fun xs e1 => (f e1).bind fun t e2 => .ofO (match t with
  | .sh (.int k) => if 0 ≤ k ∧ k ≤ 1000 ∧ xs.length ≤ 1000 then some (List.replicate k.toNat xs).flatten else none
  | _ => none) e2
theorem vl_repL {a b : Expr} {f : VEnv → Rs TV} {g : VEnv → Rs (List PV)} (ha : EL X W a (wL cm g)) (hb : EE X W b (wE cm f)) : EL X W (.BinOp a .Mult b pos) (wL cm (lRepL g f)) := by
  refine vl_of (el_repL ha hb) ?_
  rintro EP s M Q ⟨e, F, R, h⟩
  refine wRepL_i ⟨e, F, R, h.bind.mono fun xs e1 M1 F1 R1 G1 h1 ps hps => ⟨e1, F1, R1, OkE.mono (OkE.bind h1) fun t e2 M2 F2 R2 G2 h2 q hq => ?_⟩⟩
  obtain ⟨z, h4, h5⟩ := h2.ofO
  split at h4
  · split at h4
    · rename_i hk
      cases h4
      rw [RT, RV] at hq
      subst hq
      exact qRepL_i hk.1 hk.2.1 (by rw [← hps.length]; exact hk.2.2) (h5 M2 F2 R2 (.refl _ _ _ _) _ ((RVs.go R1 G2 hps).rep _))
    · cases h4
  · cases h4
theorem strs_purs : ∀ {xs : List PV} {bs : List Str}, strsOf xs = some bs → purs xs = true
  | [], _, _ => by rw [purs]
  | .str b :: t, bs, h => by
    rw [strsOf] at h
    obtain ⟨cs, e, _⟩ := Option.map_eq_some_iff.mp h
    rw [purs, pur_str, strs_purs e]; rfl
  | .non :: _, _, h => by cases h
  | .int _ :: _, _, h => by cases h
  | .bl _ :: _, _, h => by cases h
  | .tup _ :: _, _, h => by cases h
  | .ref _ :: _, _, h => by cases h
  | .ty _ :: _, _, h => by cases h
  | .bx _ _ :: _, _, h => by cases h
def fJoinL (f : VEnv → Rs TV) (g : VEnv → Rs (List PV)) : VEnv → Rs TV := fun e => (f e).bind fun t e1 => (match t with
  | .sh (.str sep) => (g e1).bind fun xs e2 => .ofO (match strsOf xs with
    | some ys => if (ys.map (·.length)).sum + ys.length * sep.length ≤ 16777216 then some (.sh (.str (Str.join sep ys))) else none
    | none => none) e2
  | _ => .no)
theorem ve_joinL {o b : Expr} {f : VEnv → Rs TV} {g : VEnv → Rs (List PV)} {apos : Pos} (ho : EE X W o (wE cm f)) (he : EL X W b (wL cm g)) (hs : starEach [b] X.env = [(false, eval b X.env)] := by rfl) (hbase : attributeBase o "join" X.env (eval o X.env) = eval o X.env := by rfl) (hline : (apos.endLine == pos.line) = true := by rfl) :
    EE X W (.Call (.Attribute o "join" apos) [b] [] pos) (wE cm (fJoinL f g)) := by
  refine ve_of (ee_joinL ho he hs hbase hline) ?_
  rintro EP s M Q ⟨e, F, R, h⟩
  refine wJoinL_i ⟨e, F, R, h.bind.mono fun t e1 M1 F1 R1 G1 h1 x hx => ?_⟩
  split at h1
  · rw [RT, RV] at hx
    subst hx
    refine qJn_i ⟨e1, F1, R1, OkE.mono (OkE.bind h1) fun xs e2 M2 F2 R2 G2 h2 qs hqs => ?_⟩
    obtain ⟨z, h4, h5⟩ := h2.ofO
    split at h4
    · rename_i ys hy
      split at h4
      · rename_i hl
        cases h4
        have := repFs_pur (strs_purs hy) hqs
        subst this
        rw [hy]
        exact ⟨hl, h5 M2 F2 R2 (.refl _ _ _ _) _ (by rw [RT, RV])⟩
      · cases h4
    · cases h4
  · exact h1.elim
/-- CONST.index(e) -/
def idxOf (ys : List Str) (z : Str) : Option Nat := ys.findIdx? (· == z)
def fKIx (ys : List Str) (f : VEnv → Rs TV) : VEnv → Rs TV := fun e => (f e).bind fun t e1 => .ofO (match t with
  | .sh (.str z) => (ys.findIdx? fun y => decide (y = z)).map fun j => .sh (.int (j : Nat))
  | _ => none) e1
theorem v_kix {ys : List Str} {f : VEnv → Rs TV} : ∀ EP s M Q, wE cm (fKIx ys f) EP s M Q → wKIx ys (wE cm f) EP s M Q := by
  rintro EP s M Q ⟨e, F, R, h⟩
  refine ⟨e, F, R, h.bind.mono fun t e1 M1 F1 R1 G1 h1 x hx => ?_⟩
  obtain ⟨z, h4, h5⟩ := h1.ofO
  split at h4
  · rename_i w
    obtain ⟨j, e3, rfl⟩ := Option.map_eq_some_iff.mp h4
    rw [RT, RV] at hx
    subst hx
    rw [List.findIdx?_eq_some_iff_getElem] at e3
    obtain ⟨hj, h6, h7⟩ := e3
    refine ⟨j, ?_, fun m hm hc => ?_, h5 M1 F1 R1 (.refl _ _ _ _) _ (by rw [RT, RV])⟩
    · rw [List.getElem?_eq_getElem hj]; exact congrArg some (of_decide_eq_true h6)
    · have hm2 : m < ys.length := by omega
      have := h7 m hm
      rw [List.getElem?_eq_getElem hm2] at hc
      cases hc
      simp at this
  · cases h4

/-! ## methods that change a list -/
def MutG (r : PM) (g : List PV → List PV → Option (List PV × PV)) : Prop := ∀ {M : PH} {F : ASet} {a : Addr} {xs ps vs qs ys : List PV} {z : PV} {Q : QE}, NR M → M a = some (.lst ps) → RVs M F xs ps → VVs M F vs qs → g xs vs = some (ys, z) → (∀ ps' p, RVs M F ys ps' → RV M F z p → Q p (pupd M a (.lst ps'))) → r (.ref a) qs M Q
/-- the same, where what is handed in becomes a part -/
def MutK (r : PM) (g : List PV → List PV → Option (List PV × PV)) : Prop := ∀ {M : PH} {F : ASet} {a : Addr} {xs ps vs qs ys : List PV} {z : PV} {Q : QE}, NR M → M a = some (.lst ps) → RVs M F xs ps → RVs M F vs qs → g xs vs = some (ys, z) → (∀ ps' p, RVs M F ys ps' → RV M F z p → Q p (pupd M a (.lst ps'))) → r (.ref a) qs M Q
def owAt (e : VEnv) (i : Nat) : Option (Bool × List PV) := match e[i]? with
  | some (some (.ow b xs)) => some (b, xs)
  | _ => none
theorem owAt_eq {e : VEnv} {i : Nat} {b : Bool} {xs : List PV} (h : owAt e i = some (b, xs)) : e[i]? = some (some (.ow b xs)) := by
  unfold owAt at h
  split at h
  · rename_i e2; cases h; exact e2
  · cases h
def fMut (keep : Bool) (g : List PV → List PV → Option (List PV × PV)) (i : Nat) (f : VEnv → Rs (List TV)) : VEnv → Rs TV := fun e => match owAt e i with
  | none => .no
  | some _ => (f e).bind fun ts e1 => match owAt e1 i, (if keep = true then shsOf ts else views e1 ts) with
    | some (b, xs), some vs => (match g xs vs with
      | some (ys, z) => .ok (.sh z) (e1.set i (some (.ow b ys)))
      | none => .no)
    | _, _ => .no
theorem mut_post {EP : PX} {s : PSt} {M : PH} {F : ASet} {e : VEnv} {i : Nat} {b : Bool} {xs ys : List PV} {z : PV} {Q : QE} {a : Addr} (R : RS M F e s) (hi : e[i]? = some (some (.ow b xs))) (ea : s[i]? = some (some (.ref a)))
    (h : OkE cm EP s M F e (.ok (TV.sh z) (e.set i (some (.ow b ys)))) fun t e' M' F' => ∀ p, RT M' F' s t p → Q p M') : ∀ ps' p, RVs M F ys ps' → RV M F z p → Q p (pupd M a (.lst ps')) := by
  intro ps' p h1 h2
  obtain ⟨R2, G2⟩ := R.upd hi ea h1
  exact h _ _ R2 G2 p (RV.go R G2 h2)
theorem v_mut {r : PM} {g : List PV → List PV → Option (List PV × PV)} {keep : Bool} (hg : if keep = true then MutK r g else MutG r g) {i : Nat} {f : VEnv → Rs (List TV)} : ∀ EP s M Q, wE cm (fMut keep g i f) EP s M Q → wBMt "list" r (wVar i) (wA cm f) EP s M Q := by
  rintro EP s M Q ⟨e, F, R, h⟩
  unfold fMut at h
  cases h0 : owAt e i with
  | none => rw [h0] at h; exact h.elim
  | some bx0 =>
    rw [h0] at h
    obtain ⟨b0, xs0⟩ := bx0
    obtain ⟨a, ps0, ea, m0, _, _⟩ := R.ow i b0 xs0 (owAt_eq h0)
    refine wBMt_i (wVar_i ea ⟨tyP_lst m0, e, F, R, h.bind.mono fun ts e1 M1 F1 R1 G1 h1 qs hqs => ?_⟩)
    cases h2 : owAt e1 i with
    | none => rw [h2] at h1; exact h1.elim
    | some bx1 =>
      rw [h2] at h1
      obtain ⟨b, xs⟩ := bx1
      have hi := owAt_eq h2
      obtain ⟨a', ps, ea', m, rr, _⟩ := R1.ow i b xs hi
      rw [ea] at ea'; cases ea'
      cases keep with
      | true =>
        rw [if_pos rfl] at h1 hg
        cases h3 : shsOf ts with
        | none => rw [h3] at h1; exact h1.elim
        | some vs =>
          rw [h3] at h1
          dsimp only at h1
          cases h4 : g xs vs with
          | none => rw [h4] at h1; exact h1.elim
          | some yz =>
            rw [h4] at h1
            exact hg R1.nr m rr (shs_rep hqs h3) h4 (mut_post R1 hi ea h1)
      | false =>
        rw [if_neg (by simp)] at h1 hg
        cases h3 : views e1 ts with
        | none => rw [h3] at h1; exact h1.elim
        | some vs =>
          rw [h3] at h1
          dsimp only at h1
          cases h4 : g xs vs with
          | none => rw [h4] at h1; exact h1.elim
          | some yz =>
            rw [h4] at h1
            exact hg R1.nr m rr (views_rep R1 hqs h3) h4 (mut_post R1 hi ea h1)
def gAppend (xs : List PV) : List PV → Option (List PV × PV)
  | [v] => if xs.length < sizeLine then some (xs ++ [v], .non) else none
  | _ => none
theorem rvs1 {M : PH} {F : ASet} {v : PV} {ps : List PV} (h : RVs M F [v] ps) : ∃ p, ps = [p] ∧ RV M F v p := by
  rw [RVs] at h
  obtain ⟨p, r, rfl, h1, h2⟩ := h
  rw [RVs] at h2
  subst h2
  exact ⟨p, rfl, h1⟩
theorem mutk_append : MutK mAppend gAppend := by
  intro M F a xs ps vs qs ys z Q nr m r hv hz k
  unfold gAppend at hz
  split at hz
  · split at hz
    · rename_i hl
      cases hz
      obtain ⟨p, rfl, hp⟩ := rvs1 hv
      exact mAppend_i m (by rw [← r.length]; exact hl) (k _ _ (r.snoc hp) (by rw [RV]))
    · cases hz
  · cases hz
def gExtend (xs : List PV) : List PV → Option (List PV × PV)
  | [.tup zs] => if xs.length + zs.length ≤ sizeLine then some (xs ++ zs, .non) else none
  | [.bx .lst zs] => if xs.length + zs.length ≤ sizeLine then some (xs ++ zs, .non) else none
  | _ => none
theorem mutg_extend : MutG mExtend gExtend := by
  intro M F a xs ps vs qs ys z Q nr m r hv hz k
  unfold gExtend at hz
  split at hz
  · split at hz
    · rename_i hl
      cases hz
      obtain ⟨p, rfl, hp⟩ := vvs1 hv
      obtain ⟨ws, rfl, rw⟩ := hp.tup
      exact mExtend_tup m (by rw [← r.length, ← rw.length]; exact hl) (k _ _ (r.append rw) (by rw [RV]))
    · cases hz
  · split at hz
    · rename_i hl
      cases hz
      obtain ⟨p, rfl, hp⟩ := vvs1 hv
      obtain ⟨b, ws, rfl, m2, rw⟩ := VV.lst hp
      exact ⟨ps, ws, m, m2, by rw [← r.length, ← rw.length]; exact hl, k _ _ (r.append rw) (by rw [RV])⟩
    · cases hz
  · cases hz
def gPopAt (xs : List PV) : List PV → Option (List PV × PV)
  | [.int i] => if -9223372036854775808 ≤ i ∧ i < 9223372036854775808 then (match seqIndex? i xs.length with
    | some k => (match xs[k]? with
      | some v => some (xs.eraseIdx k, v)
      | none => none)
    | none => none) else none
  | _ => none
theorem mutg_popAt : MutG mPopAt gPopAt := by
  intro M F a xs ps vs qs ys z Q nr m r hv hz k
  unfold gPopAt at hz
  split at hz
  · split at hz
    · rename_i hl
      split at hz
      · rename_i j hj
        split at hz
        · rename_i v hv2
          cases hz
          obtain ⟨p, rfl, hp⟩ := vvs1 hv
          rw [hp.int]
          obtain ⟨p, e, rp⟩ := r.get hv2
          exact ⟨ps, j, p, m, hl.1, hl.2, by rw [← r.length]; exact hj, e, k _ _ (r.eraseIdx j) rp⟩
        · cases hz
      · cases hz
    · cases hz
  · cases hz
def gInsert (xs : List PV) : List PV → Option (List PV × PV)
  | [.int i, v] => if xs.length < sizeLine ∧ 0 ≤ i ∧ i < 9223372036854775808 then some (xs.take i.toNat ++ [v] ++ xs.drop i.toNat, .non) else none
  | _ => none
theorem mutk_insert : MutK mInsert gInsert := by
  intro M F a xs ps vs qs ys z Q nr m r hv hz k
  unfold gInsert at hz
  split at hz
  · split at hz
    · rename_i hl
      cases hz
      rw [RVs] at hv
      obtain ⟨p, q, rfl, h1, h2⟩ := hv
      obtain ⟨p2, rfl, hp2⟩ := rvs1 h2
      rw [RV] at h1
      subst h1
      exact ⟨ps, m, by rw [← r.length]; exact hl.1, hl.2.1, hl.2.2, k _ _ ((r.take _).snoc hp2 |>.append (r.drop _)) (by rw [RV])⟩
    · cases hz
  · cases hz
end
end PL
set_option autoImplicit false
namespace PL
open PySem PySem.Spec L2
open PyProof.Rows hiding St

/-! ## targets -/
def setsT : List Nat → List PV → VEnv → Option VEnv
  | [], [], e => some e
  | i :: is, x :: xs, e => if free e i = true then setsT is xs (e.set i (some (.sh x))) else none
  | _, _, _ => none
def setT (tg : CTg) (v : PV) (e : VEnv) : Option VEnv := match tg with
  | .one i => if free e i = true then some (e.set i (some (.sh v))) else none
  | .many is => match v with
    | .tup xs => setsT is xs e
    | _ => none
section
variable {M : PH} {F : ASet} {e e' : VEnv} {s : PSt}
theorem setsT_rs : ∀ {is : List Nat} {xs ps : List PV} {e e' : VEnv} {s : PSt} {Q : PSt → PH → Prop}, RS M F e s → RVs M F xs ps → setsT is xs e = some e' → (∀ s', RS M F e' s' → Go M F e s M F e' s' → s'.length = s.length → (∀ j, j ∉ is → s'[j]? = s[j]?) → Q s' M) → gAll (is.map gNm) ps s M Q
  | [], [], ps, e, e', s, Q, R, r, h, k => by
    rw [RVs] at r; subst r
    cases h
    exact k s R (.refl _ _ _ _) rfl fun _ _ => rfl
  | i :: is, x :: xs, ps, e, e', s, Q, R, r, h, k => by
    rw [RVs] at r
    obtain ⟨p, q, rfl, r1, r2⟩ := r
    unfold setsT at h
    split at h
    · rename_i f
      obtain ⟨R1, G1⟩ := R.setSh f r1
      exact setsT_rs (is := is) R1 r2 h fun s' R2 G2 hl hj => k s' R2 (G1.trans G2) (by rw [hl, List.length_set]) fun j nj => by
        rw [List.mem_cons, not_or] at nj
        rw [hj j nj.2, List.getElem?_set_ne (Ne.symm nj.1)]
    · cases h
  | [], _ :: _, _, _, _, _, _, _, _, h, _ => by cases h
  | _ :: _, [], _, _, _, _, _, _, _, h, _ => by cases h
theorem setT_rs {tg : CTg} {v p : PV} {Q : PSt → PH → Prop} (R : RS M F e s) (r : RV M F v p) (h : setT tg v e = some e') (k : ∀ s', RS M F e' s' → Go M F e s M F e' s' → s'.length = s.length → (∀ j, j ∉ tg.ix → s'[j]? = s[j]?) → Q s' M) : tg.g p s M Q := by
  cases tg with
  | one i =>
    unfold setT at h
    dsimp only at h
    split at h
    · rename_i f
      cases h
      obtain ⟨R1, G1⟩ := R.setSh f r
      exact k _ R1 G1 (by rw [List.length_set]) fun j nj => List.getElem?_set_ne (Ne.symm (by simpa [CTg.ix] using nj))
    · cases h
  | many is =>
    cases v with
    | tup xs =>
      rw [RV] at r
      obtain ⟨ps, rfl, r⟩ := r
      exact setsT_rs R r h k
    | _ => cases h
end

/-! ## what is walked -/
structure VSrc where
  items : List PV
  own : List (Nat × List PV)
def chkO (own : List (Nat × List PV)) (e : VEnv) : Prop := ∀ ix ∈ own, ∃ b, e[ix.1]? = some (some (.ow b ix.2))
theorem chkO_nil {e : VEnv} : chkO [] e := fun _ h => (by cases h)
structure RSrc (M : PH) (F : ASet) (s : PSt) (src : VSrc) (psrc : PSrc) : Prop where
  items : RVs M F src.items psrc.items
  pur : ∀ ix ∈ src.own, purs ix.2 = true
  ok : ∀ M2, (∀ b o, F b → M b = some o → M2 b = some o) → (∀ ix ∈ src.own, ∀ a, s[ix.1]? = some (some (.ref a)) → M2 a = some (.lst ix.2)) → psrc.ok M2
theorem RSrc.at {M M2 : PH} {F F2 : ASet} {s s2 : PSt} {e2 : VEnv} {src : VSrc} {psrc : PSrc} (h : RSrc M F s src psrc) (hk : ∀ b o, F b → M b = some o → M2 b = some o) (R : RS M2 F2 e2 s2) (hs : ∀ ix ∈ src.own, s2[ix.1]? = s[ix.1]?) (c : chkO src.own e2) : psrc.ok M2 := by
  refine h.ok M2 hk fun ix hx a ea => ?_
  obtain ⟨b, hb⟩ := c ix hx
  obtain ⟨a', ps, h1, h2, h3, _⟩ := R.ow _ b _ hb
  rw [hs ix hx, ea] at h1
  cases h1
  rw [repFs_pur (h.pur ix hx) h3] at h2
  exact h2
section
variable (cm : Nat → Addr)
def wI (f : VEnv → Rs VSrc) : WI := fun EP s M Q => ∃ e F, RS M F e s ∧ OkE cm EP s M F e (f e) fun src e' M' F' => ∀ psrc, RSrc M' F' s src psrc → Q psrc M'
variable {cm}
theorem wI_mono {f : VEnv → Rs VSrc} : MonoI (wI cm f) := fun EP s M Q Q' k ⟨e, F, R, h⟩ => ⟨e, F, R, h.mono fun _ _ _ _ _ _ z p hp => k _ _ (z p hp)⟩
section
variable {X : Cx} {W : WX} {tg : Expr}
theorem vi_of {x : Expr} {w : WI} {f : VEnv → Rs VSrc} (h : EI X W tg x w) (k : ∀ EP s M Q, wI cm f EP s M Q → w EP s M Q) : EI X W tg x (wI cm f) :=
  ⟨wI_mono, pi_weak h.run fun σ H Q ⟨EP, s, M, c, q⟩ => ⟨EP, s, M, c, k _ _ _ _ q⟩⟩
def itemsOf : PV → Option (List PV)
  | .tup xs => some xs
  | .bx .lst xs => some xs
  | .str z => some (z.cps.toList.map fun c => .str ⟨#[c]⟩)
  | _ => none
/-- over a value -/
def iAnyF (f : VEnv → Rs TV) : VEnv → Rs VSrc := fun e => (f e).bind fun t e1 => .ofO (match t with
  | .sh v => (itemsOf v).map fun xs => ⟨xs, []⟩
  | .al i => (match owAt e1 i with
    | some (_, xs) => if purs xs = true then some ⟨xs, [(i, xs)]⟩ else none
    | none => none)) e1
theorem chars_rv {M : PH} {F : ASet} {cs : List Nat} : RVs M F (cs.map fun c => PV.str ⟨#[c]⟩) (cs.map fun c => PV.str ⟨#[c]⟩) := repFs_self (purs_of_mem fun x hx => by
  obtain ⟨c, _, rfl⟩ := List.mem_map.mp hx
  exact pur_str)
theorem vi_any {x : Expr} {f : VEnv → Rs TV} (h : EE X W x (wE cm f)) : EI X W tg x (wI cm (iAnyF f)) := by
  refine vi_of (ei_any h) ?_
  rintro EP s M Q ⟨e, F, R, h⟩
  refine iAny_i ⟨e, F, R, h.bind.mono fun t e1 M1 F1 R1 G1 h1 p hp => ?_⟩
  obtain ⟨z, h4, h5⟩ := h1.ofO
  split at h4
  · rename_i v
    obtain ⟨xs, e3, rfl⟩ := Option.map_eq_some_iff.mp h4
    unfold itemsOf at e3
    split at e3
    · cases e3
      rw [RT, RV] at hp
      obtain ⟨ps, rfl, r⟩ := hp
      exact qIt_tup (h5 M1 F1 R1 (.refl _ _ _ _) ⟨ps, fun _ => True⟩ ⟨r, fun _ h => (by cases h), fun _ _ _ => trivial⟩)
    · cases e3
      rw [RT, RV] at hp
      obtain ⟨a, ps, rfl, fa, m, r⟩ := hp
      exact qIt_lst m (h5 M1 F1 R1 (.refl _ _ _ _) ⟨ps, fun M => listAt M a = some ps⟩ ⟨r, fun _ h => (by cases h), fun M2 hk _ => listAt_lst (hk _ _ fa m)⟩)
    · cases e3
      rw [RT, RV] at hp
      subst hp
      exact qIt_str (h5 M1 F1 R1 (.refl _ _ _ _) _ ⟨chars_rv, fun _ h => (by cases h), fun _ _ _ => trivial⟩)
    · cases e3
  · rename_i i
    split at h4
    · rename_i b xs hi
      split at h4
      · rename_i hp2
        cases h4
        obtain ⟨a, rfl, ea⟩ := hp
        obtain ⟨a', ps, ea', m, r, _⟩ := R1.ow i b xs (owAt_eq hi)
        rw [ea] at ea'; cases ea'
        have := repFs_pur hp2 r
        subst this
        refine qIt_lst m (h5 M1 F1 R1 (.refl _ _ _ _) ⟨ps, fun M => listAt M a = some ps⟩ ⟨r, fun ix h => ?_, fun M2 _ hk => listAt_lst (hk (i, ps) (by simp) a ea)⟩)
        rw [List.mem_singleton] at h; subst h; exact hp2
      · cases h4
    · cases h4
/-- over a list just made -/
def iNwF (g : VEnv → Rs (List PV)) : VEnv → Rs VSrc := fun e => (g e).bind fun xs e1 => .ok ⟨xs, []⟩ e1
theorem vi_new {x : Expr} {g : VEnv → Rs (List PV)} (h : EL X W x (wL cm g)) : EI X W tg x (wI cm (iNwF g)) := by
  refine vi_of (ei_new h) ?_
  rintro EP s M Q ⟨e, F, R, h⟩
  refine ⟨e, F, R, h.bind.mono fun xs e1 M1 F1 R1 G1 h1 ps hps => ?_⟩
  exact h1 M1 F1 R1 (.refl _ _ _ _) ⟨ps, fun _ => True⟩ ⟨hps, fun _ h => (by cases h), fun _ _ _ => trivial⟩
def iRg1F (f : VEnv → Rs TV) : VEnv → Rs VSrc := fun e => (f e).bind fun t e1 => .ofO (match t with
  | .sh (.int j) => if -4611686018427387904 ≤ j ∧ j < 4611686018427387904 then some ⟨(List.range j.toNat).map fun i => .int (i : Nat), []⟩ else none
  | _ => none) e1
theorem ints_rv {M : PH} {F : ASet} {α : Type} {ns : List α} {g : α → Int} : RVs M F (ns.map fun k => PV.int (g k)) (ns.map fun k => PV.int (g k)) := repFs_self (purs_of_mem fun x hx => by
  obtain ⟨c, _, rfl⟩ := List.mem_map.mp hx
  exact pur_int)
theorem vi_range1 {a : Expr} {f : VEnv → Rs TV} {p pos : Pos} (hm : X.mg "range" = none) (ha : EE X W a (wE cm f)) (hg : Gl X "range" := by rfl) (hs : starEach [a] X.env = [(false, eval a X.env)] := by rfl) : EI X W tg (.Call (.Name "range" p) [a] [] pos) (wI cm (iRg1F f)) := by
  refine vi_of (ei_range1 hm (ea_cons ha (ea_nil (X := X) (W := W)) hs) hg hs) ?_
  rintro EP s M Q ⟨e, F, R, h⟩
  refine iRg1_i (wCons_i ⟨e, F, R, h.bind.mono fun t e1 M1 F1 R1 G1 h1 p hp => ?_⟩)
  obtain ⟨z, h4, h5⟩ := h1.ofO
  split at h4
  · split at h4
    · rename_i hj
      cases h4
      rw [RT, RV] at hp
      subst hp
      exact ⟨hj.1, hj.2, h5 M1 F1 R1 (.refl _ _ _ _) _ ⟨ints_rv, fun _ h => (by cases h), fun _ _ _ => trivial⟩⟩
    · cases h4
  · cases h4
def iRg2F (f g : VEnv → Rs TV) : VEnv → Rs VSrc := fun e => (f e).bind fun t e1 => (g e1).bind fun u e2 => .ofO (match t, u with
  | .sh (.int i), .sh (.int j) => if -4611686018427387904 ≤ i ∧ i < 4611686018427387904 ∧ -4611686018427387904 ≤ j ∧ j < 4611686018427387904 then some ⟨(List.range (j - i).toNat).map fun k => .int (i + (k : Nat)), []⟩ else none
  | _, _ => none) e2
theorem vi_range2 {x : Expr} {f g : VEnv → Rs TV} (h : EI X W tg x (iRg2 (wCons (wE cm f) (wCons (wE cm g) wNil)))) : EI X W tg x (wI cm (iRg2F f g)) := by
  refine vi_of h ?_
  rintro EP s M Q ⟨e, F, R, h⟩
  unfold iRg2
  refine wCons_i ⟨e, F, R, h.bind.mono fun t e1 M1 F1 R1 G1 h1 p hp => wCons_i ⟨e1, F1, R1, OkE.mono (OkE.bind h1) fun u e2 M2 F2 R2 G2 h2 q hq => ?_⟩⟩
  obtain ⟨z, h4, h5⟩ := h2.ofO
  split at h4
  · split at h4
    · rename_i hj
      cases h4
      rw [RT, RV] at hp hq
      subst hp hq
      exact ⟨⟨hj.1, hj.2.1, hj.2.2.1, hj.2.2.2⟩, h5 M2 F2 R2 (.refl _ _ _ _) _ ⟨ints_rv, fun _ h => (by cases h), fun _ _ _ => trivial⟩⟩
    · cases h4
  · cases h4
/-- over two side by side -/
def zipS : PV → PV → Option (List PV)
  | .tup xs, .tup ys => some (List.zipWith pairP xs ys)
  | .bx .lst xs, .bx .lst ys => some (List.zipWith pairP xs ys)
  | _, _ => none
def iZpF (f g : VEnv → Rs TV) : VEnv → Rs VSrc := fun e => (f e).bind fun t e1 => (g e1).bind fun u e2 => .ofO (match t, u with
  | .sh v, .sh w => (zipS v w).map fun xs => ⟨xs, []⟩
  | .al i, .sh (.bx .lst ys) => (match owAt e2 i with
    | some (_, xs) => if purs xs = true then some ⟨List.zipWith pairP xs ys, [(i, xs)]⟩ else none
    | none => none)
  | _, _ => none) e2
theorem zip_rv {M : PH} {F : ASet} : ∀ {xs ys ps qs : List PV}, RVs M F xs ps → RVs M F ys qs → RVs M F (List.zipWith pairP xs ys) (List.zipWith pairP ps qs)
  | [], _, ps, qs, h, _ => by rw [RVs] at h; subst h; exact .nil
  | x :: xs, [], ps, qs, h, g => by
    rw [RVs] at g; subst g
    rw [List.zipWith_nil_right, List.zipWith_nil_right]; exact .nil
  | x :: xs, y :: ys, ps, qs, h, g => by
    rw [RVs] at h g
    obtain ⟨p, ps, rfl, h1, h2⟩ := h
    obtain ⟨q, qs, rfl, g1, g2⟩ := g
    exact .cons (by rw [pairP, pairP, RV]; exact ⟨_, rfl, .cons h1 (.cons g1 .nil)⟩) (zip_rv h2 g2)
theorem vi_zip {a : Expr} {f g : VEnv → Rs TV} (h : EI X W tg a (iZp (wCons (wE cm f) (wCons (wE cm g) wNil)))) : EI X W tg a (wI cm (iZpF f g)) := by
  refine vi_of h ?_
  rintro EP s M Q ⟨e, F, R, h⟩
  unfold iZp
  refine wCons_i ⟨e, F, R, h.bind.mono fun t e1 M1 F1 R1 G1 h1 p hp => wCons_i ⟨e1, F1, R1, OkE.mono (OkE.bind h1) fun u e2 M2 F2 R2 G2 h2 q hq => ?_⟩⟩
  obtain ⟨z, h4, h5⟩ := h2.ofO
  have hp := RT.go R1 G2 hp
  split at h4
  · obtain ⟨xs, e3, rfl⟩ := Option.map_eq_some_iff.mp h4
    unfold zipS at e3
    split at e3
    · cases e3
      rw [RT, RV] at hp hq
      obtain ⟨ps, rfl, r1⟩ := hp
      obtain ⟨qs, rfl, r2⟩ := hq
      exact h5 M2 F2 R2 (.refl _ _ _ _) ⟨_, fun _ => True⟩ ⟨zip_rv r1 r2, fun _ h => (by cases h), fun _ _ _ => trivial⟩
    · cases e3
      rw [RT, RV] at hp hq
      obtain ⟨a, ps, rfl, fa, m1, r1⟩ := hp
      obtain ⟨b, qs, rfl, fb, m2, r2⟩ := hq
      unfold qZip
      dsimp only [wNil]
      rw [listAt_lst m1, listAt_lst m2]
      exact h5 M2 F2 R2 (.refl _ _ _ _) ⟨_, fun M => listAt M a = some ps ∧ listAt M b = some qs⟩ ⟨zip_rv r1 r2, fun _ h => (by cases h), fun M3 hk _ => ⟨listAt_lst (hk _ _ fa m1), listAt_lst (hk _ _ fb m2)⟩⟩
    · cases e3
  · rename_i i ys _
    split at h4
    · rename_i b xs hi
      split at h4
      · rename_i hpx
        cases h4
        obtain ⟨a, rfl, ea⟩ := hp
        obtain ⟨a', ps, ea', m1, r1, _⟩ := R2.ow i b xs (owAt_eq hi)
        rw [ea] at ea'; cases ea'
        have := repFs_pur hpx r1
        subst this
        rw [RT, RV] at hq
        obtain ⟨b, qs, rfl, fb, m2, r2⟩ := hq
        unfold qZip
        dsimp only [wNil]
        rw [listAt_lst m1, listAt_lst m2]
        refine h5 M2 F2 R2 (.refl _ _ _ _) ⟨_, fun M => listAt M a = some ps ∧ listAt M b = some qs⟩ ⟨zip_rv r1 r2, fun ix h => ?_, fun M3 hk hk2 => ⟨listAt_lst (hk2 (i, ps) (by simp) a ea), listAt_lst (hk _ _ fb m2)⟩⟩
        rw [List.mem_singleton] at h; subst h; exact hpx
      · cases h4
    · cases h4
  · cases h4
end

/-! ## statements -/
inductive Fl where
  | nx (e : VEnv)
  | rt (r : SV) (e : VEnv)
  | bk (e : VEnv)
  | ct (e : VEnv)
  | ex (c : Nat) (fs : List (Str × PV)) (e : VEnv)
  | no
def RR (M : PH) (O : ASet) (M' : PH) (F' O' : ASet) : SV → PV → Prop
  | .sh v, p => RV M' F' v p
  | .ow _ xs, p => ∃ a ps, p = .ref a ∧ M' a = some (.lst ps) ∧ RVs M' F' xs ps ∧ ¬ F' a ∧ ¬ O' a ∧ (O a ∨ M a = none)
section
variable (cm)
def OkS (EP : PX) (D : PEnds) (s : PSt) (M : PH) (F : ASet) (e : VEnv) : Fl → Prop
  | .nx e' => ∀ s' M' F', RS M' F' e' s' → Go M F e s M' F' e' s' → D.nx s' M'
  | .bk e' => ∀ s' M' F', RS M' F' e' s' → Go M F e s M' F' e' s' → D.bk s' M'
  | .ct e' => ∀ s' M' F', RS M' F' e' s' → Go M F e s M' F' e' s' → D.ct s' M'
  | .rt r e' => ∀ p s' M' F', RS M' F' e' s' → Go M F e s M' F' e' s' → RR M (Own e s) M' F' (Own e' s') r p → D.rt p M'
  | .ex c fs e' => ∀ ps s' M' F', RS M' F' e' s' → Go M F e s M' F' e' s' → RVs M' F' (fs.map (·.2)) ps → EP (.ref (cm c)) ((fs.map (·.1)).zip ps) s' M'
  | .no => False
def wS (f : VEnv → Fl) : WS := fun EP D s M => ∃ e F, RS M F e s ∧ OkS cm EP D s M F e (f e)
end
theorem OkS.le {EP : PX} {D D' : PEnds} {s : PSt} {M : PH} {F : ASet} {e : VEnv} {r : Fl} (h : OkS cm EP D s M F e r) (l : D.Le D') : OkS cm EP D' s M F e r := by
  cases r with
  | nx e' => exact fun s' M' F' R G => l.nx _ _ (h s' M' F' R G)
  | bk e' => exact fun s' M' F' R G => l.bk _ _ (h s' M' F' R G)
  | ct e' => exact fun s' M' F' R G => l.ct _ _ (h s' M' F' R G)
  | rt r e' => exact fun p s' M' F' R G z => l.rt _ _ (h p s' M' F' R G z)
  | ex c fs e' => exact h
  | no => exact h
theorem wS_mono {f : VEnv → Fl} : MonoS (wS cm f) := fun EP D D' s M l ⟨e, F, R, h⟩ => ⟨e, F, R, h.le l⟩
/-- what holds from further on holds from here -/
theorem OkS.on {EP : PX} {D : PEnds} {s s1 : PSt} {M M1 : PH} {F F1 : ASet} {e e1 : VEnv} {r : Fl} (G : Go M F e s M1 F1 e1 s1) (h : OkS cm EP D s M F e r) : OkS cm EP D s1 M1 F1 e1 r := by
  cases r with
  | nx e' => exact fun s' M' F' R G2 => h s' M' F' R (G.trans G2)
  | bk e' => exact fun s' M' F' R G2 => h s' M' F' R (G.trans G2)
  | ct e' => exact fun s' M' F' R G2 => h s' M' F' R (G.trans G2)
  | rt r e' =>
    intro p s' M' F' R G2 z
    refine h p s' M' F' R (G.trans G2) ?_
    cases r with
    | sh v => exact z
    | ow b xs =>
      obtain ⟨a, ps, h1, h2, h3, h4, h5, h6⟩ := z
      refine ⟨a, ps, h1, h2, h3, h4, h5, h6.elim (fun o => G.tr.onew a o) fun n => .inr (none_back G.tr.there n)⟩
  | ex c fs e' => exact fun ps s' M' F' R G2 => h ps s' M' F' R (G.trans G2)
  | no => exact h
def Rs.toS {α : Type} (r : Rs α) (f : α → VEnv → Fl) : Fl := match r with
  | .ok a e => f a e
  | .ex c fs e => .ex c fs e
  | .no => .no
/-- an expression first -/
theorem OkS.bind {α : Type} {EP : PX} {D : PEnds} {s : PSt} {M : PH} {F : ASet} {e : VEnv} {r : Rs α} {g : α → VEnv → Fl} (h : OkS cm EP D s M F e (r.toS g)) :
    OkE cm EP s M F e r fun a e1 M1 F1 => OkS cm EP D s M1 F1 e1 (g a e1) := by
  cases r with
  | ok a e1 => exact fun M1 F1 R1 G1 => OkS.on G1 h
  | ex c fs e1 => exact fun ps M' F' R G z => h ps s M' F' R G z
  | no => exact h
section
variable {X : Cx} {W : WX} {st : Stmt} {rest : List Stmt} {t u : VEnv → Fl} {pos : Pos}
theorem vs_of {w : WS} {f : VEnv → Fl} (h : ES X W st w) (k : ∀ EP D s M, wS cm f EP D s M → w EP D s M) : ES X W st (wS cm f) :=
  ⟨wS_mono, ps_weak h.run fun D σ H ⟨EP, s, M, c, q⟩ => ⟨EP, s, M, c, k _ _ _ _ q⟩⟩
theorem vb_of {ss : List Stmt} {w : WS} {f : VEnv → Fl} (h : EB X W ss w) (k : ∀ EP D s M, wS cm f EP D s M → w EP D s M) : EB X W ss (wS cm f) :=
  ⟨wS_mono, pss_weak h.run fun D σ H ⟨EP, s, M, c, q⟩ => ⟨EP, s, M, c, k _ _ _ _ q⟩⟩
def sNext : VEnv → Fl := fun e => .nx e
def sSeq (t u : VEnv → Fl) : VEnv → Fl := fun e => match t e with
  | .nx e1 => u e1
  | o => o
def sDrop (f : VEnv → Rs TV) : VEnv → Fl := fun e => (f e).toS fun _ e1 => .nx e1
def sBreak : VEnv → Fl := fun e => .bk e
def sCont : VEnv → Fl := fun e => .ct e
def sIf (c : VEnv → Rs Bool) (t u : VEnv → Fl) : VEnv → Fl := fun e => (c e).toS fun b e1 => if b = true then t e1 else u e1
def sRet (f : VEnv → Rs TV) : VEnv → Fl := fun e => (f e).toS fun t e1 => match t with
  | .sh v => .rt (.sh v) e1
  | .al i => match e1[i]? with
    | some (some (.ow false xs)) => .rt (.ow false xs) (e1.set i none)
    | _ => .no
def sRetN : VEnv → Fl := fun e => .rt (.sh .non) e
def sRetL (g : VEnv → Rs (List PV)) : VEnv → Fl := fun e => (g e).toS fun xs e1 => .rt (.ow false xs) e1
def sSet (i : Nat) (f : VEnv → Rs TV) : VEnv → Fl := fun e => (f e).toS fun t e1 => match t with
  | .sh v => if free e1 i = true then .nx (e1.set i (some (.sh v))) else .no
  | .al _ => .no
def sSetL (i : Nat) (g : VEnv → Rs (List PV)) : VEnv → Fl := fun e => (g e).toS fun xs e1 => if free e1 i = true then .nx (e1.set i (some (.ow false xs))) else .no
def sAsg (f : VEnv → Rs TV) (tg : CTg) : VEnv → Fl := fun e => (f e).toS fun t e1 => match t with
  | .sh v => (match setT tg v e1 with
    | some e2 => .nx e2
    | none => .no)
  | .al _ => .no
def sPar (i j : Nat) (f : VEnv → Rs (List TV)) : VEnv → Fl := fun e => (f e).toS fun ts e1 => match ts with
  | [.sh v, .sh w] => (match setsT [i, j] [v, w] e1 with
    | some e2 => .nx e2
    | none => .no)
  | _ => .no
def sNever : VEnv → Fl := fun _ => .no
theorem vb_nil : EB X W [] (wS cm sNext) := vb_of eb_nil fun EP D s M ⟨e, F, R, h⟩ => h s M F R (.refl _ _ _ _)
theorem vb_cons (h1 : ES X W st (wS cm t)) (h2 : EB X W rest (wS cm u)) : EB X W (st :: rest) (wS cm (sSeq t u)) := by
  refine vb_of (eb_cons h1 h2) ?_
  rintro EP D s M ⟨e, F, R, h⟩
  refine ⟨e, F, R, ?_⟩
  unfold sSeq at h
  split at h
  · rename_i e1 h1
    rw [h1]
    exact fun s' M' F' R' G' => ⟨e1, F', R', OkS.on G' h⟩
  · rename_i n
    cases q : t e with
    | nx e1 => exact (n e1 q).elim
    | _ => rw [q] at h; exact h
theorem vb_one (h1 : ES X W st (wS cm t)) : EB X W [st] (wS cm t) := eb_one h1
theorem vs_pass : ES X W (.Pass pos) (wS cm sNext) := vs_of es_pass fun EP D s M ⟨e, F, R, h⟩ => h s M F R (.refl _ _ _ _)
theorem vs_break : ES X W (.Break pos) (wS cm sBreak) := vs_of es_break fun EP D s M ⟨e, F, R, h⟩ => h s M F R (.refl _ _ _ _)
theorem vs_continue : ES X W (.Continue pos) (wS cm sCont) := vs_of es_continue fun EP D s M ⟨e, F, R, h⟩ => h s M F R (.refl _ _ _ _)
theorem vs_doc {x j pos'} : ES X W (.Expr (.Constant (.str x) j pos) pos') (wS cm sNext) := vs_of es_doc fun EP D s M ⟨e, F, R, h⟩ => h s M F R (.refl _ _ _ _)
theorem vs_never {x y : Option Expr} : ES X W (.Raise x y pos) (wS cm sNever) := vs_of es_never fun EP D s M ⟨e, F, R, h⟩ => h.elim
theorem vs_expr {x : Expr} {f : VEnv → Rs TV} (he : EE X W x (wE cm f)) (hs : swapsWith x none pos.line X.env = pure false := by rfl) : ES X W (.Expr x pos) (wS cm (sDrop f)) := by
  refine vs_of (es_expr he hs) ?_
  rintro EP D s M ⟨e, F, R, h⟩
  exact ⟨e, F, R, OkE.mono (OkS.bind h) fun t e1 M1 F1 R1 G1 h1 p hp => h1 s M1 F1 R1 (.refl _ _ _ _)⟩
theorem vs_if {c : Expr} {a b : List Stmt} {tc : VEnv → Rs Bool} (hc : ET X W c (wT cm tc)) (ha : EB X W a (wS cm t)) (hb : EB X W b (wS cm u)) : ES X W (.If c a b pos) (wS cm (sIf tc t u)) := by
  refine vs_of (es_if hc ha hb) ?_
  rintro EP D s M ⟨e, F, R, h⟩
  refine ⟨e, F, R, OkE.mono (OkS.bind h) fun b e1 M1 F1 R1 G1 h1 => ?_⟩
  cases b with
  | true => exact ⟨e1, F1, R1, h1⟩
  | false => exact ⟨e1, F1, R1, h1⟩
theorem ret_own {M : PH} {F : ASet} {e : VEnv} {s : PSt} {i : Nat} {xs : List PV} (R : RS M F e s) (hi : e[i]? = some (some (.ow false xs))) : ∃ a, s[i]? = some (some (.ref a)) ∧ RS M F (e.set i none) (s.set i none) ∧ Go M F e s M F (e.set i none) (s.set i none) ∧ RR M (Own e s) M F (Own (e.set i none) (s.set i none)) (.ow false xs) (.ref a) := by
  obtain ⟨a, ps, h1, h2, h3, h4⟩ := R.ow i false xs hi
  obtain ⟨R1, G1⟩ := R.setN (i := i) none (by unfold free; rw [hi])
  refine ⟨a, h1, R1, G1, a, ps, rfl, h2, h3, h4, fun ⟨j, z⟩ => ?_, .inl ⟨i, ⟨false, xs, hi⟩, h1⟩⟩
  rcases owat_set z with ⟨_, ⟨b, ys, z⟩, _⟩ | ⟨n, z⟩
  · cases z
  · exact n (R.sep j i a z ⟨⟨false, xs, hi⟩, h1⟩)
theorem vs_ret {x : Expr} {f : VEnv → Rs TV} (he : EE X W x (wE cm f)) : ES X W (.Return (some x) pos) (wS cm (sRet f)) := by
  refine vs_of (es_ret he) ?_
  rintro EP D s M ⟨e, F, R, h⟩
  refine ⟨e, F, R, OkE.mono (OkS.bind h) fun t e1 M1 F1 R1 G1 h1 p hp => ?_⟩
  cases t with
  | sh v => exact h1 p s M1 F1 R1 (.refl _ _ _ _) hp
  | al i =>
    dsimp only at h1
    split at h1
    · rename_i xs hi
      obtain ⟨a, rfl, ea⟩ := hp
      obtain ⟨a', ea', R2, G2, rr⟩ := ret_own R1 hi
      rw [ea] at ea'; cases ea'
      exact h1 _ _ M1 F1 R2 G2 rr
    · exact h1.elim
theorem vs_retN : ES X W (.Return none pos) (wS cm sRetN) := vs_of es_retN fun EP D s M ⟨e, F, R, h⟩ => h _ s M F R (.refl _ _ _ _) (by rw [RR, RV])
theorem lay_own {M : PH} {F : ASet} {e : VEnv} {s : PSt} {D : Addr} {xs ps : List PV} (R : RS M F e s) (n : M D = none) (r : RVs M F xs ps) : RS (pupd M D (.lst ps)) F e s ∧ Go M F e s (pupd M D (.lst ps)) F e s ∧ RVs (pupd M D (.lst ps)) F xs ps ∧ ¬ F D ∧ ¬ Own e s D := by
  have f := fr_lay R.nr R.fr n (ps := ps)
  exact ⟨R.fresh f, R.fresh_go f, r.on (fun b o _ m => f.keep b o m) fun _ h => h, fun z => R.fr D z n, fun z => R.own_some z n⟩
theorem vs_retL {x : Expr} {g : VEnv → Rs (List PV)} (he : EL X W x (wL cm g)) : ES X W (.Return (some x) pos) (wS cm (sRetL g)) := by
  refine vs_of (es_ret (ee_new he)) ?_
  rintro EP D s M ⟨e, F, R, h⟩
  refine wRet_i (wNew_i ⟨e, F, R, OkE.mono (OkS.bind h) fun xs e1 M1 F1 R1 G1 h1 ps hps A nA nA1 => ?_⟩)
  have n := R1.nr.none nA1
  obtain ⟨R2, G2, r2, nf, no⟩ := lay_own R1 n hps
  exact h1 _ s _ F1 R2 G2 ⟨A, ps, rfl, pupd_same, r2, nf, no, .inr n⟩
theorem vs_set {i : Nat} {x : Str} {e0 : Expr} {f : VEnv → Rs TV} {pos' : Pos} (hN : X.N.Nodup) (he : EE X W e0 (wE cm f)) (hi : X.N[i]? = some x := by rfl) (hx : Loc X.env.scope x := by first | exact .inl rfl | exact .inr rfl) (hs : swapsWith e0 (some (.Name x pos')) pos.line X.env = pure false := by rfl) (hf : X.fn x = true ∨ X.env.scope.names.lookup x = some .local := by first | exact .inl rfl | exact .inr rfl | assumption) : ES X W (.Assign [.Name x pos'] e0 pos) (wS cm (sSet i f)) := by
  refine vs_of (es_set hN he hi hx hs hf) ?_
  rintro EP D s M ⟨e, F, R, h⟩
  refine wSet_i ⟨e, F, R, OkE.mono (OkS.bind h) fun t e1 M1 F1 R1 G1 h1 p hp => ?_⟩
  cases t with
  | sh v =>
    dsimp only at h1
    split at h1
    · rename_i fr
      obtain ⟨R2, G2⟩ := R1.setSh fr hp
      exact h1 _ M1 F1 R2 G2
    · exact h1.elim
  | al j => exact h1.elim
/-- a new list comes to a name -/
theorem set_new {M : PH} {F : ASet} {e : VEnv} {s : PSt} {i : Nat} {D : Addr} {xs ps : List PV} (R : RS M F e s) (fr : free e i = true) (n : M D = none) (r : RVs M F xs ps) :
    RS (pupd M D (.lst ps)) F (e.set i (some (.ow false xs))) (s.set i (some (.ref D))) ∧ Go M F e s (pupd M D (.lst ps)) F (e.set i (some (.ow false xs))) (s.set i (some (.ref D))) := by
  obtain ⟨R2, G2, r2, nf, no⟩ := lay_own R n r
  refine ⟨R2.setOw fr pupd_same r2 nf no, ⟨⟨G2.tr.keep, G2.tr.there, G2.tr.fsub, G2.tr.fnew, fun b h => ?_⟩, pin_set fr⟩⟩
  rcases set_own h with ⟨_, z⟩ | ⟨j, _, z⟩
  · cases z; exact .inr n
  · exact .inl ⟨j, z⟩
theorem v_setL {i : Nat} {g : VEnv → Rs (List PV)} : ∀ EP D s M, wS cm (sSetL i g) EP D s M → wSet i (wNew (wL cm g)) EP D s M := by
  rintro EP D s M ⟨e, F, R, h⟩
  refine wSet_i (wNew_i ⟨e, F, R, OkE.mono (OkS.bind h) fun xs e1 M1 F1 R1 G1 h1 ps hps A nA nA1 => ?_⟩)
  have n := R1.nr.none nA1
  split at h1
  · rename_i fr
    obtain ⟨R3, G3⟩ := set_new R1 fr n hps
    exact h1 _ _ F1 R3 G3
  · exact h1.elim
theorem vs_setL {i : Nat} {x : Str} {e0 : Expr} {g : VEnv → Rs (List PV)} {pos' : Pos} (hN : X.N.Nodup) (he : EL X W e0 (wL cm g)) (hi : X.N[i]? = some x := by rfl) (hx : Loc X.env.scope x := by first | exact .inl rfl | exact .inr rfl) (hs : swapsWith e0 (some (.Name x pos')) pos.line X.env = pure false := by rfl) (hf : X.fn x = true ∨ X.env.scope.names.lookup x = some .local := by first | exact .inl rfl | exact .inr rfl | assumption) : ES X W (.Assign [.Name x pos'] e0 pos) (wS cm (sSetL i g)) :=
  vs_of (es_set hN (ee_new he) hi hx hs hf) v_setL
/-- .. that stays as it is -/
theorem v_setN {i : Nat} {g : VEnv → Rs (List PV)} : ∀ EP D s M, wS cm (sSet i (fNew g)) EP D s M → wSet i (wNew (wL cm g)) EP D s M := by
  rintro EP D s M ⟨e, F, R, h⟩
  refine wSet_i (wNew_i ⟨e, F, R, ?_⟩)
  unfold sSet fNew at h
  cases q : g e with
  | ok xs e1 =>
    rw [q] at h
    intro M1 F1 R1 G1 ps hps A nA nA1
    have n := R1.nr.none nA1
    have f := fr_new R1.nr R1.fr n (ps := ps)
    have h : OkS cm EP D s M F e (if free e1 i = true then Fl.nx (e1.set i (some (.sh (PV.lst xs)))) else .no) := h
    split at h
    · rename_i fr
      obtain ⟨R2, G2⟩ := (R1.fresh f).setSh fr (repF_new n hps)
      exact h _ _ _ R2 ((G1.trans (R1.fresh_go f)).trans G2)
    · exact h.elim
  | ex c fs e1 => rw [q] at h; exact fun ps M' F' R G z => h ps s M' F' R G z
  | no => rw [q] at h; exact h.elim
theorem vs_asg {tg e0 : Expr} {f : VEnv → Rs TV} {g : CTg} (he : EE X W e0 (wE cm f)) (hg : EG X tg g.g) (hs : swapsWithSole [tg] e0 pos.line X.env = pure false := by rfl) (hw : swappedStores [tg] e0 X.env = pure none := by rfl)
    (h1 : (assignEach [tg] X.env).map (·.2) = [assign tg X.env] := by rfl) : ES X W (.Assign [tg] e0 pos) (wS cm (sAsg f g)) := by
  refine vs_of (es_asg he hg hs hw h1) ?_
  rintro EP D s M ⟨e, F, R, h⟩
  refine wAsg_i ⟨e, F, R, OkE.mono (OkS.bind h) fun t e1 M1 F1 R1 G1 h1 p hp => ?_⟩
  cases t with
  | sh v =>
    dsimp only at h1
    split at h1
    · rename_i e2 h2
      exact setT_rs R1 hp h2 fun s' R2 G2 _ _ => h1 s' M1 F1 R2 G2
    · exact h1.elim
  | al j => exact h1.elim
theorem v_par {i j : Nat} {f : VEnv → Rs (List TV)} : ∀ EP D s M, wS cm (sPar i j f) EP D s M → wPar i j (wA cm f) EP D s M := by
  rintro EP D s M ⟨e, F, R, h⟩
  refine wPar_i ⟨e, F, R, OkE.mono (OkS.bind h) fun ts e1 M1 F1 R1 G1 h1 ps hps => ?_⟩
  split at h1
  · obtain ⟨p, r, rfl, hp, q, r2, rfl, hq, rfl⟩ := hps
    split at h1
    · rename_i e2 h2
      unfold setsT at h2
      split at h2
      · rename_i f1
        unfold setsT at h2
        split at h2
        · rename_i f2
          cases h2
          obtain ⟨R2, G2⟩ := R1.setSh f1 hp
          obtain ⟨R3, G3⟩ := R2.setSh f2 (RV.go R1 G2 hq)
          exact qPar_i (h1 _ _ _ R3 (G2.trans G3))
        · cases h2
      · cases h2
    · exact h1.elim
  · exact h1.elim
/-- x[k] = e, of a list of one's own -/
def sStL (i : Nat) (k v : VEnv → Rs TV) : VEnv → Fl := fun e => (v e).toS fun t e1 => match t with
  | .sh z => (match owAt e1 i with
    | some _ => (k e1).toS fun u e2 => (match u with
      | .sh (.int m) => (match owAt e2 i with
        | some (b, xs) => (match ixN xs.length m with
          | some j => .nx (e2.set i (some (.ow b (xs.set j z))))
          | none => .no)
        | none => .no)
      | _ => .no)
    | none => .no)
  | .al _ => .no
theorem v_stL {i : Nat} {k v : VEnv → Rs TV} : ∀ EP D s M, wS cm (sStL i k v) EP D s M → wStL (wVar i) (wE cm k) (wE cm v) EP D s M := by
  rintro EP D s M ⟨e, F, R, h⟩
  refine wStL_i ⟨e, F, R, OkE.mono (OkS.bind h) fun t e1 M1 F1 R1 G1 h1 p hp => ?_⟩
  cases t with
  | al j => exact h1.elim
  | sh z =>
    dsimp only at h1
    cases h2 : owAt e1 i with
    | none => rw [h2] at h1; exact h1.elim
    | some bx =>
      rw [h2] at h1
      obtain ⟨b, xs⟩ := bx
      obtain ⟨a, ps, ea, m1, r1, _⟩ := R1.ow i b xs (owAt_eq h2)
      refine wVar_i ea ⟨e1, F1, R1, OkE.mono (OkS.bind h1) fun u e2 M2 F2 R2 G2 h3 q hq => ?_⟩
      split at h3
      · rename_i w
        rw [RT, RV] at hq
        subst hq
        cases h4 : owAt e2 i with
        | none => rw [h4] at h3; exact h3.elim
        | some bx2 =>
          rw [h4] at h3
          obtain ⟨b2, ys⟩ := bx2
          have hi := owAt_eq h4
          obtain ⟨a', qs, ea', m2, r2, _⟩ := R2.ow i b2 ys hi
          rw [ea] at ea'; cases ea'
          dsimp only at h3
          split at h3
          · rename_i j hj
            obtain ⟨R3, G3⟩ := R2.upd hi ea (r2.set (RV.go R1 G2 hp) j)
            exact rStL_i m2 (by rw [← r2.length]; exact hj) (h3 s _ F2 R3 G3)
          · exact h3.elim
      · exact h3.elim
end
end
end PL
set_option autoImplicit false
namespace PL
open PySem PySem.Spec L2
open PyProof.Rows hiding St

/-! ## comprehensions -/
def wipeE (e : VEnv) : List Nat → VEnv
  | [] => e
  | v :: vs => (wipeE e vs).set v none
def mergeE (e0 e : VEnv) : List Nat → VEnv
  | [] => e
  | v :: vs => (mergeE e0 e vs).set v ((e0[v]?).join)
def Rs.noEx {α : Type} (r : Rs α) : Rs α := match r with
  | .ok a e => .ok a e
  | _ => .no
open Classical in
noncomputable def lcF (own : List (Nat × List PV)) (tg : CTg) (ft : VEnv → Rs Bool) (fe : VEnv → Rs TV) (vs : List Nat) : List PV → List PV → VEnv → Rs (List PV)
  | [], acc, e => if chkO own e then .ok acc e else .no
  | x :: xs, acc, e => if chkO own e then (match setT tg x e with
    | some e2 => (ft e2).noEx.bind fun b e3 => if b = true then (fe e3).noEx.bind fun t e4 => (match t with
        | .sh v => if acc.length < sizeLine then lcF own tg ft fe vs xs (acc ++ [v]) (wipeE e4 vs) else .no
        | .al _ => .no) else lcF own tg ft fe vs xs acc (wipeE e3 vs)
    | none => .no) else .no
noncomputable def lLc (fi : VEnv → Rs VSrc) (tg : CTg) (ft : VEnv → Rs Bool) (fe : VEnv → Rs TV) (vs : List Nat) : VEnv → Rs (List PV) := fun e =>
  (fi e).bind fun src e1 => (lcF src.own tg ft fe vs src.items [] (wipeE e1 vs)).bind fun ys e2 => .ok ys (mergeE e1 e2 vs)
theorem wipe_len {e : VEnv} : ∀ vs : List Nat, (wipeE e vs).length = e.length
  | [] => rfl
  | v :: vs => by rw [wipeE, List.length_set, wipe_len vs]
theorem wipe_out {e : VEnv} {i : Nat} : ∀ {vs : List Nat}, i ∉ vs → (wipeE e vs)[i]? = e[i]?
  | [], _ => rfl
  | v :: vs, h => by
    rw [List.mem_cons, not_or] at h
    rw [wipeE, List.getElem?_set_ne (Ne.symm h.1), wipe_out h.2]
theorem wipe_in {e : VEnv} {i : Nat} {u : SV} : ∀ {vs : List Nat}, (wipeE e vs)[i]? = some (some u) → i ∉ vs
  | [], _ => by simp
  | v :: vs, h => by
    rw [wipeE] at h
    rcases set_get h with ⟨_, z⟩ | ⟨n, z⟩
    · cases z
    · rw [List.mem_cons, not_or]; exact ⟨n, wipe_in z⟩
theorem pwipe_len {s : PSt} : ∀ vs : List Nat, (pwipe s vs).length = s.length
  | [] => rfl
  | v :: vs => by rw [pwipe, List.length_set, pwipe_len vs]
theorem pwipe_out {s : PSt} {i : Nat} : ∀ {vs : List Nat}, i ∉ vs → (pwipe s vs)[i]? = s[i]?
  | [], _ => rfl
  | v :: vs, h => by
    rw [List.mem_cons, not_or] at h
    rw [pwipe, List.getElem?_set_ne (Ne.symm h.1), pwipe_out h.2]
theorem merge_len {e0 e : VEnv} : ∀ vs : List Nat, (mergeE e0 e vs).length = e.length
  | [] => rfl
  | v :: vs => by rw [mergeE, List.length_set, merge_len vs]
theorem merge_out {e0 e : VEnv} {i : Nat} : ∀ {vs : List Nat}, i ∉ vs → (mergeE e0 e vs)[i]? = e[i]?
  | [], _ => rfl
  | v :: vs, h => by
    rw [List.mem_cons, not_or] at h
    rw [mergeE, List.getElem?_set_ne (Ne.symm h.1), merge_out h.2]
theorem merge_in {e0 e : VEnv} {i : Nat} (hl : e.length = e0.length) : ∀ {vs : List Nat}, i ∈ vs → (mergeE e0 e vs)[i]? = e0[i]?
  | [], h => by cases h
  | v :: vs, h => by
    rw [mergeE]
    by_cases z : i = v
    · subst z
      by_cases hi : i < e0.length
      · rw [List.getElem?_set_self (by rw [merge_len, hl]; exact hi), List.getElem?_eq_getElem hi]; rfl
      · rw [List.getElem?_eq_none (by rw [List.length_set, merge_len, hl]; omega), List.getElem?_eq_none (by omega)]
    · rw [List.getElem?_set_ne (Ne.symm z)]
      exact merge_in hl ((List.mem_cons.mp h).resolve_left z)
section
variable {M M' : PH} {F F' : ASet} {e e' : VEnv} {s s' : PSt}
/-- names are wiped -/
theorem RS.wipe {vs : List Nat} {sw : PSt} (R : RS M F e s) (hl : sw.length = s.length) (hs : ∀ j, j ∉ vs → sw[j]? = s[j]?) : RS M F (wipeE e vs) sw ∧ ∀ b, Own (wipeE e vs) sw b → Own e s b := by
  have ow1 : ∀ j c, OwAt (wipeE e vs) sw j c → j ∉ vs ∧ OwAt e s j c := fun j c ⟨⟨b, xs, h1⟩, h2⟩ => by
    have n := wipe_in h1
    rw [wipe_out n] at h1
    rw [hs j n] at h2
    exact ⟨n, ⟨b, xs, h1⟩, h2⟩
  refine ⟨⟨by rw [wipe_len, R.len, hl], fun i v h => ?_, fun i b xs h => ?_, fun i j a h1 h2 => R.sep i j a (ow1 i a h1).2 (ow1 j a h2).2, R.nr, R.fr⟩, fun b ⟨j, h⟩ => ⟨j, (ow1 j b h).2⟩⟩
  · have n := wipe_in h
    rw [wipe_out n] at h
    rw [hs i n]
    exact R.sh i v h
  · have n := wipe_in h
    rw [wipe_out n] at h
    rw [hs i n]
    exact R.ow i b xs h
/-- .. and come back -/
theorem RS.merge {vs : List Nat} (R : RS M F e s) (R' : RS M' F' e' (pwipe s vs)) (G : Go M F (wipeE e vs) (pwipe s vs) M' F' e' (pwipe s vs)) : RS M' F' (mergeE e e' vs) s ∧ Go M F e s M' F' (mergeE e e' vs) s := by
  have hlen : e'.length = e.length := by rw [R'.len, pwipe_len, ← R.len]
  obtain ⟨Rw, hw⟩ := R.wipe (vs := vs) (sw := pwipe s vs) (pwipe_len vs) fun j n => pwipe_out n
  -- a place that a wiped name owns
  have inown : ∀ i a, i ∈ vs → OwAt e s i a → ¬ Own (wipeE e vs) (pwipe s vs) a ∧ M a ≠ none := fun i a hi h => by
    refine ⟨fun ⟨j, z⟩ => ?_, R.own_some ⟨i, h⟩⟩
    obtain ⟨⟨b, xs, z1⟩, z2⟩ := z
    have n := wipe_in z1
    rw [wipe_out n] at z1
    rw [pwipe_out n] at z2
    have := R.sep i j a h ⟨⟨b, xs, z1⟩, z2⟩
    exact n (this ▸ hi)
  have kF : ∀ b o, F b → M b = some o → M' b = some o := fun b o f m => G.tr.keep b o m fun z => R.nfo (hw b z) f
  have ow2 : ∀ j a, OwAt (mergeE e e' vs) s j a → (j ∈ vs ∧ OwAt e s j a) ∨ (j ∉ vs ∧ OwAt e' (pwipe s vs) j a) := fun j a ⟨⟨b, xs, h1⟩, h2⟩ => by
    by_cases hj : j ∈ vs
    · rw [merge_in hlen hj] at h1; exact .inl ⟨hj, ⟨b, xs, h1⟩, h2⟩
    · rw [merge_out hj] at h1; exact .inr ⟨hj, ⟨b, xs, h1⟩, by rw [pwipe_out hj]; exact h2⟩
  have cross : ∀ i j a, i ∈ vs → OwAt e s i a → OwAt e' (pwipe s vs) j a → False := fun i j a hi h1 h2 => by
    obtain ⟨n1, n2⟩ := inown i a hi h1
    rcases G.tr.onew a ⟨j, h2⟩ with z | z
    · exact n1 z
    · exact n2 z
  refine ⟨⟨by rw [merge_len, hlen, R.len], fun i v h => ?_, fun i b xs h => ?_, fun i j a h1 h2 => ?_, R'.nr, R'.fr⟩, ⟨⟨fun b o m n => G.tr.keep b o m fun z => n (hw b z), G.tr.there, G.tr.fsub, fun b z => ?_, fun b ⟨j, z⟩ => ?_⟩, fun i xs h => ⟨?_, rfl⟩⟩⟩
  · by_cases hi : i ∈ vs
    · rw [merge_in hlen hi] at h
      obtain ⟨p, h1, h2⟩ := R.sh i v h
      exact ⟨p, h1, h2.on kF G.tr.fsub⟩
    · rw [merge_out hi] at h
      obtain ⟨p, h1, h2⟩ := R'.sh i v h
      exact ⟨p, by rw [← h1, pwipe_out hi], h2⟩
  · by_cases hi : i ∈ vs
    · rw [merge_in hlen hi] at h
      obtain ⟨a, ps, h1, h2, h3, h4⟩ := R.ow i b xs h
      obtain ⟨n1, n2⟩ := inown i a hi ⟨⟨b, xs, h⟩, h1⟩
      refine ⟨a, ps, h1, G.tr.keep a _ h2 n1, h3.on kF G.tr.fsub, fun z => ?_⟩
      rcases G.tr.fnew a z with z | z | z
      · exact h4 z
      · exact n1 z
      · exact n2 z
    · rw [merge_out hi] at h
      obtain ⟨a, ps, h1, h2⟩ := R'.ow i b xs h
      exact ⟨a, ps, by rw [← h1, pwipe_out hi], h2⟩
  · rcases ow2 i a h1 with ⟨a1, a2⟩ | ⟨a1, a2⟩ <;> rcases ow2 j a h2 with ⟨b1, b2⟩ | ⟨b1, b2⟩
    · exact R.sep i j a a2 b2
    · exact (cross i j a a1 a2 b2).elim
    · exact (cross j i a b1 b2 a2).elim
    · exact R'.sep i j a a2 b2
  · rcases G.tr.fnew b z with z | z | z
    · exact .inl z
    · exact .inr (.inl (hw b z))
    · exact .inr (.inr z)
  · rcases ow2 j b z with ⟨_, z⟩ | ⟨_, z⟩
    · exact .inl ⟨j, z⟩
    · exact (G.tr.onew b ⟨j, z⟩).elim (fun z => .inl (hw b z)) .inr
  · by_cases hi : i ∈ vs
    · exact ⟨xs, by rw [merge_in hlen hi]; exact h⟩
    · obtain ⟨⟨ys, h1⟩, _⟩ := G.pin i xs (by rw [wipe_out hi]; exact h)
      exact ⟨ys, by rw [merge_out hi]; exact h1⟩
end
section
variable {cm : Nat → Addr}
theorem noEx_bind {α β : Type} {EP : PX} {s : PSt} {M : PH} {F : ASet} {e : VEnv} {r : Rs α} {g : α → VEnv → Rs β} {K : β → VEnv → PH → ASet → Prop} (h : OkE cm EP s M F e (r.noEx.bind g) K) :
    ∃ a e1, r = .ok a e1 ∧ ∀ M1 F1, RS M1 F1 e1 s → Go M F e s M1 F1 e1 s → OkE cm EP s M1 F1 e1 (g a e1) K := by
  cases r with
  | ok a e1 => exact ⟨a, e1, rfl, OkE.bind (r := .ok a e1) h⟩
  | ex c fs e1 => exact h.elim
  | no => exact h.elim
/-- what holds from further on holds from here -/
theorem OkE.on {α : Type} {EP : PX} {s : PSt} {M M1 : PH} {F F1 : ASet} {e e1 : VEnv} {r : Rs α} {K : α → VEnv → PH → ASet → Prop} (G : Go M F e s M1 F1 e1 s) (h : OkE cm EP s M F e r K) : OkE cm EP s M1 F1 e1 r K := by
  cases r with
  | ok b e2 => exact fun M2 F2 R2 G2 => h M2 F2 R2 (G.trans G2)
  | ex c fs e2 => exact fun ps M2 F2 R2 G2 => h ps M2 F2 R2 (G.trans G2)
  | no => exact h
theorem lc_sound {own : List (Nat × List PV)} {tg : CTg} {ft : VEnv → Rs Bool} {fe : VEnv → Rs TV} {vs : List Nat} {s : PSt} {Mb : PH} {Fb : ASet} {src : VSrc} {psrc : PSrc} {Q : List PV → PH → Prop}
    (ho : src.own = own) (hsub : ∀ i ∈ tg.ix, i ∈ vs) (hsrc : RSrc Mb Fb s src psrc) : ∀ (xs ps acc qacc : List PV) (e : VEnv) (M : PH) (F : ASet), RS M F e (pwipe s vs) → (∀ (i : Nat) (u : SV), e[i]? = some (some u) → i ∉ vs) → (∀ b o, Fb b → Mb b = some o → M b = some o) → (∀ b, Fb b → F b) →
    RVs M F xs ps → RVs M F acc qacc → OkE cm (fun _ _ _ _ => False) (pwipe s vs) M F e (lcF own tg ft fe vs xs acc e) (fun ys e' M' F' => ∀ qs, RVs M' F' ys qs → Q qs M') → lcW psrc.ok tg.g (wT cm ft) (wE cm fe) (pwipe s vs) Q ps qacc M := by
  intro xs
  induction xs with
  | nil =>
    intro ps acc qacc e M F R hw hk hf r ra h
    rw [RVs] at r; subst r
    unfold lcF at h
    split at h
    · rename_i hc
      refine ⟨hsrc.at hk R (fun ix hx => ?_) (ho ▸ hc), h M F R (.refl _ _ _ _) _ ra⟩
      obtain ⟨b, hb⟩ := hc ix (ho ▸ hx)
      exact pwipe_out (hw _ _ hb)
    · exact h.elim
  | cons x xs ih =>
    intro ps acc qacc e M F R hw hk hf r ra h
    rw [RVs] at r
    obtain ⟨p, q, rfl, r1, r2⟩ := r
    unfold lcF at h
    split at h
    · rename_i hc
      have hok : psrc.ok M := by
        refine hsrc.at hk R (fun ix hx => ?_) (ho ▸ hc)
        obtain ⟨b, hb⟩ := hc ix (ho ▸ hx)
        exact pwipe_out (hw _ _ hb)
      refine ⟨hok, ?_⟩
      split at h
      · rename_i e2 h2
        refine setT_rs R r1 h2 fun s2 R2 G2 hl2 hs2 => ?_
        -- one more turn
        have next : ∀ (e4 : VEnv) (M4 : PH) (F4 : ASet) (acc' qacc' : List PV), RS M4 F4 e4 s2 → Go M F e (pwipe s vs) M4 F4 e4 s2 → RVs M4 F4 acc' qacc' →
            OkE cm (fun _ _ _ _ => False) (pwipe s vs) M F e (lcF own tg ft fe vs xs acc' (wipeE e4 vs)) (fun ys e' M' F' => ∀ qs, RVs M' F' ys qs → Q qs M') →
            lcW psrc.ok tg.g (wT cm ft) (wE cm fe) (pwipe s vs) Q q qacc' M4 := fun e4 M4 F4 acc' qacc' R4 G4 ra' h4 => by
          obtain ⟨Rw, hOw⟩ := R4.wipe (vs := vs) (sw := pwipe s vs) hl2.symm fun j n => (hs2 j fun z => n (hsub j z)).symm
          have Gw : Go M F e (pwipe s vs) M4 F4 (wipeE e4 vs) (pwipe s vs) := ⟨⟨G4.tr.keep, G4.tr.there, G4.tr.fsub, G4.tr.fnew, fun b z => G4.tr.onew b (hOw b z)⟩, fun i ys z => ⟨by
            obtain ⟨⟨zs, w⟩, _⟩ := G4.pin i ys z
            exact ⟨zs, by rw [wipe_out (hw i _ z)]; exact w⟩, rfl⟩⟩
          exact ih q acc' qacc' _ M4 F4 Rw (fun i u z => wipe_in z) (fun b o f m => G4.keepF R b o (hf b f) (hk b o f m)) (fun b f => G4.tr.fsub b (hf b f)) (RVs.go R G4 r2) ra' (OkE.on Gw h4)
        cases q1 : ft e2 with
        | ex c fs e3 => rw [q1] at h; exact h.elim
        | no => rw [q1] at h; exact h.elim
        | ok b e3 =>
          rw [q1] at h
          refine ⟨e2, F, R2, ?_⟩
          rw [q1]
          intro M3 F3 R3 G3
          have G := G2.trans G3
          have h : OkE cm (fun _ _ _ _ => False) (pwipe s vs) M F e (if b = true then (fe e3).noEx.bind fun t e4 => (match t with
            | .sh v => if acc.length < sizeLine then lcF own tg ft fe vs xs (acc ++ [v]) (wipeE e4 vs) else .no
            | .al _ => .no) else lcF own tg ft fe vs xs acc (wipeE e3 vs)) _ := h
          cases b with
          | false => exact next e3 M3 F3 acc qacc R3 G (RVs.go R G ra) h
          | true =>
            rw [if_pos rfl] at h
            show wE cm fe _ _ _ _
            cases q2 : fe e3 with
            | ex c fs e4 => rw [q2] at h; exact h.elim
            | no => rw [q2] at h; exact h.elim
            | ok t e4 =>
              rw [q2] at h
              refine ⟨e3, F3, R3, ?_⟩
              rw [q2]
              intro M4 F4 R4 G4 y hy
              cases t with
              | al j => exact h.elim
              | sh v =>
                have h : OkE cm (fun _ _ _ _ => False) (pwipe s vs) M F e (if acc.length < sizeLine then lcF own tg ft fe vs xs (acc ++ [v]) (wipeE e4 vs) else .no) _ := h
                split at h
                · rename_i hl
                  exact ⟨by rw [← ra.length]; exact hl, next e4 M4 F4 (acc ++ [v]) (qacc ++ [y]) R4 (G.trans G4) ((RVs.go R (G.trans G4) ra).snoc hy) h⟩
                · exact h.elim
      · exact h.elim
    · exact h.elim
theorem v_lc {fi : VEnv → Rs VSrc} {tg : CTg} {ft : VEnv → Rs Bool} {fe : VEnv → Rs TV} {vs : List Nat} (hsub : ∀ i ∈ tg.ix, i ∈ vs) : ∀ EP s M Q, wL cm (lLc fi tg ft fe vs) EP s M Q → wLc (wI cm fi) tg (wT cm ft) (wE cm fe) vs EP s M Q := by
  rintro EP s M Q ⟨e, F, R, h⟩
  refine ⟨e, F, R, h.bind.mono fun src e1 M1 F1 R1 G1 h1 psrc hsrc => ?_⟩
  obtain ⟨Rw, hw⟩ := R1.wipe (vs := vs) (sw := pwipe s vs) (pwipe_len vs) fun j n => pwipe_out n
  refine lc_sound (cm := cm) rfl hsub hsrc src.items psrc.items [] [] (wipeE e1 vs) M1 F1 Rw (fun i u z => wipe_in z) (fun _ _ _ m => m) (fun _ f => f) hsrc.items .nil ?_
  have h2 := h1
  cases q : lcF src.own tg ft fe vs src.items [] (wipeE e1 vs) with
  | no => rw [q] at h1; exact h1.elim
  | ex c fs e2 => exact (lc_noex q).elim
  | ok ys e2 =>
    rw [q] at h1
    intro M2 F2 R2 G2 qs hqs
    obtain ⟨R3, G3⟩ := R1.merge R2 G2
    exact h1 M2 F2 R3 G3 qs hqs
where
  lc_noex {own tg ft fe vs c fs e2} : ∀ {xs acc e}, lcF own tg ft fe vs xs acc e = .ex c fs e2 → False := by
    intro xs
    induction xs with
    | nil =>
      intro acc e h
      unfold lcF at h
      split at h <;> cases h
    | cons x xs ih =>
      intro acc e h
      unfold lcF at h
      split at h
      · split at h
        · rename_i e2 h2
          cases q1 : ft e2 with
          | ex c fs e3 => rw [q1] at h; cases h
          | no => rw [q1] at h; cases h
          | ok b e3 =>
            rw [q1] at h
            cases b with
            | false => exact ih h
            | true =>
              have h : (fe e3).noEx.bind (fun t e4 => (match t with
                | .sh v => if acc.length < sizeLine then lcF own tg ft fe vs xs (acc ++ [v]) (wipeE e4 vs) else .no
                | .al _ => .no)) = .ex c fs _ := h
              cases q2 : fe e3 with
              | ex c fs e4 => rw [q2] at h; cases h
              | no => rw [q2] at h; cases h
              | ok t e4 =>
                rw [q2] at h
                cases t with
                | al j => cases h
                | sh v =>
                  have h : (if acc.length < sizeLine then lcF own tg ft fe vs xs (acc ++ [v]) (wipeE e4 vs) else .no) = .ex c fs _ := h
                  split at h
                  · exact ih h
                  · cases h
        · cases h
      · cases h
def fYes : VEnv → Rs Bool := fun e => .ok true e
theorem vts_nil {X : Cx} : ETs X [] (wT cm fYes) := ⟨wT_mono, pts_weak ets_nil.run fun σ H Q ⟨EP, s, M, c, e, F, R, h⟩ => ⟨EP, s, M, c, h M F R (.refl _ _ _ _)⟩⟩
theorem vts_one {X : Cx} {c : Expr} {f : VEnv → Rs Bool} (h : ET X W0 c (wT cm f)) : ETs X [c] (wT cm f) := ets_one h
section
variable {X : Cx} {W : WX} {elt tg iter : Expr} {ifs : List Expr} {scope : Scope} {own : List (Str × Nat)} {pos : Pos} {fi : VEnv → Rs VSrc} {g : CTg} {ft : VEnv → Rs Bool} {fe : VEnv → Rs TV}
theorem vl_lc (hc : X.calm = true) (hN : X.N.Nodup) (hi : EI X W tg iter (wI cm fi)) (ok : BlkOk X.N X.env.scope scope own)
    (hg : ∀ (s : Shared) (H : Hp) (C : Addr) (cl : List (Str × Addr)) (fp : List Addr), EC (X.blk s H scope (compEnvC scope cl C X.env) fp) tg g)
    (ht : ∀ (s : Shared) (H : Hp) (C : Addr) (cl : List (Str × Addr)) (fp : List Addr), ETs (X.blk s H scope (compEnvC scope cl C X.env) fp) ifs (wT cm ft))
    (he : ∀ (s : Shared) (H : Hp) (C : Addr) (cl : List (Str × Addr)) (fp : List Addr), EE (X.blk s H scope (compEnvC scope cl C X.env) fp) W0 elt (wE cm fe))
    (hv : ∀ i ∈ g.ix, i ∈ own.map (·.2) := by decide) (hs : ∀ x, foldedSetIterable iter X.env x = pure x := by intro _; rfl) :
    EL X W (.ListComp elt [⟨tg, iter, ifs, 0⟩] scope pos) (wL cm (lLc fi g ft fe (own.map (·.2)))) :=
  vl_of (el_lc hc hN hi ok hg ht he hv hs) (v_lc hv)
theorem vs_setLc {D0 : Bool} {i : Nat} {y : Str} {py spos : Pos} (hc : X.calm = true) (hN : X.N.Nodup) (hi : EI X W tg iter (wI cm fi)) (ok : BlkOk X.N X.env.scope scope own)
    (hg : ∀ (s : Shared) (H : Hp) (C : Addr) (cl : List (Str × Addr)) (fp : List Addr), EC (X.blk s H scope (compEnvC scope cl C X.env) fp) tg g)
    (ht : ∀ (s : Shared) (H : Hp) (C : Addr) (cl : List (Str × Addr)) (fp : List Addr), ETs (X.blk s H scope (compEnvC scope cl C X.env) fp) ifs (wT cm ft))
    (he : ∀ (s : Shared) (H : Hp) (C : Addr) (cl : List (Str × Addr)) (fp : List Addr), EE (X.blk s H scope (compEnvC scope cl C X.env) fp) W0 elt (wE cm fe))
    (hw : ES X W (.Assign [.Name y py] (.ListComp elt [⟨tg, iter, ifs, 0⟩] scope pos) spos) (wSet i (wNew (wLc (wI cm fi) g (wT cm ft) (wE cm fe) (own.map (·.2))))))
    (hv : ∀ i ∈ g.ix, i ∈ own.map (·.2) := by decide) :
    ES X W (.Assign [.Name y py] (.ListComp elt [⟨tg, iter, ifs, 0⟩] scope pos) spos) (wS cm (if D0 = true then sSetL i (lLc fi g ft fe (own.map (·.2))) else sSet i (fNew (lLc fi g ft fe (own.map (·.2)))))) := by
  cases D0 with
  | true =>
    refine vs_of hw ?_
    intro EP D s M h
    have h2 := v_setL EP D s M h
    refine wSet_i (wNew_i ?_)
    exact v_lc hv EP s M _ h2
  | false =>
    refine vs_of hw ?_
    intro EP D s M h
    have h2 := v_setN EP D s M h
    refine wSet_i (wNew_i ?_)
    exact v_lc hv EP s M _ h2
end

/-! ## for -/
open Classical in
noncomputable def forF (own : List (Nat × List PV)) (tg : CTg) (b : VEnv → Fl) : List PV → VEnv → Fl
  | [], e => if chkO own e then .nx e else .no
  | x :: xs, e => if chkO own e then (match setT tg x e with
    | some e2 => (match b e2 with
      | .nx e3 => forF own tg b xs e3
      | .ct e3 => forF own tg b xs e3
      | .bk e3 => .nx e3
      | o => o)
    | none => .no) else .no
noncomputable def sFor (fi : VEnv → Rs VSrc) (tg : CTg) (b : VEnv → Fl) : VEnv → Fl := fun e => (fi e).toS fun src e1 => match src.own with
  | [] => forF [] tg b src.items e1
  | [(i, xs)] => (match owAt e1 i with
    | some (b0, ys) => (match forF [(i, xs)] tg b src.items (e1.set i (some (.ow true ys))) with
      | .nx e2 => (match owAt e2 i with
        | some (_, zs) => .nx (e2.set i (some (.ow b0 zs)))
        | none => .no)
      | o => o)
    | none => .no)
  | _ => .no
theorem for_sound {own : List (Nat × List PV)} {tg : CTg} {b : VEnv → Fl} {s0 : PSt} {Mb : PH} {Fb : ASet} {src : VSrc} {psrc : PSrc} {EP : PX} {D : PEnds} (ho : src.own = own) (hsrc : RSrc Mb Fb s0 src psrc) :
    ∀ (xs ps : List PV) (e : VEnv) (s : PSt) (M : PH) (F : ASet), RS M F e s → (∀ b o, Fb b → Mb b = some o → M b = some o) → (∀ b, Fb b → F b) → (∀ ix ∈ own, (∃ ys, e[ix.1]? = some (some (.ow true ys))) ∧ s[ix.1]? = s0[ix.1]?) →
    RVs M F xs ps → OkS cm EP D s M F e (forF own tg b xs e) → forW psrc.ok tg.g (wS cm b) EP D ps s M := by
  intro xs
  induction xs with
  | nil =>
    intro ps e s M F R hk hf hp r h
    rw [RVs] at r; subst r
    unfold forF at h
    split at h
    · rename_i hc
      exact ⟨hsrc.at hk R (fun ix hx => (hp ix (ho ▸ hx)).2) (ho ▸ hc), h s M F R (.refl _ _ _ _)⟩
    · exact h.elim
  | cons x xs ih =>
    intro ps e s M F R hk hf hp r h
    rw [RVs] at r
    obtain ⟨p, q, rfl, r1, r2⟩ := r
    unfold forF at h
    split at h
    · rename_i hc
      refine ⟨hsrc.at hk R (fun ix hx => (hp ix (ho ▸ hx)).2) (ho ▸ hc), ?_⟩
      split at h
      · rename_i e2 h2
        refine setT_rs R r1 h2 fun s2 R2 G2 hl2 hs2 => ⟨e2, F, R2, ?_⟩
        have next : ∀ e3, OkS cm EP D s M F e (forF own tg b xs e3) → ∀ s3 M3 F3, RS M3 F3 e3 s3 → Go M F e2 s2 M3 F3 e3 s3 → forW psrc.ok tg.g (wS cm b) EP D q s3 M3 := fun e3 h3 s3 M3 F3 R3 G3 => by
          have G := G2.trans G3
          refine ih q e3 s3 M3 F3 R3 (fun b o f m => G.keepF R b o (hf b f) (hk b o f m)) (fun b f => G.tr.fsub b (hf b f)) (fun ix hx => ?_) (RVs.go R G r2) (OkS.on G h3)
          obtain ⟨⟨ys, h4⟩, h5⟩ := hp ix hx
          obtain ⟨h6, h7⟩ := G.pin ix.1 ys h4
          exact ⟨h6, h7.trans h5⟩
        cases q1 : b e2 with
        | nx e3 => rw [q1] at h; exact next e3 h
        | ct e3 => rw [q1] at h; exact next e3 h
        | bk e3 =>
          rw [q1] at h
          have h : OkS cm EP D s M F e (.nx e3) := h
          exact fun s' M' F' R' G' => h s' M' F' R' (G2.trans G')
        | rt r e3 =>
          rw [q1] at h
          have h : OkS cm EP D s M F e (.rt r e3) := h
          exact OkS.on (D := { D with nx := forW psrc.ok tg.g (wS cm b) EP D q, ct := forW psrc.ok tg.g (wS cm b) EP D q, bk := D.nx }) G2 (r := .rt r e3) h
        | ex c fs e3 =>
          rw [q1] at h
          have h : OkS cm EP D s M F e (.ex c fs e3) := h
          exact OkS.on (D := { D with nx := forW psrc.ok tg.g (wS cm b) EP D q, ct := forW psrc.ok tg.g (wS cm b) EP D q, bk := D.nx }) G2 (r := .ex c fs e3) h
        | no => rw [q1] at h; exact h.elim
      · exact h.elim
    · exact h.elim
/-- a name of a list of one's own is held fast, let go -/
theorem RS.flag {M : PH} {F : ASet} {e : VEnv} {s : PSt} {i : Nat} {b c : Bool} {xs : List PV} (R : RS M F e s) (h : e[i]? = some (some (.ow b xs))) : RS M F (e.set i (some (.ow c xs))) s ∧ ∀ d, Own (e.set i (some (.ow c xs))) s d ↔ Own e s d := by
  have hi : i < e.length := (List.getElem?_eq_some_iff.mp h).1
  have ow1 : ∀ j a, OwAt (e.set i (some (.ow c xs))) s j a → OwAt e s j a := fun j a ⟨⟨b2, zs, z1⟩, z2⟩ => by
    rcases set_get z1 with ⟨rfl, _⟩ | ⟨n, z⟩
    · exact ⟨⟨b, xs, h⟩, z2⟩
    · exact ⟨⟨b2, zs, z⟩, z2⟩
  refine ⟨⟨by simp [R.len], fun j u z => ?_, fun j b2 zs z => ?_, fun j k a z1 z2 => R.sep j k a (ow1 j a z1) (ow1 k a z2), R.nr, R.fr⟩, fun d => ⟨fun ⟨j, z⟩ => ⟨j, ow1 j d z⟩, fun ⟨j, z⟩ => ?_⟩⟩
  · rcases set_get z with ⟨_, z⟩ | ⟨n, z⟩
    · cases z
    · exact R.sh j u z
  · rcases set_get z with ⟨ez, w⟩ | ⟨n, z⟩
    · subst ez; cases w; exact R.ow j b xs h
    · exact R.ow j b2 zs z
  · by_cases hj : i = j
    · subst hj
      exact ⟨i, ⟨c, xs, List.getElem?_set_self hi⟩, z.2⟩
    · obtain ⟨⟨b2, zs, z1⟩, z2⟩ := z
      exact ⟨j, ⟨b2, zs, by rw [List.getElem?_set_ne hj]; exact z1⟩, z2⟩
theorem v_for {fi : VEnv → Rs VSrc} {tg : CTg} {b : VEnv → Fl} : ∀ EP D s M, wS cm (sFor fi tg b) EP D s M → wFor (wI cm fi) tg.g (wS cm b) EP D s M := by
  rintro EP D s M ⟨e, F, R, h⟩
  refine wFor_i ⟨e, F, R, OkE.mono (OkS.bind h) fun src e1 M1 F1 R1 G1 h1 psrc hsrc => ?_⟩
  split at h1
  · rename_i ho
    exact for_sound ho hsrc src.items psrc.items e1 s M1 F1 R1 (fun _ _ _ m => m) (fun _ f => f) (fun ix hx => by cases hx) hsrc.items h1
  · rename_i i xs ho
    cases q : owAt e1 i with
    | none => rw [q] at h1; exact h1.elim
    | some bx =>
      obtain ⟨b0, ys⟩ := bx
      rw [q] at h1
      have hi := owAt_eq q
      obtain ⟨R2, hO⟩ := R1.flag (c := true) hi
      have il : i < e1.length := (List.getElem?_eq_some_iff.mp hi).1
      have G2 : Go M1 F1 e1 s M1 F1 (e1.set i (some (.ow true ys))) s := ⟨⟨fun _ _ h _ => h, fun _ h => h, fun _ h => h, fun _ h => .inl h, fun d z => .inl ((hO d).mp z)⟩, fun j zs z => ⟨by
        by_cases hj : i = j
        · subst hj; exact ⟨ys, List.getElem?_set_self il⟩
        · exact ⟨zs, by rw [List.getElem?_set_ne hj]; exact z⟩, rfl⟩⟩
      have main : ∀ D', OkS cm EP D' s M1 F1 (e1.set i (some (.ow true ys))) (forF [(i, xs)] tg b src.items (e1.set i (some (.ow true ys)))) → forW psrc.ok tg.g (wS cm b) EP D' psrc.items s M1 := fun D' h2 =>
        for_sound ho hsrc src.items psrc.items _ s M1 F1 R2 (fun _ _ _ m => m) (fun _ f => f) (fun ix hx => by
          rw [List.mem_singleton] at hx; subst hx
          exact ⟨⟨ys, List.getElem?_set_self il⟩, rfl⟩) hsrc.items h2
      dsimp only at h1
      refine main D ?_
      cases q2 : forF [(i, xs)] tg b src.items (e1.set i (some (.ow true ys))) with
      | nx e2 =>
        rw [q2] at h1
        dsimp only at h1
        intro s' M' F' R' G'
        cases q3 : owAt e2 i with
        | none => rw [q3] at h1; exact h1.elim
        | some bz =>
          obtain ⟨b2, zs⟩ := bz
          rw [q3] at h1
          obtain ⟨R3, hO3⟩ := R'.flag (c := b0) (owAt_eq q3)
          have G := G2.trans G'
          refine h1 s' M' F' R3 ⟨⟨G.tr.keep, G.tr.there, G.tr.fsub, G.tr.fnew, fun d z => G.tr.onew d ((hO3 d).mp z)⟩, fun j us z => ?_⟩
          obtain ⟨⟨ws, w1⟩, w2⟩ := G.pin j us z
          refine ⟨?_, w2⟩
          by_cases hj : i = j
          · subst hj
            rw [hi] at z; cases z
            exact ⟨zs, List.getElem?_set_self (by rw [List.getElem?_eq_some_iff] at w1; exact w1.1)⟩
          · exact ⟨ws, by rw [List.getElem?_set_ne hj]; exact w1⟩
      | bk e2 => rw [q2] at h1; exact OkS.on G2 (r := .bk e2) h1
      | ct e2 => rw [q2] at h1; exact OkS.on G2 (r := .ct e2) h1
      | rt r e2 => rw [q2] at h1; exact OkS.on G2 (r := .rt r e2) h1
      | ex c fs e2 => rw [q2] at h1; exact OkS.on (D := D) G2 (r := .ex c fs e2) h1
      | no => rw [q2] at h1; exact h1.elim
  · exact h1.elim
theorem vs_for {X : Cx} {W : WX} {tg iter : Expr} {body : List Stmt} {fi : VEnv → Rs VSrc} {g : CTg} {b : VEnv → Fl} {pos : Pos} (hp : PassesOwn (model X.prog X.w) X.A X.env X.xe) (hc : X.calm = true) (hi : EI X W tg iter (wI cm fi)) (hg : EG X tg g.g) (hb : EB X W body (wS cm b))
    (hs : ∀ x, foldedSetIterable iter X.env x = pure x := by intro _; rfl) : ES X W (.For tg iter body [] pos) (wS cm (sFor fi g b)) :=
  vs_of (es_for hp hc hi hg hb hs) v_for
/-! ## while -/
def whileF (c : VEnv → Rs Bool) (b : VEnv → Fl) : Nat → VEnv → Fl
  | 0, _ => .no
  | k + 1, e => (c e).toS fun t e1 => if t = true then (match b e1 with
    | .nx e2 => whileF c b k e2
    | .ct e2 => whileF c b k e2
    | .bk e2 => .nx e2
    | o => o) else .nx e1
def sWhile (n : Nat) (c : VEnv → Rs Bool) (b : VEnv → Fl) : VEnv → Fl := whileF c b n
theorem vs_while {X : Cx} {W : WX} {x : Expr} {body : List Stmt} {c : VEnv → Rs Bool} {b : VEnv → Fl} {pos : Pos} (n : Nat) (hp : PassesOwn (model X.prog X.w) X.A X.env X.xe) (hc : ET X W x (wT cm c)) (hb : EB X W body (wS cm b)) : ES X W (.While x body [] pos) (wS cm (sWhile n c b)) := by
  refine vs_of (es_while hp hc hb) ?_
  rintro EP D s M ⟨e, F, R, h⟩
  refine ⟨fun m s M => ∃ e F, RS M F e s ∧ OkS cm EP D s M F e (whileF c b m e), ⟨n, e, F, R, h⟩, ?_⟩
  rintro m s M ⟨e, F, R, h⟩
  cases m with
  | zero => exact h.elim
  | succ k =>
    refine ⟨e, F, R, OkE.mono (OkS.bind h) fun t e1 M1 F1 R1 G1 h1 => ?_⟩
    cases t with
    | false => exact h1 s M1 F1 R1 (.refl _ _ _ _)
    | true =>
      rw [if_pos rfl] at h1
      refine ⟨fun s' M' => ∃ e F, RS M' F e s' ∧ OkS cm EP D s' M' F e (whileF c b k e), fun s' M' h => ⟨k, Nat.lt_succ_self k, h⟩, e1, F1, R1, ?_⟩
      cases q1 : b e1 with
      | nx e3 => rw [q1] at h1; exact fun s' M' F' R' G' => ⟨e3, F', R', OkS.on G' h1⟩
      | ct e3 => rw [q1] at h1; exact fun s' M' F' R' G' => ⟨e3, F', R', OkS.on G' h1⟩
      | bk e3 => rw [q1] at h1; exact h1
      | rt r e3 => rw [q1] at h1; exact h1
      | ex c fs e3 => rw [q1] at h1; exact h1
      | no => rw [q1] at h1; exact h1
end
end PL
set_option autoImplicit false
namespace PL
open PySem PySem.Spec L2
open PyProof.Rows hiding St

/-! ## defs -/
inductive RsC where
  | ok (r : SV) (e : VEnv)
  | ex (c : Nat) (fs : List (Str × PV)) (e : VEnv)
  | no
def maskO (v : SV) (u : Option SV) : Option SV := match v with
  | .sh _ => none
  | .ow _ _ => match u with
    | some (.ow true xs) => some (.ow true xs)
    | _ => none
def maskP : List SV → VEnv → VEnv
  | [], _ => []
  | _ :: vs, [] => none :: maskP vs []
  | v :: vs, u :: us => maskO v u :: maskP vs us
def fDef (N : Nat) (b : VEnv → Fl) (vs : List SV) : RsC := match b (vs.map some ++ List.replicate (N - vs.length) none) with
  | .rt r e => .ok r (maskP vs e)
  | .nx e => .ok (.sh .non) (maskP vs e)
  | .ex c fs e => .ex c fs (maskP vs e)
  | _ => .no
def isSh : SV → Bool
  | .sh _ => true
  | .ow _ _ => false
def isPin : SV → Bool
  | .sh _ => true
  | .ow b _ => b
def noOw (vs : List SV) : Bool := vs.all isSh
def purR : SV → Bool
  | .sh v => pur v
  | .ow _ _ => false
def A0 : ASet := fun _ => False
section
variable (cm : Nat → Addr)
def pV (n : Nat) (f : List SV → RsC) : PSp := fun ps M Q E => ps.length = n ∧ ∃ vs F, vs.length = n ∧ RS M F (vs.map some) (ps.map some) ∧ vs.all isPin = true ∧ match f vs with
  | .ok r e' => if (noOw vs && purR r) = true then ∀ v, r = .sh v → Q v M else
      ∀ p M' F', RS M' F' e' (ps.map some) → Go M F (vs.map some) (ps.map some) M' F' e' (ps.map some) → RR M A0 M' F' (Own e' (ps.map some)) r p → Q p M'
  | .ex c fs e' => ∀ qs M' F', RS M' F' e' (ps.map some) → Go M F (vs.map some) (ps.map some) M' F' e' (ps.map some) → RVs M' F' (fs.map (·.2)) qs → E (.ref (cm c)) ((fs.map (·.1)).zip qs) M'
  | .no => False
variable {cm}
theorem pV_len {n : Nat} {f : List SV → RsC} : LenP (pV cm n f) n := fun ps M Q E h => h.1
theorem pV_mono {n : Nat} {f : List SV → RsC} : MonoP (pV cm n f) := by
  rintro ps M Q Q' E E' kq ke ⟨h1, vs, F, h2, h3, h4, h5⟩
  refine ⟨h1, vs, F, h2, h3, h4, ?_⟩
  cases q : f vs with
  | ok r e' =>
    rw [q] at h5
    dsimp only at h5 ⊢
    split at h5
    · rename_i z
      rw [if_pos z]
      exact fun v e => kq _ _ (h5 v e)
    · rename_i z
      rw [if_neg z]
      exact fun p M' F' R G r => kq _ _ (h5 p M' F' R G r)
  | ex c fs e' => rw [q] at h5; exact fun qs M' F' R G r => ke _ _ _ (h5 qs M' F' R G r)
  | no => rw [q] at h5; exact h5
theorem mask_len : ∀ (vs : List SV) (e : VEnv), (maskP vs e).length = vs.length
  | [], _ => rfl
  | _ :: vs, [] => by rw [maskP, List.length_cons, List.length_cons, mask_len vs []]
  | _ :: vs, _ :: us => by rw [maskP, List.length_cons, List.length_cons, mask_len vs us]
theorem mask_get : ∀ {vs : List SV} {e : VEnv} {i : Nat} {u : SV}, (maskP vs e)[i]? = some (some u) → ∃ b xs ys, vs[i]? = some (.ow b xs) ∧ e[i]? = some (some (.ow true ys)) ∧ u = .ow true ys
  | [], _, _, _, h => by rw [maskP] at h; simp at h
  | v :: vs, [], i, u, h => by
    rw [maskP] at h
    cases i with
    | zero => simp at h
    | succ i => obtain ⟨b, xs, ys, h1, h2, h3⟩ := mask_get (by simpa using h); simp at h2
  | v :: vs, w :: us, i, u, h => by
    rw [maskP] at h
    cases i with
    | zero =>
      simp only [List.getElem?_cons_zero, Option.some.injEq] at h
      unfold maskO at h
      split at h
      · cases h
      · split at h
        · cases h; exact ⟨_, _, _, rfl, rfl, rfl⟩
        · cases h
    | succ i =>
      obtain ⟨b, xs, ys, h1, h2, h3⟩ := mask_get (by simpa using h)
      exact ⟨b, xs, ys, by simpa using h1, by simpa using h2, h3⟩
theorem mask_put : ∀ {vs : List SV} {e : VEnv} {i : Nat} {b : Bool} {xs ys : List PV}, vs[i]? = some (.ow b xs) → e[i]? = some (some (.ow true ys)) → (maskP vs e)[i]? = some (some (.ow true ys))
  | [], _, i, _, _, _, h, _ => by simp at h
  | v :: vs, [], i, _, _, _, _, h => by simp at h
  | v :: vs, w :: us, i, b, xs, ys, h, g => by
    cases i with
    | zero =>
      simp only [List.getElem?_cons_zero, Option.some.injEq] at h g
      subst h g
      rfl
    | succ i =>
      rw [maskP]
      simpa using mask_put (by simpa using h) (by simpa using g)
theorem start_get {vs : List SV} {n : Nat} {i : Nat} {u : SV} (h : (vs.map some ++ List.replicate n none : VEnv)[i]? = some (some u)) : vs[i]? = some u := by
  rw [List.getElem?_append] at h
  split at h
  · rw [List.getElem?_map] at h
    obtain ⟨v, e, z⟩ := Option.map_eq_some_iff.mp h
    cases z; exact e
  · have := List.eq_of_mem_replicate (List.mem_of_getElem? h)
    cases this
theorem map_get {vs : List SV} {i : Nat} {u : SV} : (vs.map some : VEnv)[i]? = some (some u) ↔ vs[i]? = some u := by
  rw [List.getElem?_map]
  constructor
  · intro h
    obtain ⟨v, e, z⟩ := Option.map_eq_some_iff.mp h
    cases z; exact e
  · intro h; rw [h]; rfl
/-- the start of a def -/
theorem RS.start {M : PH} {F : ASet} {vs : List SV} {ps : List PV} {N : Nat} (R : RS M F (vs.map some) (ps.map some)) : RS M F (vs.map some ++ List.replicate (N - vs.length) none) (startP N ps) ∧ (∀ a, Own (vs.map some ++ List.replicate (N - vs.length) none) (startP N ps) a ↔ Own (vs.map some) (ps.map some) a) ∧
    ∀ (i : Nat) (u : SV), vs[i]? = some u → (startP N ps)[i]? = (ps.map some)[i]? := by
  have hl : vs.length = ps.length := by have := R.len; simpa using this
  have sg : ∀ (i : Nat) (u : SV), vs[i]? = some u → (startP N ps)[i]? = (ps.map some)[i]? := fun i u h => by
    have hi := (List.getElem?_eq_some_iff.mp h).1
    unfold startP
    rw [List.getElem?_append_left (by simp; omega)]
  have eg : ∀ (i : Nat) (u : SV), vs[i]? = some u → (vs.map some ++ List.replicate (N - vs.length) none : VEnv)[i]? = some (some u) := fun i u h => by
    have hi := (List.getElem?_eq_some_iff.mp h).1
    rw [List.getElem?_append_left (by simpa using hi)]
    exact map_get.mpr h
  have ow1 : ∀ j a, OwAt (vs.map some ++ List.replicate (N - vs.length) none) (startP N ps) j a ↔ OwAt (vs.map some) (ps.map some) j a := fun j a => by
    constructor
    · rintro ⟨⟨b, xs, h1⟩, h2⟩
      have h3 := start_get h1
      exact ⟨⟨b, xs, map_get.mpr h3⟩, by rw [← sg j _ h3]; exact h2⟩
    · rintro ⟨⟨b, xs, h1⟩, h2⟩
      have h3 := map_get.mp h1
      exact ⟨⟨b, xs, eg j _ h3⟩, by rw [sg j _ h3]; exact h2⟩
  refine ⟨⟨by simp [startP, hl], fun i v h => ?_, fun i b xs h => ?_, fun i j a h1 h2 => R.sep i j a ((ow1 i a).mp h1) ((ow1 j a).mp h2), R.nr, R.fr⟩, fun a => ⟨fun ⟨j, z⟩ => ⟨j, (ow1 j a).mp z⟩, fun ⟨j, z⟩ => ⟨j, (ow1 j a).mpr z⟩⟩, sg⟩
  · have h3 := start_get h
    rw [sg i _ h3]
    exact R.sh i v (map_get.mpr h3)
  · have h3 := start_get h
    rw [sg i _ h3]
    exact R.ow i b xs (map_get.mpr h3)
theorem all_pin {vs : List SV} (h : vs.all isPin = true) {i : Nat} {b : Bool} {xs : List PV} (e : vs[i]? = some (.ow b xs)) : b = true := by
  rw [List.all_eq_true] at h
  exact h _ (List.mem_of_getElem? e)
theorem no_own {vs : List SV} {ps : List PV} (h : noOw vs = true) {a : Addr} : ¬ Own (vs.map some) (ps.map some) a := by
  rintro ⟨j, ⟨b, xs, h1⟩, _⟩
  unfold noOw at h
  rw [List.all_eq_true] at h
  have := h _ (List.mem_of_getElem? (map_get.mp h1))
  cases this
/-- the end of a def -/
theorem RS.stop {M M' : PH} {F F' : ASet} {vs : List SV} {ps : List PV} {N : Nat} {e' : VEnv} {s' : PSt} (R : RS M F (vs.map some) (ps.map some)) (hp : vs.all isPin = true) (R' : RS M' F' e' s') (G : Go M F (vs.map some ++ List.replicate (N - vs.length) none) (startP N ps) M' F' e' s') :
    RS M' F' (maskP vs e') (ps.map some) ∧ Go M F (vs.map some) (ps.map some) M' F' (maskP vs e') (ps.map some) ∧ ∀ a, Own (maskP vs e') (ps.map some) a → Own e' s' a := by
  obtain ⟨R0, hO, sg⟩ := R.start (N := N)
  have hl : vs.length = ps.length := by have := R.len; simpa using this
  have pn : ∀ (i : Nat) (b : Bool) (xs : List PV), vs[i]? = some (.ow b xs) → (∃ ys, e'[i]? = some (some (.ow true ys))) ∧ s'[i]? = (ps.map some)[i]? := fun i b xs h => by
    have := all_pin hp h
    subst this
    have h1 : (vs.map some ++ List.replicate (N - vs.length) none : VEnv)[i]? = some (some (.ow true xs)) := by
      rw [List.getElem?_append_left (by simpa using (List.getElem?_eq_some_iff.mp h).1)]
      exact map_get.mpr h
    obtain ⟨h2, h3⟩ := G.pin i xs h1
    exact ⟨h2, h3.trans (sg i _ h)⟩
  have ow1 : ∀ j a, OwAt (maskP vs e') (ps.map some) j a → OwAt e' s' j a := fun j a ⟨⟨b, xs, h1⟩, h2⟩ => by
    obtain ⟨c, zs, ys, h3, h4, h5⟩ := mask_get h1
    exact ⟨⟨true, ys, h4⟩, by rw [(pn j c zs h3).2]; exact h2⟩
  refine ⟨⟨by rw [mask_len, List.length_map, hl], fun i v h => ?_, fun i b xs h => ?_, fun i j a h1 h2 => R'.sep i j a (ow1 i a h1) (ow1 j a h2), R'.nr, R'.fr⟩, ⟨⟨fun b o m n => G.tr.keep b o m fun z => n ((hO b).mp z), G.tr.there, G.tr.fsub, fun b z => ?_, fun b ⟨j, z⟩ => ?_⟩, fun i xs h => ⟨?_, rfl⟩⟩, fun a ⟨j, z⟩ => ⟨j, ow1 j a z⟩⟩
  · obtain ⟨c, zs, ys, h3, h4, h5⟩ := mask_get h
    cases h5
  · obtain ⟨c, zs, ys, h3, h4, h5⟩ := mask_get h
    cases h5
    obtain ⟨a, qs, h6, h7⟩ := R'.ow i _ _ h4
    exact ⟨a, qs, by rw [← (pn i c zs h3).2]; exact h6, h7⟩
  · rcases G.tr.fnew b z with z | z | z
    · exact .inl z
    · exact .inr (.inl ((hO b).mp z))
    · exact .inr (.inr z)
  · exact (G.tr.onew b ⟨j, ow1 j b z⟩).elim (fun z => .inl ((hO b).mp z)) .inr
  · have h3 := map_get.mp h
    obtain ⟨⟨ys, h4⟩, _⟩ := pn i _ _ h3
    exact ⟨ys, mask_put h3 h4⟩
theorem spec_V {N n : Nat} {b : VEnv → Fl} {args : List PV} {M : PH} {Q : QE} {E : PX1} (hn : args.length = n) (h : pV cm n (fDef N b) args M Q E) : wS cm b (EDef E) (DDef Q) (startP N args) M := by
  obtain ⟨_, vs, F, hv, R, hp, h⟩ := h
  obtain ⟨R0, hO, sg⟩ := R.start (N := N)
  refine ⟨_, F, R0, ?_⟩
  unfold fDef at h
  -- what is handed back
  have fin : ∀ (r : SV) (e' : VEnv), (if (noOw vs && purR r) = true then ∀ v, r = .sh v → Q v M else ∀ p M' F', RS M' F' (maskP vs e') (args.map some) → Go M F (vs.map some) (args.map some) M' F' (maskP vs e') (args.map some) → RR M A0 M' F' (Own (maskP vs e') (args.map some)) r p → Q p M') →
      ∀ p s' M' F', RS M' F' e' s' → Go M F (vs.map some ++ List.replicate (N - vs.length) none) (startP N args) M' F' e' s' → RR M (Own (vs.map some ++ List.replicate (N - vs.length) none) (startP N args)) M' F' (Own e' s') r p → ∃ M'', PLe M'' M' ∧ Q p M'' := fun r e' h p s' M' F' R' G rr => by
    obtain ⟨R2, G2, hO2⟩ := R.stop hp R' G
    split at h
    · rename_i z
      rw [Bool.and_eq_true] at z
      cases r with
      | ow c xs => cases z.2
      | sh v =>
        refine ⟨M, fun a o m => G2.tr.keep a o m fun y => no_own z.1 y, ?_⟩
        have : p = v := repF_pur z.2 rr
        rw [this]
        exact h v rfl
    · refine ⟨M', .refl _, h p M' F' R2 G2 ?_⟩
      cases r with
      | sh v => exact rr
      | ow c xs =>
        obtain ⟨a, qs, h1, h2, h3, h4, h5, h6⟩ := rr
        refine ⟨a, qs, h1, h2, h3, h4, fun z => h5 (hO2 a z), .inr (h6.resolve_left fun z => ?_)⟩
        obtain ⟨j, ⟨c2, zs, z1⟩, z2⟩ := (hO a).mp z
        have z3 := map_get.mp z1
        have := all_pin hp z3
        subst this
        have z4 : (vs.map some ++ List.replicate (N - vs.length) none : VEnv)[j]? = some (some (.ow true zs)) := by
          rw [List.getElem?_append_left (by simpa using (List.getElem?_eq_some_iff.mp z3).1)]
          exact z1
        obtain ⟨⟨ys, h7⟩, h8⟩ := G.pin j zs z4
        exact h5 ⟨j, ⟨true, ys, h7⟩, by rw [h8, sg j _ z3]; exact z2⟩
  cases q : b (vs.map some ++ List.replicate (N - vs.length) none) with
  | nx e' =>
    rw [q] at h
    exact fun s' M' F' R' G => fin (.sh .non) e' h .non s' M' F' R' G (by rw [RR, RV])
  | rt r e' =>
    rw [q] at h
    exact fun p s' M' F' R' G rr => fin r e' h p s' M' F' R' G rr
  | ex c fs e' =>
    rw [q] at h
    intro qs s' M' F' R' G rr
    obtain ⟨R2, G2, hO2⟩ := R.stop hp R' G
    exact h qs M' F' R2 G2 rr
  | bk e' => rw [q] at h; exact h.elim
  | ct e' => rw [q] at h; exact h.elim
  | no => rw [q] at h; exact h.elim

/-! ## the call -/
def als : List TV → List Nat
  | [] => []
  | .sh _ :: ts => als ts
  | .al i :: ts => i :: als ts
def svs (e : VEnv) : List TV → Option (List SV)
  | [] => some []
  | .sh v :: ts => (match svs e ts with
    | some vs => some (.sh v :: vs)
    | none => none)
  | .al i :: ts => (match owAt e i, svs e ts with
    | some (_, xs), some vs => some (.ow true xs :: vs)
    | _, _ => none)
def owOf : Option SV → Option (List PV)
  | some (.ow _ ys) => some ys
  | _ => none
theorem owOf_eq {u : Option SV} {ys : List PV} (h : owOf u = some ys) : ∃ c, u = some (.ow c ys) := by
  unfold owOf at h
  split at h
  · cases h; exact ⟨_, rfl⟩
  · cases h
def back : VEnv → List TV → VEnv → Option VEnv
  | e, [], _ => some e
  | e, .sh _ :: ts, _ :: us => back e ts us
  | _, .sh _ :: _, [] => none
  | e, .al i :: ts, u :: us => (match owOf u, owAt e i with
    | some ys, some (b, _) => back (e.set i (some (.ow b ys))) ts us
    | _, _ => none)
  | _, .al _ :: _, [] => none
def callR (f : List SV → RsC) (ts : List TV) (e1 : VEnv) : Rs SV := if (als ts).Nodup then (match svs e1 ts with
  | some vs => (match f vs with
    | .ok r e2 => (match back e1 ts e2 with
      | some e3 => .ok r e3
      | none => .no)
    | .ex c fs e2 => (match back e1 ts e2 with
      | some e3 => .ex c fs e3
      | none => .no)
    | .no => .no)
  | none => .no) else .no
theorem als_mem {i : Nat} : ∀ {ts : List TV} {k : Nat}, ts[k]? = some (.al i) → i ∈ als ts
  | [], _, h => by simp at h
  | .sh v :: ts, k, h => by
    cases k with
    | zero => simp at h
    | succ k => exact als_mem (ts := ts) (k := k) (by simpa using h)
  | .al j :: ts, k, h => by
    cases k with
    | zero => simp at h; subst h; exact List.mem_cons_self
    | succ k => exact List.mem_cons_of_mem _ (als_mem (ts := ts) (k := k) (by simpa using h))
theorem als_inj {i : Nat} : ∀ {ts : List TV} {k l : Nat}, (als ts).Nodup → ts[k]? = some (.al i) → ts[l]? = some (.al i) → k = l
  | [], _, _, _, h, _ => by simp at h
  | .sh v :: ts, k, l, n, h, g => by
    cases k with
    | zero => simp at h
    | succ k => cases l with
      | zero => simp at g
      | succ l => rw [als_inj (ts := ts) (k := k) (l := l) n (by simpa using h) (by simpa using g)]
  | .al j :: ts, k, l, n, h, g => by
    rw [als, List.nodup_cons] at n
    cases k with
    | zero => cases l with
      | zero => rfl
      | succ l => simp at h; subst h; exact (n.1 (als_mem (k := l) (by simpa using g))).elim
    | succ k => cases l with
      | zero => simp at g; subst g; exact (n.1 (als_mem (k := k) (by simpa using h))).elim
      | succ l => rw [als_inj (ts := ts) (k := k) (l := l) n.2 (by simpa using h) (by simpa using g)]
theorem svs_get {e : VEnv} : ∀ {ts : List TV} {vs : List SV}, svs e ts = some vs → vs.length = ts.length ∧ vs.all isPin = true ∧ ∀ (k : Nat) (u : SV), vs[k]? = some u → (∃ v, ts[k]? = some (.sh v) ∧ u = .sh v) ∨ ∃ i b xs, ts[k]? = some (.al i) ∧ e[i]? = some (some (.ow b xs)) ∧ u = .ow true xs
  | [], vs, h => by cases h; exact ⟨rfl, rfl, fun k u h => by simp at h⟩
  | .sh v :: ts, vs, h => by
    unfold svs at h
    split at h
    · rename_i ws hw
      cases h
      obtain ⟨h1, h2, h3⟩ := svs_get hw
      refine ⟨by simp [h1], by rw [List.all_cons, h2]; rfl, fun k u h => ?_⟩
      cases k with
      | zero => simp at h; exact .inl ⟨v, rfl, h.symm⟩
      | succ k => exact h3 k u (by simpa using h)
    · cases h
  | .al i :: ts, vs, h => by
    unfold svs at h
    split at h
    · rename_i b xs ws hi hw
      cases h
      obtain ⟨h1, h2, h3⟩ := svs_get hw
      refine ⟨by simp [h1], by rw [List.all_cons, h2]; rfl, fun k u h => ?_⟩
      cases k with
      | zero => simp at h; exact .inr ⟨i, b, xs, rfl, owAt_eq hi, h.symm⟩
      | succ k => exact h3 k u (by simpa using h)
    · cases h
theorem back_out {i : Nat} : ∀ {ts : List TV} {e e' us : VEnv}, back e ts us = some e' → i ∉ als ts → e'[i]? = e[i]?
  | [], e, e', us, h, _ => by rw [back] at h; cases h; rfl
  | .sh v :: ts, e, e', [], h, _ => by cases h
  | .sh v :: ts, e, e', u :: us, h, n => by rw [back] at h; exact back_out h n
  | .al j :: ts, e, e', [], h, _ => by cases h
  | .al j :: ts, e, e', u :: us, h, n => by
    rw [als, List.mem_cons, not_or] at n
    rw [back] at h
    split at h
    · rw [back_out h n.2, List.getElem?_set_ne (Ne.symm n.1)]
    · cases h
theorem back_in {i : Nat} : ∀ {ts : List TV} {e e' us : VEnv} {k : Nat}, back e ts us = some e' → (als ts).Nodup → ts[k]? = some (.al i) → ∃ b xs ys c, e[i]? = some (some (.ow b xs)) ∧ us[k]? = some (some (.ow c ys)) ∧ e'[i]? = some (some (.ow b ys))
  | [], e, e', us, k, h, _, g => by simp at g
  | .sh v :: ts, e, e', [], k, h, _, _ => by cases h
  | .sh v :: ts, e, e', u :: us, k, h, n, g => by
    rw [back] at h
    cases k with
    | zero => simp at g
    | succ k => simpa using back_in (k := k) h n (by simpa using g)
  | .al j :: ts, e, e', [], k, h, _, _ => by cases h
  | .al j :: ts, e, e', u :: us, k, h, n, g => by
    rw [als, List.nodup_cons] at n
    rw [back] at h
    split at h
    · rename_i ys b xs hu hb
      obtain ⟨c, rfl⟩ := owOf_eq hu
      have hb := owAt_eq hb
      have hj : j < e.length := (List.getElem?_eq_some_iff.mp hb).1
      cases k with
      | zero =>
        simp at g
        subst g
        refine ⟨b, xs, ys, c, hb, rfl, ?_⟩
        rw [back_out h n.1, List.getElem?_set_self hj]
      | succ k =>
        obtain ⟨b2, zs, ws, c2, h1, h2, h3⟩ := back_in h n.2 (k := k) (by simpa using g)
        have ne : j ≠ i := fun z => by
          subst z
          exact n.1 (als_mem (k := k) (by simpa using g))
        rw [List.getElem?_set_ne ne] at h1
        exact ⟨b2, zs, ws, c2, h1, by simpa using h2, h3⟩
    · cases h
theorem back_len : ∀ {ts : List TV} {e e' us : VEnv}, back e ts us = some e' → e'.length = e.length
  | [], e, e', us, h => by rw [back] at h; cases h; rfl
  | .sh v :: ts, e, e', [], h => by cases h
  | .sh v :: ts, e, e', u :: us, h => by rw [back] at h; exact back_len h
  | .al j :: ts, e, e', [], h => by cases h
  | .al j :: ts, e, e', u :: us, h => by
    rw [back] at h
    split at h
    · rw [back_len h, List.length_set]
    · cases h
theorem rts_get {M : PH} {F : ASet} {s : PSt} : ∀ {ts : List TV} {ps : List PV} {k : Nat} {t : TV}, RTs M F s ts ps → ts[k]? = some t → ∃ p, ps[k]? = some p ∧ RT M F s t p
  | [], _, _, _, _, h => by simp at h
  | t :: ts, _, k, u, ⟨p, r, rfl, h1, h2⟩, h => by
    cases k with
    | zero => simp at h; subst h; exact ⟨p, rfl, h1⟩
    | succ k =>
      obtain ⟨q, a, b⟩ := rts_get h2 (k := k) (t := u) (by simpa using h)
      exact ⟨q, by simpa using a, b⟩
theorem rts_len {M : PH} {F : ASet} {s : PSt} : ∀ {ts : List TV} {ps : List PV}, RTs M F s ts ps → ts.length = ps.length
  | [], _, h => by cases h; rfl
  | t :: ts, _, ⟨p, r, rfl, h1, h2⟩ => by simp [rts_len h2]
theorem back_sh : ∀ {ts : List TV} {e e' us : VEnv}, back e ts us = some e' → als ts = [] → e' = e
  | [], e, e', us, h, _ => by rw [back] at h; cases h; rfl
  | .sh v :: ts, e, e', [], h, _ => by cases h
  | .sh v :: ts, e, e', u :: us, h, n => by rw [back] at h; exact back_sh h n
  | .al j :: ts, e, e', us, h, n => by cases n
theorem svs_noow {e : VEnv} : ∀ {ts : List TV} {vs : List SV}, svs e ts = some vs → noOw vs = true → als ts = []
  | [], vs, h, _ => rfl
  | .sh v :: ts, vs, h, n => by
    unfold svs at h
    split at h
    · rename_i ws hw
      cases h
      exact svs_noow (ts := ts) hw (by unfold noOw at n ⊢; rw [List.all_cons] at n; exact (Bool.and_eq_true _ _ ▸ n).2)
    · cases h
  | .al i :: ts, vs, h, n => by
    unfold svs at h
    split at h
    · cases h
      unfold noOw at n
      rw [List.all_cons] at n
      cases n
    · cases h
theorem call_core {n : Nat} {f : List SV → RsC} {EP : PX} {s : PSt} {M1 : PH} {F1 : ASet} {e1 : VEnv} {ts : List TV} {ps : List PV} {K : SV → VEnv → PH → ASet → Prop} (R1 : RS M1 F1 e1 s) (hts : RTs M1 F1 s ts ps) (hn : ps.length = n)
    (h : OkE cm EP s M1 F1 e1 (callR f ts e1) K) : pV cm n f ps M1 (fun p M' => ∃ r e' F', RS M' F' e' s ∧ Go M1 F1 e1 s M' F' e' s ∧ RR M1 A0 M' F' (Own e' s) r p ∧ K r e' M' F') fun C fs M' => EP C fs s M' := by
  unfold callR at h
  split at h
  case isFalse => exact h.elim
  rename_i nd
  cases q : svs e1 ts with
  | none => rw [q] at h; exact h.elim
  | some vs =>
    rw [q] at h
    obtain ⟨hl, hpin, hg⟩ := svs_get q
    have hlen : ps.length = ts.length := (rts_len hts).symm
    have pget : ∀ (k : Nat) (p : PV), (ps.map some)[k]? = some (some p) ↔ ps[k]? = some p := fun k p => by
      rw [List.getElem?_map]
      constructor
      · intro h; obtain ⟨v, e, z⟩ := Option.map_eq_some_iff.mp h; cases z; exact e
      · intro h; rw [h]; rfl
    -- where the callee owns something, the caller does
    have ow1 : ∀ (k : Nat) (a : Addr), OwAt (vs.map some) (ps.map some) k a → ∃ i, ts[k]? = some (TV.al i) ∧ OwAt e1 s i a := fun k a ⟨⟨b, xs, h1⟩, h2⟩ => by
      rcases hg k _ (map_get.mp h1) with ⟨v, _, z⟩ | ⟨i, b2, ys, h3, h4, h5⟩
      · cases z
      · obtain ⟨p, h6, a', rfl, h7⟩ := rts_get hts h3
        have := (pget k _).mp h2
        rw [h6] at this; cases this
        exact ⟨i, h3, ⟨b2, ys, h4⟩, h7⟩
    have Ra : RS M1 F1 (vs.map some) (ps.map some) := by
      refine ⟨by simp [hl, hlen], fun k v h1 => ?_, fun k b xs h1 => ?_, fun k l a h1 h2 => ?_, R1.nr, R1.fr⟩
      · rcases hg k _ (map_get.mp h1) with ⟨v', h2, z⟩ | ⟨i, b2, ys, h3, h4, h5⟩
        · cases z
          obtain ⟨p, h3, h4⟩ := rts_get hts h2
          exact ⟨p, (pget k p).mpr h3, h4⟩
        · cases h5
      · rcases hg k _ (map_get.mp h1) with ⟨v', h2, z⟩ | ⟨i, b2, ys, h3, h4, h5⟩
        · cases z
        · cases h5
          obtain ⟨p, h6, a, rfl, h7⟩ := rts_get hts h3
          obtain ⟨a', qs, h8, h9⟩ := R1.ow i b2 _ h4
          rw [h7] at h8; cases h8
          exact ⟨a, qs, (pget k _).mpr h6, h9⟩
      · obtain ⟨i, h3, h4⟩ := ow1 k a h1
        obtain ⟨j, h5, h6⟩ := ow1 l a h2
        have := R1.sep i j a h4 h6
        subst this
        exact als_inj nd h3 h5
    refine ⟨hn, vs, F1, by rw [hl, ← hlen]; exact hn, Ra, hpin, ?_⟩
    -- from the callee's end to the caller's
    have up : ∀ e2 e3, back e1 ts e2 = some e3 → ∀ M' F', RS M' F' e2 (ps.map some) → Go M1 F1 (vs.map some) (ps.map some) M' F' e2 (ps.map some) → RS M' F' e3 s ∧ Go M1 F1 e1 s M' F' e3 s ∧ ∀ a, Own e3 s a ↔ Own e1 s a := fun e2 e3 hb M' F' R2 G2 => by
      have kF : ∀ b o, F1 b → M1 b = some o → M' b = some o := G2.keepF Ra
      -- the caller's own things
      have cases_ow : ∀ (j : Nat) (b : Bool) (xs : List PV), e3[j]? = some (some (SV.ow b xs)) → (∃ (k : Nat) (ys : List PV) (c : Bool), ts[k]? = some (TV.al j) ∧ e1[j]? = some (some (SV.ow b ys)) ∧ e2[k]? = some (some (SV.ow c xs))) ∨ (j ∉ als ts ∧ e1[j]? = some (some (SV.ow b xs))) := fun j b xs h1 => by
        by_cases hj : j ∈ als ts
        · obtain ⟨k, hk⟩ : ∃ k : Nat, ts[k]? = some (TV.al j) := mem_als hj
          obtain ⟨b2, zs, ys, c, h2, h3, h4⟩ := back_in hb nd hk
          rw [h1] at h4; cases h4
          exact .inl ⟨k, zs, c, hk, h2, h3⟩
        · rw [back_out hb hj] at h1
          exact .inr ⟨hj, h1⟩
      have own_out : ∀ (j : Nat) (b : Bool) (xs : List PV) (a : Addr), j ∉ als ts → e1[j]? = some (some (SV.ow b xs)) → s[j]? = some (some (.ref a)) → ¬ Own (vs.map some) (ps.map some) a ∧ M1 a ≠ none := fun j b xs a hj h1 h2 => by
        refine ⟨fun ⟨k, z⟩ => ?_, R1.own_some ⟨j, ⟨b, xs, h1⟩, h2⟩⟩
        obtain ⟨i, h3, h4⟩ := ow1 k a z
        have := R1.sep i j a h4 ⟨⟨b, xs, h1⟩, h2⟩
        subst this
        exact hj (als_mem h3)
      have owi : ∀ j a, OwAt e3 s j a ↔ OwAt e1 s j a := fun j a => by
        constructor
        · rintro ⟨⟨b, xs, h1⟩, h2⟩
          rcases cases_ow j b xs h1 with ⟨k, ys, c, _, h3, _⟩ | ⟨_, h3⟩
          · exact ⟨⟨b, ys, h3⟩, h2⟩
          · exact ⟨⟨b, xs, h3⟩, h2⟩
        · rintro ⟨⟨b, xs, h1⟩, h2⟩
          by_cases hj : j ∈ als ts
          · obtain ⟨k, hk⟩ : ∃ k : Nat, ts[k]? = some (TV.al j) := mem_als hj
            obtain ⟨b2, zs, ys, c, h3, h4, h5⟩ := back_in hb nd hk
            exact ⟨⟨b2, ys, h5⟩, h2⟩
          · exact ⟨⟨b, xs, by rw [back_out hb hj]; exact h1⟩, h2⟩
      refine ⟨⟨by rw [back_len hb, R1.len], fun j v h1 => ?_, fun j b xs h1 => ?_, fun i j a h1 h2 => R1.sep i j a ((owi i a).mp h1) ((owi j a).mp h2), R2.nr, R2.fr⟩, ⟨⟨fun b o m no => G2.tr.keep b o m fun ⟨k, z⟩ => ?_, G2.tr.there, G2.tr.fsub, fun b z => ?_, fun b ⟨j, z⟩ => .inl ⟨j, (owi j b).mp z⟩⟩, fun j xs h1 => ⟨?_, rfl⟩⟩, fun a => ⟨fun ⟨j, z⟩ => ⟨j, (owi j a).mp z⟩, fun ⟨j, z⟩ => ⟨j, (owi j a).mpr z⟩⟩⟩
      · have hj : j ∉ als ts := fun hj => by
          obtain ⟨k, hk⟩ : ∃ k : Nat, ts[k]? = some (TV.al j) := mem_als hj
          obtain ⟨b2, zs, ys, c, h3, h4, h5⟩ := back_in hb nd hk
          rw [h1] at h5; cases h5
        rw [back_out hb hj] at h1
        obtain ⟨p, h2, h3⟩ := R1.sh j v h1
        exact ⟨p, h2, h3.on kF G2.tr.fsub⟩
      · rcases cases_ow j b xs h1 with ⟨k, ys, c, hk, h3, h4⟩ | ⟨hj, h3⟩
        · obtain ⟨p, h6, a, rfl, h7⟩ := rts_get hts hk
          obtain ⟨a', qs, h8, h9⟩ := R2.ow k c xs h4
          have := (pget k _).mp h8
          rw [h6] at this; cases this
          exact ⟨a, qs, h7, h9⟩
        · obtain ⟨a, qs, h4, h5, h6, h7⟩ := R1.ow j b xs h3
          obtain ⟨n1, n2⟩ := own_out j b xs a hj h3 h4
          refine ⟨a, qs, h4, G2.tr.keep a _ h5 n1, h6.on kF G2.tr.fsub, fun z => ?_⟩
          rcases G2.tr.fnew a z with z | z | z
          · exact h7 z
          · exact n1 z
          · exact n2 z
      · obtain ⟨i, _, h4⟩ := ow1 k b z
        exact no ⟨i, h4⟩
      · rcases G2.tr.fnew b z with z | ⟨k, z⟩ | z
        · exact .inl z
        · obtain ⟨i, _, h4⟩ := ow1 k b z
          exact .inr (.inl ⟨i, h4⟩)
        · exact .inr (.inr z)
      · by_cases hj : j ∈ als ts
        · obtain ⟨k, hk⟩ : ∃ k : Nat, ts[k]? = some (TV.al j) := mem_als hj
          obtain ⟨b2, zs, ys, c, h3, h4, h5⟩ := back_in hb nd hk
          rw [h1] at h3; cases h3
          exact ⟨ys, h5⟩
        · exact ⟨xs, by rw [back_out hb hj]; exact h1⟩
    dsimp only at h
    cases q2 : f vs with
    | no => rw [q2] at h; exact h.elim
    | ok r e2 =>
      rw [q2] at h
      dsimp only at h
      cases q3 : back e1 ts e2 with
      | none => rw [q3] at h; exact h.elim
      | some e3 =>
        rw [q3] at h
        dsimp only
        split
        · rename_i z
          rw [Bool.and_eq_true] at z
          intro v hv
          have ha := svs_noow q z.1
          have := back_sh q3 ha
          subst this
          refine ⟨r, _, F1, R1, .refl _ _ _ _, ?_, h M1 F1 R1 (.refl _ _ _ _)⟩
          subst hv
          exact repF_self z.2
        · intro p M' F' R2 G2 rr
          obtain ⟨R3, G3, hO⟩ := up e2 e3 q3 M' F' R2 G2
          refine ⟨r, e3, F', R3, G3, ?_, h M' F' R3 G3⟩
          cases r with
          | sh v => exact rr
          | ow c xs =>
            obtain ⟨a, qs, h1, h2, h3, h4, h5, h6⟩ := rr
            refine ⟨a, qs, h1, h2, h3, h4, fun z => ?_, h6⟩
            have := R1.own_some ((hO a).mp z)
            exact h6.elim id fun n => (this n).elim
    | ex c fs e2 =>
      rw [q2] at h
      dsimp only at h
      cases q3 : back e1 ts e2 with
      | none => rw [q3] at h; exact h.elim
      | some e3 =>
        rw [q3] at h
        intro qs M' F' R2 G2 rr
        obtain ⟨R3, G3, hO⟩ := up e2 e3 q3 M' F' R2 G2
        exact h qs M' F' R3 G3 rr
where
  mem_als {j : Nat} : ∀ {ts : List TV}, j ∈ als ts → ∃ k : Nat, ts[k]? = some (TV.al j)
    | [], h => by cases h
    | .sh v :: ts, h => by
      obtain ⟨k, hk⟩ := mem_als (ts := ts) h
      exact ⟨k + 1, by simpa using hk⟩
    | .al i :: ts, h => by
      rcases List.mem_cons.mp h with rfl | h
      · exact ⟨0, rfl⟩
      · obtain ⟨k, hk⟩ := mem_als (ts := ts) h
        exact ⟨k + 1, by simpa using hk⟩
end
end PL
set_option autoImplicit false
namespace PL
open PySem PySem.Spec L2
open PyProof.Rows hiding St

/-! ## calls as expressions -/
def svl : SV → PV
  | .sh v => v
  | .ow _ xs => PV.lst xs
section
variable (cm : Nat → Addr)
def wV (f : VEnv → Rs SV) : WE := fun EP s M Q => ∃ e F, RS M F e s ∧ OkE cm EP s M F e (f e) fun r e' M' F' => ∀ p, RR M A0 M' F' (Own e' s) r p → Q p M'
variable {cm}
theorem wV_mono {f : VEnv → Rs SV} : MonoE (wV cm f) := fun EP s M Q Q' k ⟨e, F, R, h⟩ => ⟨e, F, R, h.mono fun _ _ _ _ _ _ z p hp => k _ _ (z p hp)⟩
section
variable {M M' M1 : PH} {F F' F1 : ASet} {e e' e1 : VEnv} {s : PSt}
theorem RR.back {O' : ASet} {r : SV} {p : PV} (G : Go M F e s M1 F1 e1 s) (h : RR M1 A0 M' F' O' r p) : RR M A0 M' F' O' r p := by
  cases r with
  | sh v => exact h
  | ow b xs =>
    obtain ⟨a, ps, h1, h2, h3, h4, h5, h6⟩ := h
    exact ⟨a, ps, h1, h2, h3, h4, h5, .inr (none_back G.tr.there (h6.resolve_left id))⟩
/-- what came new stays as it is -/
theorem RS.addF (R : RS M' F' e' s) (G : Go M F e s M' F' e' s) {r : SV} {p : PV} (h : RR M A0 M' F' (Own e' s) r p) : ∃ F2, RS M' F2 e' s ∧ Go M F e s M' F2 e' s ∧ RV M' F2 (svl r) p := by
  cases r with
  | sh v => exact ⟨F', R, G, h⟩
  | ow b xs =>
    obtain ⟨a, ps, rfl, h2, h3, h4, h5, h6⟩ := h
    have n := h6.resolve_left id
    refine ⟨fun c => F' c ∨ c = a, ⟨R.len, fun i v z => ?_, fun i b ys z => ?_, R.sep, R.nr, fun c fc => ?_⟩, ⟨⟨G.tr.keep, G.tr.there, fun c z => .inl (G.tr.fsub c z), fun c z => ?_, G.tr.onew⟩, G.pin⟩, ?_⟩
    · obtain ⟨q, z1, z2⟩ := R.sh i v z
      exact ⟨q, z1, z2.on (fun _ _ _ m => m) fun _ h => .inl h⟩
    · obtain ⟨c, us, z1, z2, z3, z4⟩ := R.ow i b ys z
      refine ⟨c, us, z1, z2, z3.on (fun _ _ _ m => m) fun _ h => .inl h, fun q => ?_⟩
      rcases q with q | q
      · exact z4 q
      · exact h5 ⟨i, ⟨b, ys, z⟩, by rw [← q]; exact z1⟩
    · rcases fc with fc | fc
      · exact R.fr c fc
      · rw [fc, h2]; exact fun z => (by cases z)
    · rcases z with z | z
      · exact G.tr.fnew c z
      · rw [z]; exact .inr (.inr n)
    · unfold svl PV.lst
      rw [RV]
      exact ⟨a, ps, rfl, .inr rfl, h2, h3.on (fun _ _ _ m => m) fun _ h => .inl h⟩
end
section
variable {X : Cx} {W : WX} {pos : Pos} {x : Expr} {f : VEnv → Rs SV}
theorem vc_of {w : WE} (h : EE X W x w) (k : ∀ EP s M Q, wV cm f EP s M Q → w EP s M Q) : EE X W x (wV cm f) :=
  ⟨wV_mono, pe_weak h.run fun σ H Q ⟨EP, s, M, c, q⟩ => ⟨EP, s, M, c, k _ _ _ _ q⟩⟩
def fSh (f : VEnv → Rs SV) : VEnv → Rs TV := fun e => (f e).bind fun r e1 => .ok (.sh (svl r)) e1
theorem ve_c_of (h : EE X W x (wV cm f)) : EE X W x (wE cm (fSh f)) := by
  refine ve_of h ?_
  rintro EP s M Q ⟨e, F, R, h⟩
  refine ⟨e, F, R, ?_⟩
  unfold fSh at h
  cases q : f e with
  | ok r e1 =>
    rw [q] at h
    intro M1 F1 R1 G1 p hp
    obtain ⟨F2, R2, G2, rv⟩ := R1.addF G1 hp
    exact h M1 F2 R2 G2 p rv
  | ex c fs e1 => rw [q] at h; exact h
  | no => rw [q] at h; exact h
/-- x = f(..) -/
def mine : SV → SV
  | .sh v => .sh v
  | .ow _ xs => .ow false xs
def sSetC (i : Nat) (f : VEnv → Rs SV) : VEnv → Fl := fun e => (f e).toS fun r e1 => if free e1 i = true then .nx (e1.set i (some (mine r))) else .no
theorem vs_setC {i : Nat} {y : Str} {pos' : Pos} (hN : X.N.Nodup) (he : EE X W x (wV cm f)) (hi : X.N[i]? = some y := by rfl) (hx : Loc X.env.scope y := by first | exact .inl rfl | exact .inr rfl) (hs : swapsWith x (some (.Name y pos')) pos.line X.env = pure false := by rfl) (hf : X.fn y = true ∨ X.env.scope.names.lookup y = some .local := by first | exact .inl rfl | exact .inr rfl | assumption) : ES X W (.Assign [.Name y pos'] x pos) (wS cm (sSetC i f)) := by
  refine vs_of (es_set hN he hi hx hs hf) ?_
  rintro EP D s M ⟨e, F, R, h⟩
  refine wSet_i ⟨e, F, R, ?_⟩
  unfold sSetC at h
  cases q : f e with
  | ok r e1 =>
    rw [q] at h
    intro M1 F1 R1 G1 p hp
    have h : OkS cm EP D s M F e (if free e1 i = true then Fl.nx (e1.set i (some (mine r))) else .no) := h
    split at h
    · rename_i fr
      cases r with
      | sh v =>
        obtain ⟨R2, G2⟩ := R1.setSh fr hp
        exact h _ M1 F1 R2 (G1.trans G2)
      | ow b xs =>
        obtain ⟨a, ps, rfl, h2, h3, h4, h5, h6⟩ := hp
        have n := h6.resolve_left id
        refine h _ M1 F1 (R1.setOw fr h2 h3 h4 h5) ⟨⟨G1.tr.keep, G1.tr.there, G1.tr.fsub, G1.tr.fnew, fun c z => ?_⟩, fun j ys z => ?_⟩
        · rcases set_own z with ⟨_, z⟩ | ⟨j, _, z⟩
          · cases z; exact .inr n
          · exact G1.tr.onew c ⟨j, z⟩
        · obtain ⟨⟨zs, z1⟩, z2⟩ := G1.pin j ys z
          obtain ⟨z3, z4⟩ := pin_set (s := s) (u := some (.ow false xs)) (p := some (.ref a)) fr j zs z1
          exact ⟨z3, z4⟩
    · exact h.elim
  | ex c fs e1 => rw [q] at h; exact fun ps M' F' R' G' z => h ps s M' F' R' G' z
  | no => rw [q] at h; exact h.elim
/-- return f(..) -/
def sRetC (f : VEnv → Rs SV) : VEnv → Fl := fun e => (f e).toS fun r e1 => .rt r e1
theorem vs_retC (he : EE X W x (wV cm f)) : ES X W (.Return (some x) pos) (wS cm (sRetC f)) := by
  refine vs_of (es_ret he) ?_
  rintro EP D s M ⟨e, F, R, h⟩
  refine wRet_i ⟨e, F, R, ?_⟩
  unfold sRetC at h
  cases q : f e with
  | ok r e1 =>
    rw [q] at h
    intro M1 F1 R1 G1 p hp
    refine h p s M1 F1 R1 G1 ?_
    cases r with
    | sh v => exact hp
    | ow b xs =>
      obtain ⟨a, ps, h1, h2, h3, h4, h5, h6⟩ := hp
      exact ⟨a, ps, h1, h2, h3, h4, h5, .inr (h6.resolve_left id)⟩
  | ex c fs e1 => rw [q] at h; exact fun ps M' F' R' G' z => h ps s M' F' R' G' z
  | no => rw [q] at h; exact h.elim
end
/-! ### calls of defs -/
def fCall (n : Nat) (f : List SV → RsC) (fa : VEnv → Rs (List TV)) (dv : List PV) : VEnv → Rs SV := fun e => (fa e).bind fun ts e1 => if ts.length + dv.length = n then callR f (ts ++ dv.map .sh) e1 else .no
def fCallK (n m k : Nat) (f : List SV → RsC) (fa fk : VEnv → Rs (List TV)) : VEnv → Rs SV := fun e => (fa e).bind fun ts e1 => (fk e1).bind fun us e2 => if ts.length = n ∧ us.length = m ∧ n + m = k then callR f (ts ++ us) e2 else .no
def fCallS (k : Nat) (f : List SV → RsC) (fk : VEnv → Rs (List TV)) : VEnv → Rs SV := fun e => (fk e).bind fun us e2 => match us with
  | [a, b] => if k = 2 then callR f [b, a] e2 else .no
  | _ => .no
theorem rts_app {M : PH} {F : ASet} {s : PSt} : ∀ {ts us : List TV} {ps qs : List PV}, RTs M F s ts ps → RTs M F s us qs → RTs M F s (ts ++ us) (ps ++ qs)
  | [], us, _, qs, h, g => by cases h; exact g
  | t :: ts, us, _, qs, ⟨p, r, rfl, h1, h2⟩, g => ⟨p, r ++ qs, rfl, h1, rts_app h2 g⟩
theorem rts_dv {M : PH} {F : ASet} {s : PSt} : ∀ {dv : List PV}, purs dv = true → RTs M F s (dv.map .sh) dv
  | [], _ => rfl
  | v :: dv, h => by
    rw [purs, Bool.and_eq_true] at h
    exact ⟨v, dv, rfl, repF_self h.1, rts_dv h.2⟩
theorem call_use {n : Nat} {f : List SV → RsC} {EP : PX} {s : PSt} {M M1 : PH} {F F1 : ASet} {e e1 : VEnv} {ts : List TV} {ps : List PV} {Q : QE} (R1 : RS M1 F1 e1 s) (G : Go M F e s M1 F1 e1 s) (hts : RTs M1 F1 s ts ps) (hn : ps.length = n)
    (h : OkE cm EP s M1 F1 e1 (callR f ts e1) fun r e' M' F' => ∀ p, RR M A0 M' F' (Own e' s) r p → Q p M') : pV cm n f ps M1 Q fun C fs M' => EP C fs s M' :=
  pV_mono _ _ _ _ _ _ (fun p M' ⟨r, e', F', R', G', rr, k⟩ => k p (rr.back G)) (fun _ _ _ z => z) (call_core R1 hts hn h)
theorem v_call {n : Nat} {f : List SV → RsC} {fa : VEnv → Rs (List TV)} {dv : List PV} (hd : purs dv = true) : ∀ EP s M Q, wV cm (fCall n f fa dv) EP s M Q → wCall (pV cm n f) (wA cm fa) dv EP s M Q := by
  rintro EP s M Q ⟨e, F, R, h⟩
  refine wCall_i ⟨e, F, R, h.bind.mono fun ts e1 M1 F1 R1 G1 h1 ps hps => ?_⟩
  split at h1
  · rename_i hl
    exact call_use R1 G1 (rts_app hps (rts_dv hd)) (by rw [List.length_append, ← rts_len hps]; exact hl) h1
  · exact h1.elim
theorem v_callK {n m k : Nat} {f : List SV → RsC} {fa fk : VEnv → Rs (List TV)} : ∀ EP s M Q, wV cm (fCallK n m k f fa fk) EP s M Q → wCallK (pV cm k f) n m (wA cm fa) (wA cm fk) (fun us ws => us ++ ws) EP s M Q := by
  rintro EP s M Q ⟨e, F, R, h⟩
  refine wCallK_i ⟨e, F, R, h.bind.mono fun ts e1 M1 F1 R1 G1 h1 ps hps => ⟨e1, F1, R1, OkE.mono (OkE.bind h1) fun us e2 M2 F2 R2 G2 h2 qs hqs => ?_⟩⟩
  split at h2
  · rename_i hl
    exact ⟨by rw [← rts_len hps]; exact hl.1, by rw [← rts_len hqs]; exact hl.2.1, call_use R2 (G1.trans G2) (rts_app (RTs.go R1 G2 hps) hqs) (by rw [List.length_append, ← rts_len hps, ← rts_len hqs, hl.1, hl.2.1]; exact hl.2.2) h2⟩
  · exact h2.elim
theorem v_callS {k : Nat} {f : List SV → RsC} {fk : VEnv → Rs (List TV)} : ∀ EP s M Q, wV cm (fCallS k f fk) EP s M Q → wCallK (pV cm k f) 0 2 wNil (wA cm fk) (fun us ws => swap2 us ws) EP s M Q := by
  rintro EP s M Q ⟨e, F, R, h⟩
  refine wCallK_i (wNil_i ⟨e, F, R, h.bind.mono fun us e1 M1 F1 R1 G1 h1 ps hps => ?_⟩)
  split at h1
  · rename_i t0 t1
    split at h1
    · rename_i hk
      obtain ⟨p, r, rfl, hp, q, r2, rfl, hq, rfl⟩ := hps
      exact ⟨rfl, rfl, call_use (ts := [t1, t0]) (ps := [q, p]) R1 G1 ⟨q, [p], rfl, hq, p, [], rfl, hp, rfl⟩ hk.symm h1⟩
    · exact h1.elim
  · exact h1.elim
/-! ### a list of one's own that stays from now on -/
def fFrz (i : Nat) : VEnv → Rs TV := fun e => match e[i]? with
  | some (some (.ow false xs)) => .ok (.sh (PV.lst xs)) (e.set i (some (.sh (PV.lst xs))))
  | some (some (.sh v)) => .ok (.sh v) e
  | _ => .no
theorem v_frz {i : Nat} : ∀ EP s M Q, wE cm (fFrz i) EP s M Q → wVar i EP s M Q := by
  rintro EP s M Q ⟨e, F, R, h⟩
  unfold fFrz at h
  split at h
  · rename_i xs hi
    obtain ⟨a, ea, R1, G1, rv⟩ := R.frz hi
    exact wVar_i ea (h _ _ R1 G1 _ rv)
  · rename_i v hv
    obtain ⟨p, h1, h2⟩ := R.sh i v hv
    exact wVar_i h1 (h M F R (.refl _ _ _ _) p h2)
  · exact h.elim
/-! ### sorted(xs, key=f) -/
def keysOf (f : List SV → RsC) : List PV → Option (List PV)
  | [] => some []
  | x :: xs => match f [.sh x] with
    | .ok (.sh k) _ => if pur k = true then (match keysOf f xs with
      | some ks => some (k :: ks)
      | none => none) else none
    | _ => none
def seqOf : PV → Option (List PV)
  | .tup xs => some xs
  | .bx .lst xs => some xs
  | _ => none
open Classical in
noncomputable def lSrtK (f : List SV → RsC) (fe : VEnv → Rs TV) : VEnv → Rs (List PV) := fun e => (fe e).bind fun t e1 => .ofO (match view e1 t with
  | some v => (match seqOf v with
    | some xs => if purs xs = true then (match keysOf f xs with
      | some ks => if Keys ks then some (sortK xs ks) else none
      | none => none) else none
    | none => none)
  | none => none) e1
theorem keysOf_spec {f : List SV → RsC} : ∀ {xs ks : List PV}, keysOf f xs = some ks → ks.length = xs.length ∧ ∀ (i : Nat) (y key : PV), xs[i]? = some y → ks[i]? = some key → ∃ e, f [.sh y] = .ok (.sh key) e ∧ pur key = true
  | [], ks, h => by cases h; exact ⟨rfl, fun i y key h => by simp at h⟩
  | x :: xs, ks, h => by
    unfold keysOf at h
    split at h
    · rename_i k e he
      split at h
      · rename_i hk
        split at h
        · rename_i ks' hks
          cases h
          obtain ⟨h1, h2⟩ := keysOf_spec hks
          refine ⟨by simp [h1], fun i y key hy hkey => ?_⟩
          cases i with
          | zero => simp at hy hkey; subst hy hkey; exact ⟨e, he, hk⟩
          | succ i => exact h2 i y key (by simpa using hy) (by simpa using hkey)
        · cases h
      · cases h
    · cases h
theorem zip_mem {xs ks : List PV} : ∀ {y : PV × PV}, y ∈ xs.zip ks → y.1 ∈ xs := fun {y} h => (List.of_mem_zip h).1
theorem sortK_purs {xs ks : List PV} (h : purs xs = true) : purs (sortK xs ks) = true := purs_of_mem fun x hx => by
  unfold sortK at hx
  obtain ⟨y, hy, rfl⟩ := List.mem_map.mp hx
  have := (List.mergeSort_perm (xs.zip ks) (PySem.W.dataLe false fun p : PV × PV => dat p.2)).mem_iff.mp hy
  exact purs_mem h _ (zip_mem this)
theorem v_srtK {f : List SV → RsC} {fe : VEnv → Rs TV} : ∀ EP s M Q, wL cm (lSrtK f fe) EP s M Q → wSrtK (pV cm 1 f) (wE cm fe) EP s M Q := by
  rintro EP s M Q ⟨e, F, R, h⟩
  refine wSrtK_i ⟨e, F, R, h.bind.mono fun t e1 M1 F1 R1 G1 h1 p hp => ?_⟩
  obtain ⟨z, h4, h5⟩ := h1.ofO
  split at h4
  · rename_i v hv
    split at h4
    · rename_i xs hx
      split at h4
      · rename_i hpx
        split at h4
        · rename_i ks hks
          split at h4
          · rename_i hK
            cases h4
            have vv := view_rep R1 hp hv
            have hseq : seqAt M1 p = some xs := by
              unfold seqOf at hx
              split at hx
              · cases hx
                obtain ⟨ps, rfl, r⟩ := vv.tup
                rw [repFs_pur hpx r]; rfl
              · cases hx
                obtain ⟨a, ps, rfl, m, r⟩ := VV.lst vv
                unfold seqAt
                dsimp only
                rw [listAt_lst m, repFs_pur hpx r]
              · cases hx
            obtain ⟨k1, k2⟩ := keysOf_spec hks
            refine ⟨xs, ks, hseq, k1, hK, fun i y key hy hkey => ?_, h5 M1 F1 R1 (.refl _ _ _ _) _ (repFs_self (sortK_purs hpx))⟩
            obtain ⟨e9, k3, k4⟩ := k2 i y key hy hkey
            have py := purs_mem hpx y (List.mem_of_getElem? hy)
            refine ⟨rfl, [.sh y], F1, rfl, ⟨rfl, fun j u hu => ?_, fun j b zs hz => ?_, fun j l a h1 h2 => ?_, R1.nr, R1.fr⟩, rfl, ?_⟩
            · have hu := map_get.mp hu
              cases j with
              | zero => simp at hu; subst hu; exact ⟨y, rfl, repF_self py⟩
              | succ j => simp at hu
            · have hz := map_get.mp hz
              cases j with
              | zero => simp at hz
              | succ j => simp at hz
            · obtain ⟨⟨b, zs, hz⟩, _⟩ := h1
              have hz := map_get.mp hz
              cases j with
              | zero => simp at hz
              | succ j => simp at hz
            · rw [k3]
              dsimp only
              rw [if_pos (by unfold noOw isSh purR; simp [k4])]
              exact fun v hv => ⟨by cases hv; rfl, rfl⟩
          · cases h4
        · cases h4
      · cases h4
    · cases h4
  · cases h4
end
end PL
set_option autoImplicit false
namespace PL
open PySem PySem.Spec L2
open PyProof.Rows hiding St

/-! ## the law's feed, its end -/
def p_feed : PSp := pN 1 fun ps M Q _ => ∃ (a : Addr) (ns : List Int), ps = [.ref a] ∧ M a = some (.rol (ns.map PV.int)) ∧ ns.length ≤ 63 ∧ ∀ (M' : PH) (A C : Addr), NR M' → A ≠ C → M' A = some (.lst [.ref C, .int 0, .int 0, .int 0]) → M' C = some (.lst (ns.map PV.int)) → Q (.ref A) M'
theorem mono_feed : MonoP p_feed := pN_mono fun ps M Q Q' E E' k _ ⟨a, ns, h1, h2, h3, h4⟩ => ⟨a, ns, h1, h2, h3, fun M' A C a b c d => k _ _ (h4 M' A C a b c d)⟩
theorem len_feed : LenP p_feed 1 := pN_len
def w_feed : WS := wRet (wNew (wDisp (wCons (wSl (wVar 0) wNoP (wPt (wC (.int 63)))) (wCons (wC (.int 0)) (wCons (wC (.int 0)) (wCons (wC (.int 0)) wNil))))))
theorem pcut_to' {α : Type} (xs : List α) (h : xs.length ≤ 63) : pcut xs none (some 63) = xs := by
  have := pcut_to xs 63
  rw [List.take_of_length_le h] at this
  exact this
theorem spec_feed : ∀ (args : List PV) (M : PH) (Q : QE) (E : PX1), args.length = 1 → p_feed args M Q E → w_feed (EDef E) (DDef Q) (startP 1 args) M := by
  rintro args M Q E - ⟨-, s, ns, rfl, hs, hl, q⟩
  unfold w_feed
  refine wRet_i (wNew_i (wDisp_i (wCons_i (wSl_i (wVar_i (p := .ref s) rfl (wNoP_i (wPt_i (wC_i (qPt_i ?_)))))))))
  refine rSl_lst (xs := ns.map PV.int) (by unfold listAt; rw [hs]) fun D hD => ?_
  refine wCons_i (wC_i (wCons_i (wC_i (wCons_i (wC_i (wNil_i ?_))))))
  refine ⟨by rw [sizeLine_eq]; simp, fun A hA hA2 => ?_⟩
  have ne : D ≠ A := fun e => hA2 (e ▸ Wr.of pupd_same)
  rw [pcut_to' (ns.map PV.int) (by simpa using hl)]
  refine ⟨pupd (pupd (fun _ => none) D (.lst (ns.map PV.int))) A (.lst [.ref D, .int 0, .int 0, .int 0]), fun b o e => ?_, q _ A D ?_ (Ne.symm ne) pupd_same ?_⟩
  · by_cases h1 : b = A
    · subst h1; rw [pupd_same] at e ⊢; exact e
    · rw [pupd_ne h1] at e ⊢
      by_cases h2 : b = D
      · subst h2; rw [pupd_same] at e ⊢; exact e
      · rw [pupd_ne h2] at e; cases e
  · exact NR.upd (NR.upd fun _ _ e => by cases e)
  · rw [pupd_ne ne, pupd_same]
/-- how a law's draws begin -/
def feed0 (ns : List Int) : List PV := [PV.lst (ns.map PV.int), .int 0, .int 0, .int 0]
theorem law_V {cm : Nat → Addr} {N i : Nat} {B : Int → Prop} {fb : VEnv → Fl} (hi : i < N) (h : ∀ ns : List Int, ns.length ≤ 63 → (∀ z ∈ ns, B z) → ∃ e', fb ((List.replicate N none).set i (some (.ow false (feed0 ns)))) = .rt (.sh (.bl true)) e') :
    ∀ (args : List PV) (M : PH) (Q : QE) (E : PX1), args.length = 1 → LawP B args M Q E → wSeq (wSet i (wCall p_feed (wCons (wVar 0) wNil) [])) (wS cm fb) (EDef E) (DDef Q) (startP N args) M := by
  rintro args M Q E - ⟨a, ns, rfl, hs, _, hl, hb, q⟩
  have e0 : (startP N [PV.ref a])[0]? = some (some (.ref a)) := by unfold startP; rfl
  refine wSeq_i (wSet_i (wCall_i (wCons_i (wVar_i e0 (wNil_i ?_)))))
  refine ⟨rfl, a, ns, rfl, hs, hl, fun M' A C nr ne hA hC => ?_⟩
  obtain ⟨e', he⟩ := h ns hl hb
  have hlen : (startP N [PV.ref a]).length = N := by unfold startP; simp; omega
  have get : ∀ (j : Nat) (u : SV), ((List.replicate N none).set i (some (.ow false (feed0 ns))) : VEnv)[j]? = some (some u) → j = i ∧ u = .ow false (feed0 ns) := fun j u hj => by
    rcases set_get hj with ⟨rfl, z⟩ | ⟨_, z⟩
    · cases z; exact ⟨rfl, rfl⟩
    · have := List.eq_of_mem_replicate (List.mem_of_getElem? z)
      cases this
  refine ⟨(List.replicate N none).set i (some (.ow false (feed0 ns))), fun b => b = C, ⟨by rw [List.length_set, List.length_set, List.length_replicate, hlen], fun j v hj => ?_, fun j b xs hj => ?_, fun j k c h1 h2 => ?_, nr, fun c hc => ?_⟩, ?_⟩
  · exact SV.noConfusion (get j _ hj).2
  · obtain ⟨rfl, z⟩ := get j _ hj
    have z1 := (SV.ow.inj z).2
    subst z1
    refine ⟨A, _, List.getElem?_set_self (by rw [hlen]; exact hi), hA, ?_, ne⟩
    unfold feed0
    refine .cons ?_ (.cons (by rw [RV]) (.cons (by rw [RV]) (.cons (by rw [RV]) .nil)))
    unfold PV.lst
    rw [RV]
    exact ⟨C, _, rfl, rfl, hC, repFs_self (purs_of_mem fun x hx => by
      obtain ⟨c, _, rfl⟩ := List.mem_map.mp hx
      exact pur_int)⟩
  · obtain ⟨⟨b, xs, h1⟩, _⟩ := h1
    obtain ⟨⟨b2, ys, h2⟩, _⟩ := h2
    rw [(get j _ h1).1, (get k _ h2).1]
  · rw [hc, hC]; exact fun z => (by cases z)
  · rw [he]
    intro p s' M2 F2 R2 G2 rr
    rw [RR, RV] at rr
    subst rr
    exact ⟨M2, .refl _, q M2⟩
end PL
set_option autoImplicit false
namespace PL
open PySem PySem.Spec L2
open PyProof.Rows hiding St

/-! ## set(xs) of texts, some perhaps several times -/
def nub1 (acc : List Str) (x : Str) : List Str := if x ∈ acc then acc else acc ++ [x]
def nubS (xs : List Str) : List Str := xs.foldl nub1 []
theorem nubS_snoc (xs : List Str) (x : Str) : nubS (xs ++ [x]) = nub1 (nubS xs) x := by unfold nubS; rw [List.foldl_append]; rfl
theorem nub1_mem {acc : List Str} {x y : Str} : y ∈ nub1 acc x ↔ y ∈ acc ∨ y = x := by
  unfold nub1
  split
  · rename_i h
    exact ⟨.inl, fun z => z.elim id fun e => e ▸ h⟩
  · rw [List.mem_append, List.mem_singleton]
theorem foldl_nub_mem {y : Str} : ∀ (xs acc : List Str), y ∈ xs.foldl nub1 acc ↔ y ∈ acc ∨ y ∈ xs
  | [], acc => by simp
  | x :: xs, acc => by
    rw [List.foldl_cons, foldl_nub_mem xs, nub1_mem, List.mem_cons]
    constructor
    · rintro ((h | h) | h)
      · exact .inl h
      · exact .inr (.inl h)
      · exact .inr (.inr h)
    · rintro (h | h | h)
      · exact .inl (.inl h)
      · exact .inl (.inr h)
      · exact .inr h
theorem nubS_mem {xs : List Str} {y : Str} : y ∈ nubS xs ↔ y ∈ xs := by
  unfold nubS; rw [foldl_nub_mem]; simp
theorem nubS_nodup : ∀ (xs acc : List Str), acc.Nodup → (xs.foldl nub1 acc).Nodup
  | [], acc, h => h
  | x :: xs, acc, h => by
    rw [List.foldl_cons]
    refine nubS_nodup xs _ ?_
    unfold nub1
    split
    · exact h
    · rename_i n
      rw [List.nodup_append]
      exact ⟨h, by simp, fun a ha b hb e => n (by rw [List.mem_singleton] at hb; subst hb; subst e; exact ha)⟩
theorem foldl_nub_len : ∀ (xs acc : List Str), (xs.foldl nub1 acc).length ≤ acc.length + xs.length
  | [], acc => by simp
  | x :: xs, acc => by
    rw [List.foldl_cons]
    have := foldl_nub_len xs (nub1 acc x)
    have h2 : (nub1 acc x).length ≤ acc.length + 1 := by unfold nub1; split <;> simp
    simp only [List.length_cons]; omega
theorem nubS_len (xs : List Str) : (nubS xs).length ≤ xs.length := by have := foldl_nub_len xs []; unfold nubS; simpa using this
theorem foldl_nub_nodup : ∀ (xs acc : List Str), (acc ++ xs).Nodup → xs.foldl nub1 acc = acc ++ xs
  | [], acc, _ => by simp
  | x :: xs, acc, h => by
    rw [List.foldl_cons]
    have hx : x ∉ acc := fun z => by
      rw [List.nodup_append] at h
      exact h.2.2 x z x List.mem_cons_self rfl
    have e : nub1 acc x = acc ++ [x] := by unfold nub1; rw [if_neg hx]
    rw [e, foldl_nub_nodup xs (acc ++ [x]) (by rw [List.append_assoc]; exact h), List.append_assoc]; rfl
/-- as many as there are: no text twice -/
theorem nubS_full {xs : List Str} : (nubS xs).length = xs.length ↔ xs.Nodup := by
  constructor
  · intro h
    have key : ∀ (xs acc : List Str), (xs.foldl nub1 acc).length = acc.length + xs.length → xs.Nodup ∧ ∀ x ∈ xs, x ∉ acc := by
      intro xs
      induction xs with
      | nil => intro acc _; simp
      | cons x xs ih =>
        intro acc h
        rw [List.foldl_cons] at h
        have h3 := foldl_nub_len xs (nub1 acc x)
        by_cases hx : x ∈ acc
        · have e : nub1 acc x = acc := by unfold nub1; rw [if_pos hx]
          rw [e] at h h3
          simp only [List.length_cons] at h
          omega
        · have e : nub1 acc x = acc ++ [x] := by unfold nub1; rw [if_neg hx]
          rw [e] at h
          obtain ⟨h1, h2⟩ := ih (acc ++ [x]) (by rw [h]; simp; omega)
          refine ⟨List.nodup_cons.mpr ⟨fun z => h2 x z (by simp), h1⟩, fun y hy => ?_⟩
          rcases List.mem_cons.mp hy with rfl | hy
          · exact hx
          · exact fun z => h2 y hy (by simp [z])
    exact (key xs [] (by simpa [nubS] using h)).1
  · intro h
    unfold nubS
    rw [foldl_nub_nodup xs [] (by simpa using h)]; simp

section
variable {prog : Program} {w : World} {A : Around} {E : Value → Shared → Prop} {s : Shared}
/-- the turns of the set's filling -/
theorem fill_texts {itA S : Addr} {foot writes : List Addr} {GG : Array GenState → Array GenState → Prop} {many : Nat} {Yield : Nat → Value → Prop} {At : Nat → Shared → Prop} {R : Result → Shared → Prop}
    (W : WalksS prog w A.in1 itA foot writes GG many Yield At) (out : S ∉ foot) {xs : List Str} (hm : many = xs.length) (room : xs.length + 1 < scanBound)
    (isT : ∀ i v, Yield i v → ∃ x t, xs[i]? = some x ∧ v = .str x t) (fin : ∀ s', Moved (S :: writes) GG s s' → s'.heap.SetOf (strKind prog w) S (fun k => decide (k ∈ xs)) (nubS xs).length → R (.ok (.ret .none)) s') :
    ∀ (left i : Nat) (s1 : Shared), i + left = many → At i s1 → s1.heap.SetOf (strKind prog w) S (fun k => decide (k ∈ xs.take i)) (nubS (xs.take i)).length →
      (∀ s', Moved (S :: writes) GG s1 s' → Moved (S :: writes) GG s s') → codeAny (model prog w) A (.builtin "set.update.loop" ⟨[.ref S, .ref itA], []⟩) R s1 := by
  have outW : S ∉ writes := fun z => out (W.sub _ z)
  have more : ∀ b ∈ writes, b ∈ S :: writes := fun b z => List.mem_cons_of_mem _ z
  intro left
  induction left with
  | zero =>
    intro i s1 hi at1 set1 mv
    have hi : i = many := by omega
    subst hi
    refine codeAny_builtin F.entry_set_update_loop ?_
    rw [Around.under_plainId F.plain_set_update_loop _]
    refine (wpAny_bind (W.done s1 _ _ at1 fun s2 m2 => ?_) : wpAny (model prog w) A.in1 (pyNext (.ref itA) >>= _) _ _ s1)
    rw [List.take_of_length_le (by omega)] at set1
    obtain ⟨ob, es, ep, tt, h1, h2⟩ := set1
    show wpAny _ A.in1 (ret Value.none) _ _ s2
    exact wpAny_pure (fin s2 (mv s2 (m2.mono more)) ⟨ob, es, ep, tt, m2.heap S ob outW h1, h2⟩)
  | succ left ih =>
    intro i s1 hi at1 set1 mv
    have lt : i < many := by omega
    refine codeAny_builtin F.entry_set_update_loop ?_
    rw [Around.under_plainId F.plain_set_update_loop _]
    refine (wpAny_bind (W.item i s1 _ _ lt at1 fun v s2 y2 at2 m2 => ?_) : wpAny (model prog w) A.in1 (pyNext (.ref itA) >>= _) _ _ s1)
    obtain ⟨x, t, hx, rfl⟩ := isT i v y2
    have set2 : s2.heap.SetOf (strKind prog w) S (fun k => decide (k ∈ xs.take i)) (nubS (xs.take i)).length := by
      obtain ⟨ob, es, ep, tt, h1, h2⟩ := set1
      exact ⟨ob, es, ep, tt, m2.heap S ob outW h1, h2⟩
    refine (wpAny_bind (wpAny_holding ?_) : wpAny (model prog w) A.in1 (holding [Value.str x t] (setAdd S (.str x t)) >>= _) _ _ s2)
    unfold setAdd
    refine wpAny_holding (wpAny_bind ((strKind prog w).pyHash (k := x) (strKind_is _ _ _ _) ?_))
    have few := nubS_len (xs.take i)
    have few2 : (xs.take i).length ≤ i := by rw [List.length_take]; omega
    refine wpAny_setAddHashed_of (knd := strKind prog w) (s := { s2 with toks := s2.toks + 1 }) (strKind_is _ _ _ _) rfl set2 (by omega) fun h3 same set3 => ?_
    have et : xs.take (i + 1) = xs.take i ++ [x] := by rw [List.take_add_one, hx]; rfl
    have set4 : h3.SetOf (strKind prog w) S (fun k => decide (k ∈ xs.take (i + 1))) (nubS (xs.take (i + 1))).length := by
      refine SetOf_congr set3 (fun k => ?_) ?_
      · rw [et]
        by_cases a : k ∈ xs.take i <;> by_cases b : k = x <;> simp [a, b, List.mem_append]
      · rw [et, nubS_snoc]
        unfold nub1
        by_cases a : x ∈ xs.take i
        · rw [if_pos (nubS_mem.mpr a)]; simp [a]
        · rw [if_neg (fun z => a (nubS_mem.mp z))]; simp [a]
    refine wpAny_pure ⟨plainId_quiet F.plain_set_update_loop _, ih (i + 1) _ (by omega) (W.frame _ s2 _ _ at2 (Nat.le_succ _) fun b hb o e => ?_) set4 fun s' m4 => mv s' (Moved.trans W.gtrans ((m2.mono more).then_heap (Nat.le_succ _) fun b o hb e => ?_) m4)⟩
    · have nb : b ≠ S := fun z => out (z ▸ hb)
      rw [same.2 b nb]; exact e
    · have nb : b ≠ S := fun z => hb (by rw [z]; exact List.mem_cons_self)
      rw [same.2 b nb]; exact e
set_option maxHeartbeats 4000000 in
theorem set_of_texts {l : Addr} {items : Array Value} {kind : String} {xs : List Str} {Q : Value → Shared → Prop}
    (calm : A.handled = none) (hk : kind = "list" ∨ kind = "tuple") (at0 : ∃ o n, s.heap.get? l = some o ∧ o.cls = .type kind ∧ o.data = .seq items n) (texts : PyProof.Rows.StrsAre items.toList xs) (room : xs.length + 1 < scanBound)
    (goOn : ∀ (hp : Heap) (tk : Nat), hp.SetOf (strKind prog w) s.heap.objs.size (fun k => decide (k ∈ xs)) (nubS xs).length → (∀ b o, s.heap.get? b = some o → hp.get? b = some o) → Q (.ref s.heap.objs.size) { s with heap := hp, toks := tk }) :
    wpAny (model prog w) A (call (.type "set") [.ref l]) Q E s := by
  have size : xs.length = items.size := by rw [← StrsAre.len_eq texts, Array.length_toList]
  have inL : l < s.heap.objs.size := by obtain ⟨o, _, e, _⟩ := at0; exact Heap.lt_size e
  have isT : ∀ (i : Nat) (v : Value), items[i]? = some v → ∃ x t, xs[i]? = some x ∧ v = .str x t := fun i v hv => by
    have hi : i < xs.length := by rw [size]; exact (Array.getElem?_eq_some_iff.mp hv).1
    obtain ⟨t, e⟩ := SS.strs_at texts i v (by rw [Array.getElem?_toList]; exact hv)
    refine ⟨xs[i], t, List.getElem?_eq_getElem hi, ?_⟩
    rw [e, List.getD_eq_getElem?_getD, List.getElem?_eq_getElem hi]; rfl
  obtain ⟨mc, mt, mro⟩ := F.called_set.mro
  have f1 := F.called_set.made
  have f2 := F.called_set.sub
  have f3 := F.called_set.notType
  have f4 := F.called_set.canCreate
  have f5 := F.typeCall_set_1 (.ref l)
  refine wpAny_call (codeAny_of_tree ?_)
  show wpAny _ _ (callAny (.type "set") ⟨[.ref l], []⟩) _ _ _
  refine wpAny_pure ⟨Code.quiet_builtin _ (by decide +kernel), codeAny_builtin F.entry_type_call ?_⟩
  rw [Around.under_plain (weight_type_call_type "set" [.ref l] []) rfl]
  repeat (any_goals (first | assumption | wp_step))
  refine codeAny_mono (code_set_new_1 (.ref l) (E := E) (Q₁ := fun v s1 => ∃ led : Bool, v = .ref s.heap.objs.size ∧ s1 = { s with heap := s.heap.push { cls := .type "set", dict := none, data := .set #[] 0 (.fresh 0 0 led) } }) fun led => ⟨led, rfl, rfl⟩) fun r s1 hr => ?_
  match r, hr with
  | .error e, hr => exact hr
  | .ok .next, hr => exact hr.elim
  | .ok .brk, hr => exact hr.elim
  | .ok .cont, hr => exact hr.elim
  | .ok (.ret v), hr =>
    obtain ⟨led, rfl, rfl⟩ := hr
    have new : (s.heap.push { cls := .type "set", dict := none, data := .set #[] 0 (.fresh 0 0 led) }).get? s.heap.objs.size = some { cls := .type "set", dict := none, data := .set #[] 0 (.fresh 0 0 led) } := Heap.get?_push_size _ rfl
    have g1 := F.called_set.init.lookup
    have g2 := F.called_set.init.bind (.ref s.heap.objs.size)
    repeat (any_goals (first | assumption | wp_step))
    refine codeAny_mono (codeAny_call_builtin (R := wants (fun u s2 => u = .none ∧ ∃ hp tk, s2 = { s with heap := hp, toks := tk } ∧ hp.SetOf (strKind prog w) s.heap.objs.size (fun k => decide (k ∈ xs)) (nubS xs).length ∧
      ∀ b o, s.heap.get? b = some o → hp.get? b = some o) E) F.called_set.init.plain F.entry_set_init (check_set_init_1 ⟨_, new, rfl⟩ ?_)) fun r2 s2 hr2 => ?_
    · obtain ⟨⟨oc, od, ot, os⟩, n, e0, rfl, e2⟩ := at0
      simp only at e2
      subst e2
      have there := Heap.get?_push_of_some { cls := .type "set", dict := none, data := .set #[] 0 (.fresh 0 0 led) } e0
      have calm3 : A.in1.in1.in1.handled = none := by simp [calm]
      have notIt : l ≠ (s.heap.push { cls := .type "set", dict := none, data := .set #[] 0 (.fresh 0 0 led) }).objs.size := by
        rw [Heap.size_push]; exact Nat.ne_of_lt (Nat.lt_succ_of_lt inL)
      have outF : s.heap.objs.size ∉ [(s.heap.push { cls := .type "set", dict := none, data := .set #[] 0 (.fresh 0 0 led) }).objs.size, l] := by
        rw [Heap.size_push]
        intro z
        rcases List.mem_cons.mp z with z | z
        · exact Nat.ne_of_lt (Nat.lt_succ_self _) z
        · rw [List.mem_singleton] at z; exact Nat.ne_of_gt inL z
      have old : ∀ (b : Addr) (o : Obj), s.heap.get? b = some o → b ∉ [s.heap.objs.size, (s.heap.push { cls := .type "set", dict := none, data := .set #[] 0 (.fresh 0 0 led) }).objs.size] := fun b o e z => by
        have hb := Heap.lt_size e
        rw [Heap.size_push] at z
        rcases List.mem_cons.mp z with z | z
        · exact Nat.ne_of_lt hb z
        · rw [List.mem_singleton] at z; exact Nat.ne_of_lt (Nat.lt_succ_of_lt hb) z
      rcases hk with rfl | rfl
      · have sub1 := F.sub_list_set
        have sub2 := F.sub_list_frozenset
        have nd : (Value.type "list" == Value.type "dict") = false := by decide
        have isS : (s.heap.push { cls := .type "set", dict := none, data := .set #[] 0 (.fresh 0 0 led) }).IsList l items := ⟨_, there, rfl, n, rfl⟩
        unfold Builtin.«set.__init__» noKeywords Builtin.Frozenset.updateFrom
        generalize keepIt : pyIter = itOf
        wp_walk
        subst keepIt
        refine wpAny_pyIter_list isS (wpAny_bind (wpAny_runValue ?_))
        refine fill_texts ((Walks.list calm3 _ l notIt items).toS) outF size.symm room isT (fun s3 m3 set3 => ?_) (items.size - 0) 0 _ (by omega) ⟨⟨_, Heap.get?_push_size _ rfl, rfl, rfl⟩, isS.push _⟩ ?_ fun _ m => m
        · obtain ⟨h3, g3, d3, t3, o3⟩ := s3
          obtain rfl : g3 = s.gens := m3.gens
          obtain rfl : d3 = s.drawn := m3.drawn
          obtain rfl : o3 = s.os := m3.os
          show wpAny _ _ _ _ _ _
          refine wpAny_pure ?_
          show wpAny _ _ (ret Value.none) _ _ _
          exact wpAny_pure ⟨rfl, h3, t3, rfl, set3, fun b o e => m3.heap b o (old b o e) (Heap.get?_push_of_some _ (Heap.get?_push_of_some _ e))⟩
        · have still := Heap.get?_push_of_some { cls := .type "list_iterator", data := .fields #[.ref l, .int 0 0] } new
          exact SetOf_congr ((setObjOf_fresh (knd := strKind prog w) led).setOf still (by unfold scanBound; omega)) (fun _ => by simp) rfl
      · have sub1 := F.sub_tuple_set
        have sub2 := F.sub_tuple_frozenset
        have nd : (Value.type "tuple" == Value.type "dict") = false := by decide
        have isS : (s.heap.push { cls := .type "set", dict := none, data := .set #[] 0 (.fresh 0 0 led) }).IsTuple l items := ⟨_, there, rfl, n, rfl⟩
        unfold Builtin.«set.__init__» noKeywords Builtin.Frozenset.updateFrom
        generalize keepIt : pyIter = itOf
        wp_walk
        subst keepIt
        refine wpAny_pyIter_tuple isS (wpAny_bind (wpAny_runValue ?_))
        refine fill_texts ((Walks.tuple calm3 _ l notIt items).toS) outF size.symm room isT (fun s3 m3 set3 => ?_) (items.size - 0) 0 _ (by omega) ⟨⟨_, Heap.get?_push_size _ rfl, rfl, rfl⟩, isS.push _⟩ ?_ fun _ m => m
        · obtain ⟨h3, g3, d3, t3, o3⟩ := s3
          obtain rfl : g3 = s.gens := m3.gens
          obtain rfl : d3 = s.drawn := m3.drawn
          obtain rfl : o3 = s.os := m3.os
          show wpAny _ _ _ _ _ _
          refine wpAny_pure ?_
          show wpAny _ _ (ret Value.none) _ _ _
          exact wpAny_pure ⟨rfl, h3, t3, rfl, set3, fun b o e => m3.heap b o (old b o e) (Heap.get?_push_of_some _ (Heap.get?_push_of_some _ e))⟩
        · have still := Heap.get?_push_of_some { cls := .type "tuple_iterator", data := .fields #[.ref l, .int 0 0] } new
          exact SetOf_congr ((setObjOf_fresh (knd := strKind prog w) led).setOf still (by unfold scanBound; omega)) (fun _ => by simp) rfl
    · match r2, hr2 with
      | .error e, hr2 => exact hr2
      | .ok .next, hr2 => exact hr2.elim
      | .ok .brk, hr2 => exact hr2.elim
      | .ok .cont, hr2 => exact hr2.elim
      | .ok (.ret u), hr2 =>
        obtain ⟨rfl, hp, tk, rfl, set2, kp⟩ := hr2
        repeat (any_goals (first | assumption | wp_step))
        exact goOn hp tk set2 kp
end
end PL
set_option autoImplicit false
namespace PL
open PySem PySem.Spec L2
open PyProof.Rows hiding St
/-- len(set(e)), e a list or a tuple of texts -/
def tLenTexts (K : Fg) (te : TE) : TE := fun σ H Q => te σ H fun x H1 => ∃ (l : Addr) (xs : List Str), x = .ref l ∧ (SqL K H1 l (xs.map V.str) ∨ SqT K H1 l (xs.map V.str)) ∧ xs.length ≤ 4000 ∧ Q (.int (nubS xs).length) H1
theorem texts_are : ∀ {xs : List Str} {us : List Value}, Vals (xs.map V.str) us → PyProof.Rows.StrsAre us xs
  | [], us, h => by cases h; exact .nil
  | x :: xs, us, h => by
    cases h with
    | cons r t =>
      obtain ⟨k, rfl⟩ := r
      exact .cons x k (texts_are t)
theorem pe_lenTexts {X : Cx} {a : Expr} {te : TE} {p1 p2 p3 pos : Pos} (hc : X.calm = true) (hm : X.mg "len" = none) (hm2 : X.mg "set" = none) (ha : PE X a te) (hg : Gl X "len") (hg2 : Gl X "set")
    (na : starEach [a] X.env = (false, eval a X.env) :: starEach [] X.env) : PE X (.Call (.Name "len" p1) [.Call (.Name "set" p2) [a] [] p3] [] pos) (tLenTexts X.K te) := by
  refine ⟨fun pins s σ H Q I h => Call_ (ld_blt I hg hm boot_len (callWith_builtin1 (args_cons (Call_ (ld_blt I hg2 hm2 boot_set (callWith_type1 (args_cons (thn (ha.run pins s σ H _ I h) fun v s1 ⟨x, H1, I1, rx, q1⟩ => args_nil ?_) na) na rfl))) rfl) rfl rfl))⟩
  obtain ⟨l, xs, rfl, hs, few, q1⟩ := q1
  cases rx
  have sb : xs.length + 1 < scanBound := by unfold scanBound; omega
  have ends : ∀ (hp : Heap) (tk : Nat), hp.SetOf (strKind X.prog X.w) s1.heap.objs.size (fun k => decide (k ∈ xs)) (nubS xs).length → (∀ b o, s1.heap.get? b = some o → hp.get? b = some o) →
      wpAny (model X.prog X.w) X.A (spliced (backTo pos (starEach [] X.env))) (fun vs s2 => wpAny (model X.prog X.w) X.A (call (.builtin "len") (Value.ref s1.heap.objs.size :: vs)) (EP X pins σ Q) X.xe s2) X.xe { s1 with heap := hp, toks := tk } := fun hp tk set2 kp => by
    refine args_nil ?_
    obtain ⟨ob, es, ep, tt, h1, h2, h3, _, _, _, h4, h5⟩ := set2
    have few2 := nubS_len xs
    refine call_len_set h1 h2 h3 h4 (by rw [h5]; omega) ⟨.int (nubS xs).length, H1, (I1.kept kp).tok _, ⟨_, by rw [h5]⟩, q1⟩
  rcases hs with hs | hs
  · obtain ⟨its, r, pl, hz⟩ := I1.list hs
    obtain ⟨o, h1, h2, n, h3⟩ := pl.isList
    exact set_of_texts (I1.ok.hd hc) (.inl rfl) ⟨o, n, h1, h2, h3⟩ (by simpa using texts_are r) sb ends
  · obtain ⟨its, r, pl, hz⟩ := I1.tuple hs
    obtain ⟨o, h1, h2, n, h3⟩ := pl
    exact set_of_texts (I1.ok.hd hc) (.inr rfl) ⟨o, n, h1, h2, h3⟩ (by simpa using texts_are r) sb ends
end PL
set_option autoImplicit false
namespace PL
open PySem PySem.Spec L2
open PyProof.Rows hiding St

/-! ## a, b, c = a list -/
def gLs (gs : List WG) : WG := fun p s M Q => match p with
  | .ref a => match M a with
    | some (.lst xs) => gAll gs xs s M Q
    | _ => False
  | _ => False
theorem eg_lst {X : Cx} {pos : Pos} {es : List Expr} {k : Nat} {gs : List WG} (hc : X.calm = true) (h : EGs X es gs)
    (hn : (assignEach es X.env).length = gs.length := by rfl) (hst : (assignEach es X.env).findIdx? (·.1) = none := by rfl) (hl : ∀ (ps : List PV) s M Q, gAll gs ps s M Q → ps.length = gs.length) : EG X (.Tuple es k pos) (gLs gs) := by
  refine ⟨fun p s M Q Q' k h' => ?_, pg_weak (pg_lst hc h.run hn hst) ?_⟩
  · unfold gLs at h' ⊢
    split at h'
    · split at h'
      · exact h.mono _ _ _ _ _ k h'
      · exact h'
    · exact h'
  · rintro v σ H Q ⟨p, s, M, rs, rh, r, h'⟩
    unfold gLs at h'
    split at h'
    · rename_i a
      split at h'
      · rename_i xs e
        rw [Rep] at r
        subst r
        obtain ⟨vs, hv, rr⟩ := rh a _ e
        exact ⟨a, vs, rfl, SqL.of hv, by rw [← rr.length]; exact hl _ _ _ _ h', xs, s, M, rs, rh, rr, h'⟩
      · exact h'.elim
    · exact h'.elim
def sAsgL (f : VEnv → Rs TV) (is : List Nat) : VEnv → Fl := fun e => (f e).toS fun t e1 => match t with
  | .sh (.bx .lst xs) => (match setsT is xs e1 with
    | some e2 => .nx e2
    | none => .no)
  | _ => .no
section
variable {cm : Nat → Addr} {X : Cx} {W : WX} {pos : Pos}
theorem vs_asgL {tg e0 : Expr} {f : VEnv → Rs TV} {is : List Nat} (he : EE X W e0 (wE cm f)) (hg : EG X tg (gLs (is.map gNm))) (hs : swapsWithSole [tg] e0 pos.line X.env = pure false := by rfl) (hw : swappedStores [tg] e0 X.env = pure none := by rfl)
    (h1 : (assignEach [tg] X.env).map (·.2) = [assign tg X.env] := by rfl) : ES X W (.Assign [tg] e0 pos) (wS cm (sAsgL f is)) := by
  refine vs_of (es_asg he hg hs hw h1) ?_
  rintro EP D s M ⟨e, F, R, h⟩
  refine wAsg_i ⟨e, F, R, OkE.mono (OkS.bind h) fun t e1 M1 F1 R1 G1 h1 p hp => ?_⟩
  split at h1
  · rw [RT, RV] at hp
    obtain ⟨a, ps, rfl, fa, m, r⟩ := hp
    split at h1
    · rename_i e2 h2
      unfold gLs
      dsimp only
      rw [m]
      exact setsT_rs R1 r h2 fun s' R2 G2 _ _ => h1 s' M1 F1 R2 G2
    · exact h1.elim
  · exact h1.elim
/-! ## keywords, calls of nothing -/
theorem vk_of {kws : List Keyword} {w : WA} {f : VEnv → Rs (List TV)} (h : EK X W kws w) (k : ∀ EP s M Q, wA cm f EP s M Q → w EP s M Q) : EK X W kws (wA cm f) :=
  ⟨wA_mono, ⟨fun pos pins s σ H Q I q => h.run.run pos pins s σ H Q I (by
    obtain ⟨EP, s, M, c, q⟩ := q
    exact ⟨EP, s, M, c, k _ _ _ _ q⟩)⟩⟩
theorem vk_nil : EK X W [] (wA cm fNil) := by
  refine vk_of ek_nil ?_
  rintro EP s M Q ⟨e, F, R, h⟩
  exact h M F R (.refl _ _ _ _) [] rfl
theorem vk_cons {nm : Option Str} {kpos : Pos} {x : Expr} {kws : List Keyword} {f : VEnv → Rs TV} {g : VEnv → Rs (List TV)} (ha : EE X W x (wE cm f)) (hr : EK X W kws (wA cm g)) : EK X W (⟨nm, x, kpos⟩ :: kws) (wA cm (fCons f g)) := by
  refine vk_of (ek_cons ha hr) ?_
  rintro EP s M Q ⟨e, F, R, h⟩
  refine ⟨e, F, R, h.bind.mono fun t e1 M1 F1 R1 G1 h1 p hp => ⟨e1, F1, R1, OkE.mono (OkE.bind h1) fun ts e2 M2 F2 R2 G2 h2 ps hps => ?_⟩⟩
  exact h2 M2 F2 R2 (.refl _ _ _ _) (p :: ps) ⟨p, ps, rfl, RT.go R1 G2 hp, hps⟩
theorem v_callK0 {m k : Nat} {f : List SV → RsC} {fk : VEnv → Rs (List TV)} : ∀ EP s M Q, wV cm (fCallK 0 m k f fNil fk) EP s M Q → wCallK (pV cm k f) 0 m wNil (wA cm fk) (fun us ws => us ++ ws) EP s M Q := by
  intro EP s M Q h
  obtain ⟨e, F, R, h⟩ := h
  refine wCallK_i (wNil_i ⟨e, F, R, ?_⟩)
  have h : OkE cm EP s M F e ((fk e).bind fun us e2 => if ([] : List TV).length = 0 ∧ us.length = m ∧ 0 + m = k then callR f ([] ++ us) e2 else .no) _ := h
  refine h.bind.mono fun us e1 M1 F1 R1 G1 h1 ps hps => ?_
  split at h1
  · rename_i hl
    exact ⟨rfl, by rw [← rts_len hps]; exact hl.2.1, call_use (ts := [] ++ us) (ps := [] ++ ps) R1 G1 hps (by rw [List.nil_append, ← rts_len hps, hl.2.1]; omega) h1⟩
  · exact h1.elim
theorem v_call0 {f : List SV → RsC} : ∀ EP s M Q, wV cm (fCall 0 f fNil []) EP s M Q → wCall (pV cm 0 f) wNil [] EP s M Q := by
  rintro EP s M Q ⟨e, F, R, h⟩
  refine wCall_i (wNil_i ?_)
  have h : OkE cm EP s M F e (callR f [] e) _ := h
  exact call_use (ts := []) (ps := []) R (.refl _ _ _ _) rfl rfl h
/-! ## len(set(..)) of texts -/
def gLenSet (v : PV) : Option PV := match seqOf v with
  | some xs => (match strsOf xs with
    | some ys => if ys.length ≤ 4000 then some (.int (nubS ys).length) else none
    | none => none)
  | none => none
def rLenT (p : PV) (M1 : PH) (Q : QE) : Prop := ∃ xs : List Str, seqAt M1 p = some (xs.map PV.str) ∧ xs.length ≤ 4000 ∧ Q (.int (nubS xs).length) M1
theorem strsOf_eq : ∀ {xs : List PV} {ys : List Str}, strsOf xs = some ys → xs = ys.map PV.str
  | [], ys, h => by cases h; rfl
  | .str b :: t, ys, h => by
    rw [strsOf] at h
    obtain ⟨cs, e, rfl⟩ := Option.map_eq_some_iff.mp h
    rw [strsOf_eq e]; rfl
  | .non :: _, _, h => by cases h
  | .int _ :: _, _, h => by cases h
  | .bl _ :: _, _, h => by cases h
  | .tup _ :: _, _, h => by cases h
  | .ref _ :: _, _, h => by cases h
  | .ty _ :: _, _, h => by cases h
  | .bx _ _ :: _, _, h => by cases h
theorem ung_lenT : UnG rLenT gLenSet := by
  intro M F v x z Q nr fr hv hz k
  unfold gLenSet at hz
  split at hz
  · rename_i xs hx
    split at hz
    · rename_i ys hy
      split at hz
      · rename_i hl
        cases hz
        have e := strsOf_eq hy
        have hp := strs_purs hy
        refine ⟨ys, ?_, hl, k _ _ _ (.refl nr fr) (by rw [RV])⟩
        rw [← e]
        unfold seqOf at hx
        split at hx
        · cases hx
          obtain ⟨ps, rfl, r⟩ := hv.tup
          rw [repFs_pur hp r]; rfl
        · cases hx
          obtain ⟨a, ps, rfl, m, r⟩ := VV.lst hv
          unfold seqAt
          dsimp only
          rw [listAt_lst m, repFs_pur hp r]
        · cases hx
      · cases hz
    · cases hz
  · cases hz
theorem ve_lenSet {a : Expr} {f : VEnv → Rs TV} {p p2 q : Pos} (hc : X.calm = true) (hm : X.mg "len" = none) (hm2 : X.mg "set" = none) (ha : EE X W a (wE cm f)) (hg : Gl X "len" := by rfl) (hg2 : Gl X "set" := by rfl)
    (na : starEach [a] X.env = (false, eval a X.env) :: starEach [] X.env := by rfl) : EE X W (.Call (.Name "len" p) [.Call (.Name "set" p2) [a] [] q] [] pos) (wE cm (fUn gLenSet f)) := by
  refine ⟨wE_mono, pe_weak (pe_lenTexts hc hm hm2 ha.run hg hg2 na) ?_⟩
  rintro σ H Q ⟨EP, s, M, c, h⟩
  refine c.use wE_mono (v_un ung_lenT h) fun p M1 v H1 h1 S1 c1 r1 => ?_
  obtain ⟨xs, hs, hl, q1⟩ := h1
  obtain ⟨l, vs, rfl, rr, hq⟩ := seqAt_rd c1.rh r1 hs
  have e := reps_strs rr
  subst e
  exact ⟨l, xs, rfl, hq, hl, q1 _ H1 S1 c1.rh (by rw [Rep])⟩
end
end PL
set_option autoImplicit false
namespace PL
open PySem PySem.Spec L2
open PyProof.Rows hiding St

/-! ## a comprehension within a comprehension -/
theorem look_relabel {env : PySem.Env} : ∀ {names : List (Str × NameKind)} {x : Str}, List.lookup x names = some NameKind.cell ∨ List.lookup x names = some NameKind.free →
    List.lookup x (names.map fun y => match y with
      | (n, k) => if (k == NameKind.free && env.scope.kind == ScopeKind.function && env.kindOf n == some NameKind.cell) = true then (n, NameKind.cell) else (n, k)) = some NameKind.cell ∨
    List.lookup x (names.map fun y => match y with
      | (n, k) => if (k == NameKind.free && env.scope.kind == ScopeKind.function && env.kindOf n == some NameKind.cell) = true then (n, NameKind.cell) else (n, k)) = some NameKind.free
  | [], x, h => by simp at h
  | (n, k) :: r, x, h => by
    rw [List.map_cons]
    dsimp only
    cases hx : x == n with
    | true =>
      simp only [List.lookup_cons, hx] at h
      split
      · left; simp only [List.lookup_cons, hx]
      · simp only [List.lookup_cons, hx]; exact h
    | false =>
      simp only [List.lookup_cons, hx] at h
      split
      · simp only [List.lookup_cons, hx]; exact look_relabel h
      · simp only [List.lookup_cons, hx]; exact look_relabel h
theorem blkOk_relabel {N : List Str} {sc scope : Scope} {own : List (Str × Nat)} (env : PySem.Env) (h : BlkOk N sc scope own) : BlkOk N (relabel sc env) scope own :=
  ⟨h.kind, h.uniq, h.ix, fun y hy e => look_relabel (h.free y hy e), h.own⟩
section
variable {cm : Nat → Addr} {Y : Cx} {W : WX} {elt tg iter : Expr} {ifs : List Expr} {sc0 scope : Scope} {own : List (Str × Nat)} {pos : Pos} {fi : VEnv → Rs VSrc} {g : CTg} {ft : VEnv → Rs Bool} {fe : VEnv → Rs TV}
theorem vl_lcB {s0 : Shared} {H0 : Hp} {C0 : Addr} {cl0 : List (Str × Addr)} {fp0 : List Addr} (hc : Y.calm = true) (hN : Y.N.Nodup) (hi : EI (Y.blk s0 H0 sc0 (compEnvC sc0 cl0 C0 Y.env) fp0) W tg iter (wI cm fi)) (ok : BlkOk Y.N sc0 scope own)
    (hg : ∀ (s : Shared) (H : Hp) (C : Addr) (cl : List (Str × Addr)) (fp : List Addr), EC ((Y.blk s0 H0 sc0 (compEnvC sc0 cl0 C0 Y.env) fp0).blk s H scope (compEnvC scope cl C (Y.blk s0 H0 sc0 (compEnvC sc0 cl0 C0 Y.env) fp0).env) fp) tg g)
    (ht : ∀ (s : Shared) (H : Hp) (C : Addr) (cl : List (Str × Addr)) (fp : List Addr), ETs ((Y.blk s0 H0 sc0 (compEnvC sc0 cl0 C0 Y.env) fp0).blk s H scope (compEnvC scope cl C (Y.blk s0 H0 sc0 (compEnvC sc0 cl0 C0 Y.env) fp0).env) fp) ifs (wT cm ft))
    (he : ∀ (s : Shared) (H : Hp) (C : Addr) (cl : List (Str × Addr)) (fp : List Addr), EE ((Y.blk s0 H0 sc0 (compEnvC sc0 cl0 C0 Y.env) fp0).blk s H scope (compEnvC scope cl C (Y.blk s0 H0 sc0 (compEnvC sc0 cl0 C0 Y.env) fp0).env) fp) W0 elt (wE cm fe))
    (hv : ∀ i ∈ g.ix, i ∈ own.map (·.2) := by decide) (hs : ∀ x, foldedSetIterable iter (Y.blk s0 H0 sc0 (compEnvC sc0 cl0 C0 Y.env) fp0).env x = pure x := by intro _; rfl) :
    EL (Y.blk s0 H0 sc0 (compEnvC sc0 cl0 C0 Y.env) fp0) W (.ListComp elt [⟨tg, iter, ifs, 0⟩] scope pos) (wL cm (lLc fi g ft fe (own.map (·.2)))) :=
  vl_lc (X := Y.blk s0 H0 sc0 (compEnvC sc0 cl0 C0 Y.env) fp0) hc hN hi (blkOk_relabel _ ok) hg ht he hv hs
end

/-! ## reading loops -/
theorem lcF_inv {tg : CTg} {ft : VEnv → Rs Bool} {fe : VEnv → Rs TV} {vs : List Nat} {xs : List PV} (P : Nat → List PV → VEnv → Prop) {acc : List PV} {e : VEnv} (hz : acc.length + xs.length ≤ sizeLine) (h0 : P 0 acc e) (hl : ∀ i acc' e', P i acc' e' → acc'.length ≤ acc.length + i)
    (hs : ∀ (i : Nat) (x : PV) (acc : List PV) (e : VEnv), xs[i]? = some x → P i acc e → ∃ e2, setT tg x e = some e2 ∧ ((∃ e3, ft e2 = .ok false e3 ∧ P (i + 1) acc (wipeE e3 vs)) ∨ ∃ e3 v e4, ft e2 = .ok true e3 ∧ fe e3 = .ok (.sh v) e4 ∧ P (i + 1) (acc ++ [v]) (wipeE e4 vs))) :
    ∃ ys e', lcF [] tg ft fe vs xs acc e = .ok ys e' ∧ P xs.length ys e' := by
  have go : ∀ (m i : Nat) (acc' : List PV) (e : VEnv), i + m = xs.length → P i acc' e → ∃ ys e', lcF [] tg ft fe vs (xs.drop i) acc' e = .ok ys e' ∧ P xs.length ys e' := by
    intro m
    induction m with
    | zero =>
      intro i acc' e hi hP
      have : i = xs.length := by omega
      subst this
      rw [List.drop_eq_nil_of_le (Nat.le_refl _)]
      refine ⟨acc', e, ?_, hP⟩
      unfold lcF
      rw [if_pos chkO_nil]
    | succ m ih =>
      intro i acc' e hi hP
      have hlt : i < xs.length := by omega
      rw [List.drop_eq_getElem_cons hlt]
      obtain ⟨e2, h2, h3⟩ := hs i xs[i] acc' e (List.getElem?_eq_getElem hlt) hP
      unfold lcF
      rw [if_pos chkO_nil, h2]
      rcases h3 with ⟨e3, h4, h5⟩ | ⟨e3, v, e4, h4, h5, h6⟩
      · obtain ⟨ys, e', h7, h8⟩ := ih (i + 1) acc' _ (by omega) h5
        refine ⟨ys, e', ?_, h8⟩
        dsimp only
        rw [h4]
        exact h7
      · obtain ⟨ys, e', h7, h8⟩ := ih (i + 1) _ _ (by omega) h6
        refine ⟨ys, e', ?_, h8⟩
        dsimp only
        rw [h4]
        show (fe e3).noEx.bind _ = _
        rw [h5]
        show (if acc'.length < sizeLine then _ else _) = _
        have := hl i acc' e hP
        rw [if_pos (by omega)]
        exact h7
  have := go xs.length 0 acc e (by omega) h0
  simpa using this
/-- each by itself, nothing changes -/
theorem lcF_pure {tg : CTg} {ft : VEnv → Rs Bool} {fe : VEnv → Rs TV} {vs : List Nat} {e : VEnv} (f : PV → Option PV) : ∀ (xs acc : List PV), acc.length + xs.length ≤ sizeLine →
    (∀ x ∈ xs, ∃ e2, setT tg x e = some e2 ∧ ((f x = none ∧ ∃ e3, ft e2 = .ok false e3 ∧ wipeE e3 vs = e) ∨ ∃ e3 v e4, f x = some v ∧ ft e2 = .ok true e3 ∧ fe e3 = .ok (.sh v) e4 ∧ wipeE e4 vs = e)) →
    lcF [] tg ft fe vs xs acc e = .ok (acc ++ xs.filterMap f) e := by
  intro xs
  induction xs with
  | nil =>
    intro acc _ _
    unfold lcF
    rw [if_pos chkO_nil]; simp
  | cons x xs ih =>
    intro acc hz h
    obtain ⟨e2, h2, h3⟩ := h x List.mem_cons_self
    have h' := fun y hy => h y (List.mem_cons_of_mem _ hy)
    simp only [List.length_cons] at hz
    unfold lcF
    rw [if_pos chkO_nil, h2]
    dsimp only
    rcases h3 with ⟨h4, e3, h5, h6⟩ | ⟨e3, v, e4, h4, h5, h6, h7⟩
    · rw [h5, List.filterMap_cons_none h4]
      show lcF [] tg ft fe vs xs acc (wipeE e3 vs) = _
      rw [h6]
      exact ih acc (by omega) h'
    · rw [h5, List.filterMap_cons_some h4]
      show (fe e3).noEx.bind _ = _
      rw [h6]
      show (if acc.length < sizeLine then _ else _) = _
      rw [if_pos (by omega), h7]
      have := ih (acc ++ [v]) (by simp; omega) h'
      rw [this, List.append_assoc]; rfl
theorem forF_inv {tg : CTg} {b : VEnv → Fl} {xs : List PV} (P : Nat → VEnv → Prop) {e : VEnv} (h0 : P 0 e)
    (hs : ∀ (i : Nat) (x : PV) (e : VEnv), xs[i]? = some x → P i e → ∃ e2 e3, setT tg x e = some e2 ∧ (b e2 = .nx e3 ∨ b e2 = .ct e3) ∧ P (i + 1) e3) :
    ∃ e', forF [] tg b xs e = .nx e' ∧ P xs.length e' := by
  have go : ∀ (m i : Nat) (e : VEnv), i + m = xs.length → P i e → ∃ e', forF [] tg b (xs.drop i) e = .nx e' ∧ P xs.length e' := by
    intro m
    induction m with
    | zero =>
      intro i e hi hP
      have : i = xs.length := by omega
      subst this
      rw [List.drop_eq_nil_of_le (Nat.le_refl _)]
      refine ⟨e, ?_, hP⟩
      unfold forF
      rw [if_pos chkO_nil]
    | succ m ih =>
      intro i e hi hP
      have hlt : i < xs.length := by omega
      rw [List.drop_eq_getElem_cons hlt]
      obtain ⟨e2, e3, h2, h3, h4⟩ := hs i xs[i] e (List.getElem?_eq_getElem hlt) hP
      obtain ⟨e', h5, h6⟩ := ih (i + 1) e3 (by omega) h4
      refine ⟨e', ?_, h6⟩
      unfold forF
      rw [if_pos chkO_nil, h2]
      dsimp only
      rcases h3 with h3 | h3
      · rw [h3]; exact h5
      · rw [h3]; exact h5
  have := go xs.length 0 e (by omega) h0
  simpa using this
end PL
set_option autoImplicit false
namespace PL
open PySem PySem.Spec L2
open PyProof.Rows hiding St

/-! ## walking over values: what follows stands behind -/
abbrev VX := Nat → List (Str × PV) → VEnv → Prop
def Sa {α : Type} (X : VX) (r : Rs α) (K : α → VEnv → Prop) : Prop := match r with
  | .ok a e => K a e
  | .ex c fs e => X c fs e
  | .no => False
structure FK where
  nx : VEnv → Prop
  rt : SV → VEnv → Prop
  bk : VEnv → Prop
  ct : VEnv → Prop
  ex : VX
def Ss (D : FK) : Fl → Prop
  | .nx e => D.nx e
  | .rt r e => D.rt r e
  | .bk e => D.bk e
  | .ct e => D.ct e
  | .ex c fs e => D.ex c fs e
  | .no => False
def Sc (X : VX) (r : RsC) (K : SV → VEnv → Prop) : Prop := match r with
  | .ok a e => K a e
  | .ex c fs e => X c fs e
  | .no => False
section
variable {α β : Type} {X : VX} {e : VEnv} {D : FK}
theorem Sa.mono {r : Rs α} {K K' : α → VEnv → Prop} (h : Sa X r K) (k : ∀ a e, K a e → K' a e) : Sa X r K' := by
  cases r with
  | ok a e => exact k _ _ h
  | ex c fs e => exact h
  | no => exact h
theorem Sa_bind {r : Rs α} {f : α → VEnv → Rs β} {K : β → VEnv → Prop} (h : Sa X r fun a e1 => Sa X (f a e1) K) : Sa X (r.bind f) K := by
  cases r <;> exact h
theorem Ss_bind {r : Rs α} {f : α → VEnv → Fl} (h : Sa D.ex r fun a e1 => Ss D (f a e1)) : Ss D (r.toS f) := by
  cases r <;> exact h
theorem Sa_ok {a : α} {K : α → VEnv → Prop} (h : K a e) : Sa X (.ok a e) K := h
theorem Sa_ofO {o : Option α} {a : α} {K : α → VEnv → Prop} (ho : o = some a) (h : K a e) : Sa X (.ofO o e) K := by subst ho; exact h
theorem Sa.get {r : Rs α} {K : α → VEnv → Prop} (h : Sa (fun _ _ _ => False) r K) : ∃ a e, r = .ok a e ∧ K a e := by
  cases r with
  | ok a e => exact ⟨a, e, rfl, h⟩
  | ex c fs e => exact h.elim
  | no => exact h.elim
theorem Sc.get {r : RsC} {K : SV → VEnv → Prop} (h : Sc (fun _ _ _ => False) r K) : ∃ a e, r = .ok a e ∧ K a e := by
  cases r with
  | ok a e => exact ⟨a, e, rfl, h⟩
  | ex c fs e => exact h.elim
  | no => exact h.elim
theorem Sc.of {r : RsC} {a : SV} {e : VEnv} {K : SV → VEnv → Prop} (h : r = .ok a e) (k : K a e) : Sc X r K := by subst h; exact k
theorem Sc.mono {r : RsC} {K K' : SV → VEnv → Prop} (h : Sc X r K) (k : ∀ a e, K a e → K' a e) : Sc X r K' := by
  cases r with
  | ok a e => exact k _ _ h
  | ex c fs e => exact h
  | no => exact h
theorem lineB {n : Nat} (h : Nat.ble n sizeLine = true) : n ≤ sizeLine := Nat.le_of_ble_eq_true h
theorem line6 {n : Nat} (h : n ≤ 1000000) : n ≤ sizeLine := by rw [sizeLine_eq]; omega

/-! ### expressions -/
variable {K : TV → VEnv → Prop} {KL : List TV → VEnv → Prop} {KB : Bool → VEnv → Prop} {KP : List PV → VEnv → Prop} {KO : Option Int → VEnv → Prop} {KI : VSrc → VEnv → Prop}
theorem fVar_s {i : Nat} {v : PV} (h : e[i]? = some (some (.sh v))) (k : K (.sh v) e) : Sa X (fVar i e) K := by unfold fVar; rw [h]; exact k
theorem fVar_a {i : Nat} {b : Bool} {xs : List PV} (h : e[i]? = some (some (.ow b xs))) (k : K (.al i) e) : Sa X (fVar i e) K := by unfold fVar; rw [h]; exact k
theorem fC_s {v : PV} (k : K (.sh v) e) : Sa X (fC v e) K := k
theorem fNil_s (k : KL [] e) : Sa X (fNil e) KL := k
theorem fCons_s {f : VEnv → Rs TV} {g : VEnv → Rs (List TV)} (h : Sa X (f e) fun t e1 => Sa X (g e1) fun ts e2 => KL (t :: ts) e2) : Sa X (fCons f g e) KL := Sa_bind (h.mono fun _ _ z => Sa_bind z)
def kTup (K : TV → VEnv → Prop) (ts : List TV) (e : VEnv) : Prop := ∃ vs, shsOf ts = some vs ∧ vs.length ≤ sizeLine ∧ K (.sh (.tup vs)) e
theorem fTup_s {g : VEnv → Rs (List TV)} (h : Sa X (g e) fun ts e1 => kTup K ts e1) : Sa X (fTup g e) K := Sa_bind (h.mono fun ts e1 ⟨vs, a, b, c⟩ => Sa_ofO (by rw [a]; dsimp only; rw [if_pos b]) c)
theorem kTup_s {ts : List TV} {vs : List PV} (a : shsOf ts = some vs) (b : vs.length ≤ sizeLine) (k : K (.sh (.tup vs)) e) : kTup K ts e := ⟨vs, a, b, k⟩
def kDisp (KP : List PV → VEnv → Prop) (ts : List TV) (e : VEnv) : Prop := ∃ vs, shsOf ts = some vs ∧ vs.length ≤ sizeLine ∧ KP vs e
theorem lDisp_s {g : VEnv → Rs (List TV)} (h : Sa X (g e) fun ts e1 => kDisp KP ts e1) : Sa X (lDisp g e) KP := Sa_bind (h.mono fun ts e1 ⟨vs, a, b, c⟩ => Sa_ofO (by rw [a]; dsimp only; rw [if_pos b]) c)
theorem kDisp_s {ts : List TV} {vs : List PV} (a : shsOf ts = some vs) (b : vs.length ≤ sizeLine) (k : KP vs e) : kDisp KP ts e := ⟨vs, a, b, k⟩
theorem fNew_s {g : VEnv → Rs (List PV)} (h : Sa X (g e) fun xs e1 => K (.sh (.bx .lst xs)) e1) : Sa X (fNew g e) K := Sa_bind h
/-- two values and an operator -/
def kOp (g : PV → PV → Option PV) (K : TV → VEnv → Prop) (t u : TV) (e : VEnv) : Prop := ∃ v w z, view e t = some v ∧ view e u = some w ∧ g v w = some z ∧ K (.sh z) e
theorem fOp_s {g : PV → PV → Option PV} {a b : VEnv → Rs TV} (h : Sa X (a e) fun t e1 => Sa X (b e1) fun u e2 => kOp g K t u e2) : Sa X (fOp g a b e) K :=
  Sa_bind (h.mono fun t e1 z => Sa_bind (z.mono fun u e2 ⟨v, w, z, h1, h2, h3, k⟩ => Sa_ofO (by rw [h1, h2]; dsimp only; rw [h3]) k))
theorem kOp_s {g : PV → PV → Option PV} {v w z : PV} (h : g v w = some z) (k : K (.sh z) e) : kOp g K (.sh v) (.sh w) e := ⟨v, w, z, rfl, rfl, h, k⟩
theorem kOp_a {g : PV → PV → Option PV} {i : Nat} {b : Bool} {xs : List PV} {w z : PV} (hi : e[i]? = some (some (.ow b xs))) (h : g (.bx .lst xs) w = some z) (k : K (.sh z) e) : kOp g K (.al i) (.sh w) e := ⟨_, w, z, by unfold view; dsimp only; rw [hi], rfl, h, k⟩
theorem kOp_b {g : PV → PV → Option PV} {i : Nat} {b : Bool} {xs : List PV} {w z : PV} (hi : e[i]? = some (some (.ow b xs))) (h : g w (.bx .lst xs) = some z) (k : K (.sh z) e) : kOp g K (.sh w) (.al i) e := ⟨w, _, z, rfl, by unfold view; dsimp only; rw [hi], h, k⟩
theorem fTest_s {f : VEnv → Rs TV} (h : Sa X (f e) fun t e1 => ∃ b, t = .sh (.bl b) ∧ KB b e1) : Sa X (fTest f e) KB := Sa_bind (h.mono fun t e1 ⟨b, a, k⟩ => by subst a; exact k)
def kTest (KB : Bool → VEnv → Prop) (t : TV) (e : VEnv) : Prop := ∃ b, t = .sh (.bl b) ∧ KB b e
theorem fTest_k {f : VEnv → Rs TV} (h : Sa X (f e) (kTest KB)) : Sa X (fTest f e) KB := fTest_s h
theorem kTest_s {b : Bool} (k : KB b e) : kTest KB (.sh (.bl b)) e := ⟨b, rfl, k⟩
def kTru (KB : Bool → VEnv → Prop) (t : TV) (e : VEnv) : Prop := ∃ v b, view e t = some v ∧ truG v = some b ∧ KB b e
theorem fTru_k {f : VEnv → Rs TV} (h : Sa X (f e) (kTru KB)) : Sa X (fTru f e) KB := Sa_bind (h.mono fun t e1 ⟨v, b, h1, h2, k⟩ => Sa_ofO (by rw [h1]; exact h2) k)
theorem kTru_b {b : Bool} (k : KB b e) : kTru KB (.sh (.bl b)) e := ⟨_, b, rfl, rfl, k⟩
theorem kTru_s {v : PV} {b : Bool} (h : truG v = some b) (k : KB b e) : kTru KB (.sh v) e := ⟨_, b, rfl, h, k⟩
theorem fAndT_s {t u : VEnv → Rs Bool} (h : Sa X (t e) fun c e1 => if c = true then Sa X (u e1) KB else KB false e1) : Sa X (fAndT t u e) KB := Sa_bind (h.mono fun c e1 z => by cases c <;> exact z)
theorem fOrT_s {t u : VEnv → Rs Bool} (h : Sa X (t e) fun c e1 => if c = true then KB true e1 else Sa X (u e1) KB) : Sa X (fOrT t u e) KB := Sa_bind (h.mono fun c e1 z => by cases c <;> exact z)
theorem fNotT_s {t : VEnv → Rs Bool} (h : Sa X (t e) fun c e1 => KB (!c) e1) : Sa X (fNotT t e) KB := Sa_bind h
theorem fYes_s (k : KB true e) : Sa X (fYes e) KB := k
def kAnd (X : VX) (u : VEnv → Rs TV) (K : TV → VEnv → Prop) (t : TV) (e : VEnv) : Prop := ∃ b, t = .sh (.bl b) ∧ if b = true then Sa X (u e) K else K (.sh (.bl false)) e
def kOr (X : VX) (u : VEnv → Rs TV) (K : TV → VEnv → Prop) (t : TV) (e : VEnv) : Prop := ∃ b, t = .sh (.bl b) ∧ if b = true then K (.sh (.bl true)) e else Sa X (u e) K
theorem fAndV_s {t u : VEnv → Rs TV} (h : Sa X (t e) (kAnd X u K)) : Sa X (fAndV t u e) K := Sa_bind (h.mono fun t e1 ⟨b, a, k⟩ => by subst a; cases b <;> exact k)
theorem fOrV_s {t u : VEnv → Rs TV} (h : Sa X (t e) (kOr X u K)) : Sa X (fOrV t u e) K := Sa_bind (h.mono fun t e1 ⟨b, a, k⟩ => by subst a; cases b <;> exact k)
theorem kAnd_s {u : VEnv → Rs TV} {b : Bool} (h : if b = true then Sa X (u e) K else K (.sh (.bl false)) e) : kAnd X u K (.sh (.bl b)) e := ⟨b, rfl, h⟩
theorem kOr_s {u : VEnv → Rs TV} {b : Bool} (h : if b = true then K (.sh (.bl true)) e else Sa X (u e) K) : kOr X u K (.sh (.bl b)) e := ⟨b, rfl, h⟩
def kNot (K : TV → VEnv → Prop) (t : TV) (e : VEnv) : Prop := ∃ b, t = .sh (.bl b) ∧ K (.sh (.bl (!b))) e
theorem fNotV_s {t : VEnv → Rs TV} (h : Sa X (t e) (kNot K)) : Sa X (fNotV t e) K := Sa_bind (h.mono fun t e1 ⟨b, a, k⟩ => by subst a; exact k)
theorem kNot_s {b : Bool} (k : K (.sh (.bl (!b))) e) : kNot K (.sh (.bl b)) e := ⟨b, rfl, k⟩
theorem fIfE_s {t : VEnv → Rs Bool} {a b : VEnv → Rs TV} (h : Sa X (t e) fun c e1 => if c = true then Sa X (a e1) K else Sa X (b e1) K) : Sa X (fIfE t a b e) K := Sa_bind (h.mono fun c e1 z => by cases c <;> exact z)
/-- a op b op c -/
def kCh2 (X : VX) (g' : PV → PV → Option PV) (c : VEnv → Rs TV) (K : TV → VEnv → Prop) (u : TV) (b : Bool) (e : VEnv) : Prop := if b = true then Sa X (c e) fun x e3 => kOp g' K u x e3 else K (.sh (.bl false)) e
def kCh (X : VX) (g g' : PV → PV → Option PV) (c : VEnv → Rs TV) (K : TV → VEnv → Prop) (t u : TV) (e : VEnv) : Prop := ∃ v w b, view e t = some v ∧ view e u = some w ∧ g v w = some (.bl b) ∧ kCh2 X g' c K u b e
theorem fChain_s {g g' : PV → PV → Option PV} {a b c : VEnv → Rs TV} (h : Sa X (a e) fun t e1 => Sa X (b e1) fun u e2 => kCh X g g' c K t u e2) : Sa X (fChain g g' a b c e) K := by
  refine Sa_bind (h.mono fun t e1 z => Sa_bind (z.mono fun u e2 ⟨v, w, k, h1, h2, h3, h4⟩ => Sa_bind (Sa_ofO (a := k) (by rw [h1, h2]; dsimp only; rw [h3]) ?_)))
  unfold kCh2 at h4
  cases k with
  | true =>
    rw [if_pos rfl] at h4 ⊢
    exact Sa_bind (h4.mono fun x e3 ⟨v, w, z, h1, h2, h3, k⟩ => Sa_ofO (by rw [h1, h2]; dsimp only; rw [h3]) k)
  | false => exact h4
theorem kCh_s {g g' : PV → PV → Option PV} {c : VEnv → Rs TV} {v w : PV} {b : Bool} (h : g v w = some (.bl b)) (k : kCh2 X g' c K (.sh w) b e) : kCh X g g' c K (.sh v) (.sh w) e := ⟨v, w, b, rfl, rfl, h, k⟩
theorem kCh2_s {g' : PV → PV → Option PV} {c : VEnv → Rs TV} {u : TV} {b : Bool} (k : if b = true then Sa X (c e) fun x e3 => kOp g' K u x e3 else K (.sh (.bl false)) e) : kCh2 X g' c K u b e := k
theorem eqv_int' {a b : Int} : PyData.eqv (.int a) (.int b) = decide (a = b) := by
  have := eqv_eqP (p := .int a) (q := .int b) (by rw [pl]) (by rw [pl])
  rw [dat, dat] at this
  rw [this, Bool.eq_iff_iff, eqP_iff, decide_eq_true_iff]
  exact ⟨fun h => by cases h; rfl, fun h => by rw [h]⟩
theorem vdat_pl {v : PV} (h : pl v = true) : vdat v = some (dat v) := by
  cases v with
  | bx b xs => rw [pl] at h; cases h; all_goals (intros; contradiction)
  | _ => unfold vdat; dsimp only; rw [if_pos (pl_pur _ h)]
/-- == of plain values -/
theorem gEqN_pl {neg : Bool} {v w : PV} (h : pl v = true) (g : pl w = true) (d1 : dpt v ≤ 64) (d2 : dpt w ≤ 64) : gEqN neg v w = some (.bl (if neg = true then !eqP v w else eqP v w)) := by
  unfold gEqN
  split
  · rw [eqP_str]
  · rw [vdat_pl h, vdat_pl g]
    dsimp only
    rw [shp_pl h d1, shp_pl g d2, eqv_eqP h g]
    rfl
theorem gEq_int {i j : Int} (k : K (.sh (.bl (decide (i = j)))) e) : kOp (gEqN false) K (.sh (.int i)) (.sh (.int j)) e := by
  refine kOp_s (gEqN_pl (by rw [pl]) (by rw [pl]) (by rw [dpt]; omega; all_goals (intros; contradiction)) (by rw [dpt]; omega; all_goals (intros; contradiction))) ?_
  have : eqP (.int i) (.int j) = decide (i = j) := by
    rw [Bool.eq_iff_iff, eqP_iff, decide_eq_true_iff]
    exact ⟨fun h => by cases h; rfl, fun h => by rw [h]⟩
  rw [this]; exact k
theorem gNe_int {i j : Int} (k : K (.sh (.bl (!decide (i = j)))) e) : kOp (gEqN true) K (.sh (.int i)) (.sh (.int j)) e := by
  refine kOp_s (gEqN_pl (by rw [pl]) (by rw [pl]) (by rw [dpt]; omega; all_goals (intros; contradiction)) (by rw [dpt]; omega; all_goals (intros; contradiction))) ?_
  have : eqP (.int i) (.int j) = decide (i = j) := by
    rw [Bool.eq_iff_iff, eqP_iff, decide_eq_true_iff]
    exact ⟨fun h => by cases h; rfl, fun h => by rw [h]⟩
  rw [this]; exact k
theorem gEq_str {i j : Str} (k : K (.sh (.bl (decide (i = j)))) e) : kOp (gEqN false) K (.sh (.str i)) (.sh (.str j)) e := kOp_s rfl k
theorem gNe_str {i j : Str} (k : K (.sh (.bl (!decide (i = j)))) e) : kOp (gEqN true) K (.sh (.str i)) (.sh (.str j)) e := kOp_s rfl k
theorem gEq_pl {v w : PV} (h : pl v = true) (g : pl w = true) (d1 : dpt v ≤ 64) (d2 : dpt w ≤ 64) (k : K (.sh (.bl (eqP v w))) e) : kOp (gEqN false) K (.sh v) (.sh w) e := kOp_s (gEqN_pl h g d1 d2) k
theorem gNe_pl {v w : PV} (h : pl v = true) (g : pl w = true) (d1 : dpt v ≤ 64) (d2 : dpt w ≤ 64) (k : K (.sh (.bl (!eqP v w))) e) : kOp (gEqN true) K (.sh v) (.sh w) e := kOp_s (gEqN_pl h g d1 d2) k
/-! slices -/
theorem oNo_s (k : KO none e) : Sa X (oNo e) KO := k
def kPt (KO : Option Int → VEnv → Prop) (t : TV) (e : VEnv) : Prop := ∃ i, t = .sh (.int i) ∧ KO (some i) e
theorem oPt_s {f : VEnv → Rs TV} (h : Sa X (f e) (kPt KO)) : Sa X (oPt f e) KO := Sa_bind (h.mono fun t e1 ⟨b, a, k⟩ => by subst a; exact k)
theorem kPt_s {i : Int} (k : KO (some i) e) : kPt KO (.sh (.int i)) e := ⟨i, rfl, k⟩
def kSl (K : TV → VEnv → Prop) (t : TV) (lo hi : Option Int) (e : VEnv) : Prop := ∃ v z, view e t = some v ∧ gSl v lo hi = some z ∧ K (.sh z) e
theorem fSl_s {f : VEnv → Rs TV} {l h : VEnv → Rs (Option Int)} (k : Sa X (f e) fun t e1 => Sa X (l e1) fun lo e2 => Sa X (h e2) fun hi e3 => kSl K t lo hi e3) : Sa X (fSl f l h e) K :=
  Sa_bind (k.mono fun t e1 z => Sa_bind (z.mono fun lo e2 z => Sa_bind (z.mono fun hi e3 ⟨v, z, h1, h2, k⟩ => Sa_ofO (by rw [h1]; dsimp only; rw [h2]) k)))
theorem kSl_s {v z : PV} {lo hi : Option Int} (h : gSl v lo hi = some z) (k : K (.sh z) e) : kSl K (.sh v) lo hi e := ⟨v, z, rfl, h, k⟩
theorem kSl_a {i : Nat} {b : Bool} {xs : List PV} {z : PV} {lo hi : Option Int} (hi' : e[i]? = some (some (.ow b xs))) (h : gSl (.bx .lst xs) lo hi = some z) (k : K (.sh z) e) : kSl K (.al i) lo hi e := ⟨_, z, by unfold view; dsimp only; rw [hi'], h, k⟩
def kUn (g : PV → Option PV) (K : TV → VEnv → Prop) (t : TV) (e : VEnv) : Prop := ∃ v z, view e t = some v ∧ g v = some z ∧ K (.sh z) e
theorem fUn_s {g : PV → Option PV} {f : VEnv → Rs TV} (h : Sa X (f e) (kUn g K)) : Sa X (fUn g f e) K := Sa_bind (h.mono fun t e1 ⟨v, z, h1, h2, k⟩ => Sa_ofO (by rw [h1]; dsimp only; rw [h2]) k)
theorem kUn_s {g : PV → Option PV} {v z : PV} (h : g v = some z) (k : K (.sh z) e) : kUn g K (.sh v) e := ⟨v, z, rfl, h, k⟩
theorem kUn_a {g : PV → Option PV} {i : Nat} {b : Bool} {xs : List PV} {z : PV} (hi : e[i]? = some (some (.ow b xs))) (h : g (.bx .lst xs) = some z) (k : K (.sh z) e) : kUn g K (.al i) e := ⟨_, z, by unfold view; dsimp only; rw [hi], h, k⟩
/-! built-ins -/
def kCB (g : List PV → Option PV) (K : TV → VEnv → Prop) (ts : List TV) (e : VEnv) : Prop := ∃ vs z, views e ts = some vs ∧ g vs = some z ∧ K (.sh z) e
theorem fCB_s {g : List PV → Option PV} {f : VEnv → Rs (List TV)} (h : Sa X (f e) (kCB g K)) : Sa X (fCB g f e) K := Sa_bind (h.mono fun t e1 ⟨v, z, h1, h2, k⟩ => Sa_ofO (by rw [h1]; dsimp only; rw [h2]) k)
theorem kCB_s {g : List PV → Option PV} {ts : List TV} {vs : List PV} {z : PV} (h1 : views e ts = some vs) (h2 : g vs = some z) (k : K (.sh z) e) : kCB g K ts e := ⟨vs, z, h1, h2, k⟩
def klCB (g : List PV → Option (List PV)) (KP : List PV → VEnv → Prop) (ts : List TV) (e : VEnv) : Prop := ∃ vs z, views e ts = some vs ∧ g vs = some z ∧ KP z e
theorem lCB_s {g : List PV → Option (List PV)} {f : VEnv → Rs (List TV)} (h : Sa X (f e) (klCB g KP)) : Sa X (lCB g f e) KP := Sa_bind (h.mono fun t e1 ⟨v, z, h1, h2, k⟩ => Sa_ofO (by rw [h1]; exact h2) k)
theorem klCB_s {g : List PV → Option (List PV)} {ts : List TV} {vs z : List PV} (h1 : views e ts = some vs) (h2 : g vs = some z) (k : KP z e) : klCB g KP ts e := ⟨vs, z, h1, h2, k⟩
def kCBL (g : List PV → Option PV) (K : TV → VEnv → Prop) (xs : List PV) (e : VEnv) : Prop := ∃ z, g xs = some z ∧ K (.sh z) e
theorem fCBL_s {g : List PV → Option PV} {f : VEnv → Rs (List PV)} (h : Sa X (f e) (kCBL g K)) : Sa X (fCBL g f e) K := Sa_bind (h.mono fun t e1 ⟨z, h2, k⟩ => Sa_ofO (by rw [h2]) k)
theorem kCBL_s {g : List PV → Option PV} {xs : List PV} {z : PV} (h2 : g xs = some z) (k : K (.sh z) e) : kCBL g K xs e := ⟨z, h2, k⟩
def klCBL (g : List PV → Option (List PV)) (KP : List PV → VEnv → Prop) (xs : List PV) (e : VEnv) : Prop := ∃ z, g xs = some z ∧ KP z e
theorem lCBL_s {g : List PV → Option (List PV)} {f : VEnv → Rs (List PV)} (h : Sa X (f e) (klCBL g KP)) : Sa X (lCBL g f e) KP := Sa_bind (h.mono fun t e1 ⟨z, h2, k⟩ => Sa_ofO h2 k)
theorem klCBL_s {g : List PV → Option (List PV)} {xs z : List PV} (h2 : g xs = some z) (k : KP z e) : klCBL g KP xs e := ⟨z, h2, k⟩
def kCat (KP : List PV → VEnv → Prop) (t : TV) (ys : List PV) (e : VEnv) : Prop := ∃ xs, view e t = some (.bx .lst xs) ∧ xs.length + ys.length ≤ sizeLine ∧ KP (xs ++ ys) e
theorem lCatEL_s {f : VEnv → Rs TV} {g : VEnv → Rs (List PV)} (h : Sa X (f e) fun t e1 => Sa X (g e1) fun ys e2 => kCat KP t ys e2) : Sa X (lCatEL f g e) KP :=
  Sa_bind (h.mono fun t e1 z => Sa_bind (z.mono fun ys e2 ⟨xs, h1, h2, k⟩ => Sa_ofO (by rw [h1]; dsimp only; rw [if_pos h2]) k))
theorem kCat_s {xs ys : List PV} (h2 : xs.length + ys.length ≤ sizeLine) (k : KP (xs ++ ys) e) : kCat KP (.sh (.bx .lst xs)) ys e := ⟨xs, rfl, h2, k⟩
theorem kCat_a {i : Nat} {b : Bool} {xs ys : List PV} (hi : e[i]? = some (some (.ow b xs))) (h2 : xs.length + ys.length ≤ sizeLine) (k : KP (xs ++ ys) e) : kCat KP (.al i) ys e := ⟨xs, by unfold view; dsimp only; rw [hi], h2, k⟩
def kEqL (neg : Bool) (K : TV → VEnv → Prop) (t : TV) (ys : List PV) (e : VEnv) : Prop := ∃ v d, view e t = some v ∧ vdat v = some d ∧ (purs ys && shp d && shp (.list (dats ys))) = true ∧ K (.sh (.bl (if neg then !PyData.eqv d (.list (dats ys)) else PyData.eqv d (.list (dats ys))))) e
theorem fEqL_s {neg : Bool} {f : VEnv → Rs TV} {g : VEnv → Rs (List PV)} (h : Sa X (f e) fun t e1 => Sa X (g e1) fun ys e2 => kEqL neg K t ys e2) : Sa X (fEqL neg f g e) K :=
  Sa_bind (h.mono fun t e1 z => Sa_bind (z.mono fun ys e2 ⟨v, d, h1, h2, h3, k⟩ => Sa_ofO (by rw [h1]; dsimp only; rw [h2]; dsimp only; rw [if_pos h3]) k))
/-- lists of data, equal or not -/
theorem kEqL_v {neg : Bool} {t : TV} {xs ys : List PV} (hv : view e t = some (.bx .lst xs)) (h : pls xs = true) (g : pls ys = true) (d1 : dpts xs ≤ 63) (d2 : dpts ys ≤ 63) (k : K (.sh (.bl (if neg then !eqP (.tup xs) (.tup ys) else eqP (.tup xs) (.tup ys)))) e) : kEqL neg K t ys e := by
  refine ⟨_, .list (dats xs), hv, ?_, ?_, ?_⟩
  · unfold vdat; dsimp only; rw [if_pos (pls_purs xs h)]
  · rw [pls_purs ys g, shp_list h d1, shp_list g d2]; rfl
  · have e2 : PyData.eqv (.list (dats xs)) (.list (dats ys)) = eqP (.tup xs) (.tup ys) := by
      have := eqv_eqP (p := .tup xs) (q := .tup ys) (by rw [pl]; exact h) (by rw [pl]; exact g)
      rw [dat, dat, PyData.eqv] at this
      rw [PyData.eqv]; exact this
    rw [e2]; exact k
def kIxL (K : TV → VEnv → Prop) (xs : List PV) (t : TV) (e : VEnv) : Prop := ∃ k v, t = .sh (.int k) ∧ atI xs k = some v ∧ K (.sh v) e
theorem fIxL_s {f : VEnv → Rs TV} {g : VEnv → Rs (List PV)} (h : Sa X (g e) fun xs e1 => Sa X (f e1) fun t e2 => kIxL K xs t e2) : Sa X (fIxL g f e) K :=
  Sa_bind (h.mono fun t e1 z => Sa_bind (z.mono fun ys e2 ⟨k, v, h1, h2, k'⟩ => by subst h1; exact Sa_ofO (by dsimp only; rw [h2]; rfl) k'))
theorem kIxL_s {xs : List PV} {j : Int} {v : PV} (h : atI xs j = some v) (k : K (.sh v) e) : kIxL K xs (.sh (.int j)) e := ⟨j, v, rfl, h, k⟩
def kRep (KP : List PV → VEnv → Prop) (xs : List PV) (t : TV) (e : VEnv) : Prop := ∃ k, t = .sh (.int k) ∧ (0 ≤ k ∧ k ≤ 1000 ∧ xs.length ≤ 1000) ∧ KP (List.replicate k.toNat xs).flatten e
theorem lRepL_s {f : VEnv → Rs TV} {g : VEnv → Rs (List PV)} (h : Sa X (g e) fun xs e1 => Sa X (f e1) fun t e2 => kRep KP xs t e2) : Sa X (lRepL g f e) KP :=
  Sa_bind (h.mono fun t e1 z => Sa_bind (z.mono fun ys e2 ⟨k, h1, h2, k'⟩ => by subst h1; exact Sa_ofO (by dsimp only; rw [if_pos h2]) k'))
def kJoin (X : VX) (g : VEnv → Rs (List PV)) (K : TV → VEnv → Prop) (t : TV) (e : VEnv) : Prop := ∃ sep, t = .sh (.str sep) ∧ Sa X (g e) fun xs e2 => ∃ ys, strsOf xs = some ys ∧ (ys.map (·.length)).sum + ys.length * sep.length ≤ 16777216 ∧ K (.sh (.str (Str.join sep ys))) e2
theorem fJoinL_s {f : VEnv → Rs TV} {g : VEnv → Rs (List PV)} (h : Sa X (f e) (kJoin X g K)) : Sa X (fJoinL f g e) K :=
  Sa_bind (h.mono fun t e1 ⟨sep, h1, h2⟩ => by subst h1; exact Sa_bind (h2.mono fun xs e2 ⟨ys, h3, h4, k⟩ => Sa_ofO (by rw [h3]; dsimp only; rw [if_pos h4]) k))
theorem kJoin_s {g : VEnv → Rs (List PV)} {sep : Str} (h : Sa X (g e) fun xs e2 => ∃ ys, strsOf xs = some ys ∧ (ys.map (·.length)).sum + ys.length * sep.length ≤ 16777216 ∧ K (.sh (.str (Str.join sep ys))) e2) : kJoin X g K (.sh (.str sep)) e := ⟨sep, rfl, h⟩
def kKIx (ys : List Str) (K : TV → VEnv → Prop) (t : TV) (e : VEnv) : Prop := ∃ z j, t = .sh (.str z) ∧ (ys.findIdx? fun y => decide (y = z)) = some j ∧ K (.sh (.int (j : Nat))) e
theorem fKIx_s {ys : List Str} {f : VEnv → Rs TV} (h : Sa X (f e) (kKIx ys K)) : Sa X (fKIx ys f e) K := Sa_bind (h.mono fun t e1 ⟨z, j, h1, h2, k⟩ => by subst h1; exact Sa_ofO (by dsimp only; rw [h2]; rfl) k)
theorem kKIx_s {ys : List Str} {z : Str} {j : Nat} (h : (ys.findIdx? fun y => decide (y = z)) = some j) (k : K (.sh (.int (j : Nat))) e) : kKIx ys K (.sh (.str z)) e := ⟨z, j, rfl, h, k⟩
theorem fFrz_s {i : Nat} {v : PV} (h : e[i]? = some (some (.sh v))) (k : K (.sh v) e) : Sa X (fFrz i e) K := by unfold fFrz; rw [h]; exact k
theorem fFrz_o {i : Nat} {xs : List PV} (h : e[i]? = some (some (.ow false xs))) (k : K (.sh (.bx .lst xs)) (e.set i (some (.sh (.bx .lst xs))))) : Sa X (fFrz i e) K := by unfold fFrz; rw [h]; exact k
/-! a list that changes -/
def kMut (keep : Bool) (g : List PV → List PV → Option (List PV × PV)) (i : Nat) (K : TV → VEnv → Prop) (ts : List TV) (e : VEnv) : Prop := ∃ b xs vs ys z, e[i]? = some (some (.ow b xs)) ∧ (if keep = true then shsOf ts else views e ts) = some vs ∧ g xs vs = some (ys, z) ∧ K (.sh z) (e.set i (some (.ow b ys)))
theorem owAt_of {i : Nat} {b : Bool} {xs : List PV} (h : e[i]? = some (some (.ow b xs))) : owAt e i = some (b, xs) := by unfold owAt; rw [h]
theorem fMut_s {keep : Bool} {g : List PV → List PV → Option (List PV × PV)} {i : Nat} {f : VEnv → Rs (List TV)} {b : Bool} {xs : List PV} (h : e[i]? = some (some (.ow b xs))) (k : Sa X (f e) (kMut keep g i K)) : Sa X (fMut keep g i f e) K := by
  unfold fMut
  rw [owAt_of h]
  refine Sa_bind (k.mono fun ts e1 ⟨b, xs, vs, ys, z, h1, h2, h3, k⟩ => ?_)
  rw [owAt_of h1, h2]
  dsimp only
  rw [h3]
  exact k
theorem kMut_k {g : List PV → List PV → Option (List PV × PV)} {i : Nat} {ts : List TV} {b : Bool} {xs vs ys : List PV} {z : PV} (h1 : e[i]? = some (some (.ow b xs))) (h2 : shsOf ts = some vs) (h3 : g xs vs = some (ys, z)) (k : K (.sh z) (e.set i (some (.ow b ys)))) : kMut true g i K ts e := ⟨b, xs, vs, ys, z, h1, h2, h3, k⟩
theorem kMut_v {g : List PV → List PV → Option (List PV × PV)} {i : Nat} {ts : List TV} {b : Bool} {xs vs ys : List PV} {z : PV} (h1 : e[i]? = some (some (.ow b xs))) (h2 : views e ts = some vs) (h3 : g xs vs = some (ys, z)) (k : K (.sh z) (e.set i (some (.ow b ys)))) : kMut false g i K ts e := ⟨b, xs, vs, ys, z, h1, h2, h3, k⟩
/-! calls -/
variable {KS : SV → VEnv → Prop}
def kBack (KS : SV → VEnv → Prop) (ts : List TV) (e1 : VEnv) (r : SV) (e2 : VEnv) : Prop := ∃ e3, back e1 ts e2 = some e3 ∧ KS r e3
def xBack (X : VX) (ts : List TV) (e1 : VEnv) : VX := fun c fs e2 => ∃ e3, back e1 ts e2 = some e3 ∧ X c fs e3
def nodB : List Nat → Bool
  | [] => true
  | i :: is => !is.elem i && nodB is
theorem nodB_nodup : ∀ {is : List Nat}, nodB is = true → is.Nodup
  | [], _ => List.nodup_nil
  | i :: is, h => by
    unfold nodB at h
    rw [Bool.and_eq_true] at h
    exact List.nodup_cons.mpr ⟨fun z => by
      have := List.elem_eq_true_of_mem z
      rw [this] at h; simp at h, nodB_nodup h.2⟩
theorem callR_s {f : List SV → RsC} {ts : List TV} {vs : List SV} (h0 : nodB (als ts) = true) (h2 : svs e ts = some vs) (k : Sc (xBack X ts e) (f vs) (kBack KS ts e)) : Sa X (callR f ts e) KS := by
  have h1 := nodB_nodup h0
  unfold callR
  rw [if_pos h1, h2]
  dsimp only
  cases q : f vs with
  | ok r e2 =>
    rw [q] at k
    obtain ⟨e3, h3, k⟩ := k
    dsimp only
    rw [h3]; exact k
  | ex c fs e2 =>
    rw [q] at k
    obtain ⟨e3, h3, k⟩ := k
    dsimp only
    rw [h3]; exact k
  | no => rw [q] at k; exact k
theorem kBack_s {ts : List TV} {e1 e2 e3 : VEnv} {r : SV} (h : back e1 ts e2 = some e3) (k : KS r e3) : kBack KS ts e1 r e2 := ⟨e3, h, k⟩
theorem fCall_s {n : Nat} {f : List SV → RsC} {fa : VEnv → Rs (List TV)} {dv : List PV} (h : Sa X (fa e) fun ts e1 => ts.length + dv.length = n ∧ Sa X (callR f (ts ++ dv.map .sh) e1) KS) : Sa X (fCall n f fa dv e) KS :=
  Sa_bind (h.mono fun ts e1 ⟨a, b⟩ => by rw [if_pos a]; exact b)
theorem fCallK_s {n m k : Nat} {f : List SV → RsC} {fa fk : VEnv → Rs (List TV)} (h : Sa X (fa e) fun ts e1 => Sa X (fk e1) fun us e2 => (ts.length = n ∧ us.length = m ∧ n + m = k) ∧ Sa X (callR f (ts ++ us) e2) KS) : Sa X (fCallK n m k f fa fk e) KS :=
  Sa_bind (h.mono fun ts e1 z => Sa_bind (z.mono fun us e2 ⟨a, b⟩ => by rw [if_pos a]; exact b))
def kSh (K : TV → VEnv → Prop) (r : SV) (e : VEnv) : Prop := K (.sh (svl r)) e
theorem fSh_s {f : VEnv → Rs SV} (h : Sa X (f e) (kSh K)) : Sa X (fSh f e) K := Sa_bind h
theorem kSh_s {v : PV} (k : K (.sh v) e) : kSh K (.sh v) e := k
theorem kSh_o {b : Bool} {xs : List PV} (k : K (.sh (.bx .lst xs)) e) : kSh K (.ow b xs) e := k
/-! what is walked, comprehensions -/
def kItr (KI : VSrc → VEnv → Prop) (t : TV) (e : VEnv) : Prop := ∃ v xs, t = .sh v ∧ itemsOf v = some xs ∧ KI ⟨xs, []⟩ e
theorem iAnyF_s {f : VEnv → Rs TV} (h : Sa X (f e) (kItr KI)) : Sa X (iAnyF f e) KI := Sa_bind (h.mono fun t e1 ⟨v, xs, h1, h2, k⟩ => by subst h1; exact Sa_ofO (by dsimp only; rw [h2]; rfl) k)
theorem kItr_s {v : PV} {xs : List PV} (h : itemsOf v = some xs) (k : KI ⟨xs, []⟩ e) : kItr KI (.sh v) e := ⟨v, xs, rfl, h, k⟩
theorem iNwF_s {g : VEnv → Rs (List PV)} (h : Sa X (g e) fun xs e1 => KI ⟨xs, []⟩ e1) : Sa X (iNwF g e) KI := Sa_bind h
def kRg1 (KI : VSrc → VEnv → Prop) (t : TV) (e : VEnv) : Prop := ∃ j, t = .sh (.int j) ∧ (-4611686018427387904 ≤ j ∧ j < 4611686018427387904) ∧ KI ⟨(List.range j.toNat).map fun i => .int (i : Nat), []⟩ e
theorem iRg1F_s {f : VEnv → Rs TV} (h : Sa X (f e) (kRg1 KI)) : Sa X (iRg1F f e) KI := Sa_bind (h.mono fun t e1 ⟨j, h1, h2, k⟩ => by subst h1; exact Sa_ofO (by dsimp only; rw [if_pos h2]) k)
theorem kRg1_s {j : Int} (h : -4611686018427387904 ≤ j ∧ j < 4611686018427387904) (k : KI ⟨(List.range j.toNat).map fun i => .int (i : Nat), []⟩ e) : kRg1 KI (.sh (.int j)) e := ⟨j, rfl, h, k⟩
def kRg2 (KI : VSrc → VEnv → Prop) (t u : TV) (e : VEnv) : Prop := ∃ i j, t = .sh (.int i) ∧ u = .sh (.int j) ∧ (-4611686018427387904 ≤ i ∧ i < 4611686018427387904 ∧ -4611686018427387904 ≤ j ∧ j < 4611686018427387904) ∧ KI ⟨(List.range (j - i).toNat).map fun k => .int (i + (k : Nat)), []⟩ e
theorem iRg2F_s {f g : VEnv → Rs TV} (h : Sa X (f e) fun t e1 => Sa X (g e1) fun u e2 => kRg2 KI t u e2) : Sa X (iRg2F f g e) KI := Sa_bind (h.mono fun t e1 z => Sa_bind (z.mono fun u e2 ⟨i, j, h1, h0, h2, k⟩ => by subst h1; subst h0; exact Sa_ofO (by dsimp only; rw [if_pos h2]) k))
theorem kRg2_s {i j : Int} (h : -4611686018427387904 ≤ i ∧ i < 4611686018427387904 ∧ -4611686018427387904 ≤ j ∧ j < 4611686018427387904) (k : KI ⟨(List.range (j - i).toNat).map fun k => .int (i + (k : Nat)), []⟩ e) : kRg2 KI (.sh (.int i)) (.sh (.int j)) e := ⟨i, j, rfl, rfl, h, k⟩
def kZip (KI : VSrc → VEnv → Prop) (t u : TV) (e : VEnv) : Prop := ∃ v w xs, t = .sh v ∧ u = .sh w ∧ zipS v w = some xs ∧ KI ⟨xs, []⟩ e
theorem iZpF_s {f g : VEnv → Rs TV} (h : Sa X (f e) fun t e1 => Sa X (g e1) fun u e2 => kZip KI t u e2) : Sa X (iZpF f g e) KI := Sa_bind (h.mono fun t e1 z => Sa_bind (z.mono fun u e2 ⟨i, j, xs, h1, h0, h2, k⟩ => by subst h1; subst h0; exact Sa_ofO (by dsimp only; rw [h2]; rfl) k))
theorem kZip_s {v w : PV} {xs : List PV} (h : zipS v w = some xs) (k : KI ⟨xs, []⟩ e) : kZip KI (.sh v) (.sh w) e := ⟨v, w, xs, rfl, rfl, h, k⟩
/-- a comprehension goes through its items -/
def kLc (tg : CTg) (ft : VEnv → Rs Bool) (fe : VEnv → Rs TV) (vs : List Nat) (KP : List PV → VEnv → Prop) (src : VSrc) (e1 : VEnv) : Prop := ∃ ys e2, lcF src.own tg ft fe vs src.items [] (wipeE e1 vs) = .ok ys e2 ∧ KP ys (mergeE e1 e2 vs)
theorem lLc_s {fi : VEnv → Rs VSrc} {tg : CTg} {ft : VEnv → Rs Bool} {fe : VEnv → Rs TV} {vs : List Nat} (h : Sa X (fi e) (kLc tg ft fe vs KP)) : Sa X (lLc fi tg ft fe vs e) KP := Sa_bind (h.mono fun src e1 ⟨ys, e2, h1, k⟩ => by rw [h1]; exact k)
/-- an invariant: of the turn, what is found, the names -/
theorem kLc_i {tg : CTg} {ft : VEnv → Rs Bool} {fe : VEnv → Rs TV} {vs : List Nat} {xs : List PV} {e1 : VEnv} (P : Nat → List PV → VEnv → Prop) (hz : xs.length ≤ 1000000) (h0 : P 0 [] (wipeE e1 vs)) (hl : ∀ i acc e, P i acc e → acc.length ≤ i)
    (hs : ∀ (i : Nat) (x : PV) (acc : List PV) (e : VEnv) (T : TV → VEnv → Prop) (F : VEnv → Prop), xs[i]? = some x → P i acc e → (∀ v e', P (i + 1) (acc ++ [v]) (wipeE e' vs) → T (.sh v) e') → (∀ e', P (i + 1) acc (wipeE e' vs) → F e') →
      ∃ e2, setT tg x e = some e2 ∧ Sa (fun _ _ _ => False) (ft e2) fun b e3 => if b = true then Sa (fun _ _ _ => False) (fe e3) T else F e3)
    (k : ∀ ys e', P xs.length ys e' → KP ys (mergeE e1 e' vs)) : kLc tg ft fe vs KP ⟨xs, []⟩ e1 := by
  obtain ⟨ys, e', h1, h2⟩ := lcF_inv (tg := tg) (ft := ft) (fe := fe) (vs := vs) (xs := xs) P (acc := []) (e := wipeE e1 vs) (by have := line6 hz; simpa using this) h0 (fun i acc e h => by simpa using hl i acc e h) fun i x acc e hx hP => by
    obtain ⟨e2, h1, h2⟩ := hs i x acc e (fun t e' => ∃ v, t = .sh v ∧ P (i + 1) (acc ++ [v]) (wipeE e' vs)) (fun e' => P (i + 1) acc (wipeE e' vs)) hx hP (fun v e' h => ⟨v, rfl, h⟩) fun e' h => h
    obtain ⟨b, e3, h3, h4⟩ := h2.get
    refine ⟨e2, h1, ?_⟩
    cases b with
    | false => exact .inl ⟨e3, h3, h4⟩
    | true =>
      rw [if_pos rfl] at h4
      obtain ⟨t, e4, h5, v, rfl, h6⟩ := h4.get
      exact .inr ⟨e3, v, e4, h3, h5, h6⟩
  exact ⟨ys, e', h1, k ys e' h2⟩
/-- each item by itself -/
theorem kLc_p {tg : CTg} {ft : VEnv → Rs Bool} {fe : VEnv → Rs TV} {vs : List Nat} {xs : List PV} {e1 : VEnv} (f : PV → Option PV) (hz : xs.length ≤ 1000000)
    (hs : ∀ (x : PV) (T : TV → VEnv → Prop) (F : VEnv → Prop), x ∈ xs → (∀ v e', f x = some v → wipeE e' vs = wipeE e1 vs → T (.sh v) e') → (∀ e', f x = none → wipeE e' vs = wipeE e1 vs → F e') →
      ∃ e2, setT tg x (wipeE e1 vs) = some e2 ∧ Sa (fun _ _ _ => False) (ft e2) fun b e3 => if b = true then Sa (fun _ _ _ => False) (fe e3) T else F e3)
    (k : KP (xs.filterMap f) (mergeE e1 (wipeE e1 vs) vs)) : kLc tg ft fe vs KP ⟨xs, []⟩ e1 := by
  refine ⟨_, _, lcF_pure f xs [] (by have := line6 hz; simpa using this) fun x hx => ?_, by simpa using k⟩
  obtain ⟨e2, h1, h2⟩ := hs x (fun t e' => ∃ v, t = .sh v ∧ f x = some v ∧ wipeE e' vs = wipeE e1 vs) (fun e' => f x = none ∧ wipeE e' vs = wipeE e1 vs) hx (fun v e' a b => ⟨v, rfl, a, b⟩) fun e' a b => ⟨a, b⟩
  obtain ⟨b, e3, h3, h4⟩ := h2.get
  refine ⟨e2, h1, ?_⟩
  cases b with
  | false => exact .inl ⟨h4.1, e3, h3, h4.2⟩
  | true =>
    rw [if_pos rfl] at h4
    obtain ⟨t, e4, h5, v, rfl, h6, h7⟩ := h4.get
    exact .inr ⟨e3, v, e4, h6, h3, h5, h7⟩

/-! ### statements -/
theorem sNext_s (k : D.nx e) : Ss D (sNext e) := k
theorem sSeq_s {t u : VEnv → Fl} (h : Ss { D with nx := fun e1 => Ss D (u e1) } (t e)) : Ss D (sSeq t u e) := by
  unfold sSeq
  cases q : t e <;> (rw [q] at h; exact h)
theorem sDrop_s {f : VEnv → Rs TV} (h : Sa D.ex (f e) fun _ e1 => D.nx e1) : Ss D (sDrop f e) := Ss_bind h
theorem sIf_s {c : VEnv → Rs Bool} {t u : VEnv → Fl} (h : Sa D.ex (c e) fun b e1 => if b = true then Ss D (t e1) else Ss D (u e1)) : Ss D (sIf c t u e) := Ss_bind (h.mono fun b e1 z => by cases b <;> exact z)
def kRet (D : FK) (t : TV) (e : VEnv) : Prop := (∃ v, t = .sh v ∧ D.rt (.sh v) e) ∨ ∃ i xs, t = .al i ∧ e[i]? = some (some (.ow false xs)) ∧ D.rt (.ow false xs) (e.set i none)
theorem sRet_s {f : VEnv → Rs TV} (h : Sa D.ex (f e) (kRet D)) : Ss D (sRet f e) := Ss_bind (h.mono fun t e1 z => by
  rcases z with ⟨v, rfl, k⟩ | ⟨i, xs, rfl, h1, k⟩
  · exact k
  · dsimp only; rw [h1]; exact k)
theorem kRet_s {v : PV} (k : D.rt (.sh v) e) : kRet D (.sh v) e := .inl ⟨v, rfl, k⟩
theorem kRet_a {i : Nat} {xs : List PV} (h : e[i]? = some (some (.ow false xs))) (k : D.rt (.ow false xs) (e.set i none)) : kRet D (.al i) e := .inr ⟨i, xs, rfl, h, k⟩
theorem sRetN_s (k : D.rt (.sh .non) e) : Ss D (sRetN e) := k
theorem sRetL_s {g : VEnv → Rs (List PV)} (h : Sa D.ex (g e) fun xs e1 => D.rt (.ow false xs) e1) : Ss D (sRetL g e) := Ss_bind h
theorem sRetC_s {f : VEnv → Rs SV} (h : Sa D.ex (f e) fun r e1 => D.rt r e1) : Ss D (sRetC f e) := Ss_bind h
def kSet (D : FK) (i : Nat) (t : TV) (e : VEnv) : Prop := ∃ v, t = .sh v ∧ free e i = true ∧ D.nx (e.set i (some (.sh v)))
theorem sSet_s {i : Nat} {f : VEnv → Rs TV} (h : Sa D.ex (f e) (kSet D i)) : Ss D (sSet i f e) := Ss_bind (h.mono fun t e1 ⟨v, h1, h2, k⟩ => by subst h1; dsimp only; rw [if_pos h2]; exact k)
theorem kSet_s {i : Nat} {v : PV} (h : free e i = true) (k : D.nx (e.set i (some (.sh v)))) : kSet D i (.sh v) e := ⟨v, rfl, h, k⟩
theorem sSetL_s {i : Nat} {g : VEnv → Rs (List PV)} (h : Sa D.ex (g e) fun xs e1 => free e1 i = true ∧ D.nx (e1.set i (some (.ow false xs)))) : Ss D (sSetL i g e) := Ss_bind (h.mono fun xs e1 ⟨h1, k⟩ => by rw [if_pos h1]; exact k)
def kMine (D : FK) (i : Nat) (r : SV) (e : VEnv) : Prop := free e i = true ∧ D.nx (e.set i (some (mine r)))
theorem sSetC_s {i : Nat} {f : VEnv → Rs SV} (h : Sa D.ex (f e) (kMine D i)) : Ss D (sSetC i f e) := Ss_bind (h.mono fun xs e1 ⟨h1, k⟩ => by rw [if_pos h1]; exact k)
theorem kMine_s {i : Nat} {v : PV} (h : free e i = true) (k : D.nx (e.set i (some (.sh v)))) : kMine D i (.sh v) e := ⟨h, k⟩
theorem kMine_o {i : Nat} {b : Bool} {xs : List PV} (h : free e i = true) (k : D.nx (e.set i (some (.ow false xs)))) : kMine D i (.ow b xs) e := ⟨h, k⟩
def kAsg (D : FK) (tg : CTg) (t : TV) (e : VEnv) : Prop := ∃ v e2, t = .sh v ∧ setT tg v e = some e2 ∧ D.nx e2
theorem sAsg_s {f : VEnv → Rs TV} {tg : CTg} (h : Sa D.ex (f e) (kAsg D tg)) : Ss D (sAsg f tg e) := Ss_bind (h.mono fun t e1 ⟨v, e2, h1, h2, k⟩ => by subst h1; dsimp only; rw [h2]; exact k)
theorem kAsg_s {tg : CTg} {v : PV} {e2 : VEnv} (h : setT tg v e = some e2) (k : D.nx e2) : kAsg D tg (.sh v) e := ⟨v, e2, rfl, h, k⟩
def kAsgL (D : FK) (is : List Nat) (t : TV) (e : VEnv) : Prop := ∃ xs e2, t = .sh (.bx .lst xs) ∧ setsT is xs e = some e2 ∧ D.nx e2
theorem sAsgL_s {f : VEnv → Rs TV} {is : List Nat} (h : Sa D.ex (f e) (kAsgL D is)) : Ss D (sAsgL f is e) := Ss_bind (h.mono fun t e1 ⟨v, e2, h1, h2, k⟩ => by subst h1; dsimp only; rw [h2]; exact k)
theorem kAsgL_s {is : List Nat} {xs : List PV} {e2 : VEnv} (h : setsT is xs e = some e2) (k : D.nx e2) : kAsgL D is (.sh (.bx .lst xs)) e := ⟨xs, e2, rfl, h, k⟩
def kPar (D : FK) (i j : Nat) (ts : List TV) (e : VEnv) : Prop := ∃ v w e2, ts = [.sh v, .sh w] ∧ setsT [i, j] [v, w] e = some e2 ∧ D.nx e2
theorem sPar_s {i j : Nat} {f : VEnv → Rs (List TV)} (h : Sa D.ex (f e) (kPar D i j)) : Ss D (sPar i j f e) := Ss_bind (h.mono fun t e1 ⟨v, w, e2, h1, h2, k⟩ => by subst h1; dsimp only; rw [h2]; exact k)
theorem kPar_s {i j : Nat} {v w : PV} {e2 : VEnv} (h : setsT [i, j] [v, w] e = some e2) (k : D.nx e2) : kPar D i j [.sh v, .sh w] e := ⟨v, w, e2, rfl, h, k⟩
def kStL2 (D : FK) (i : Nat) (z : PV) (u : TV) (e : VEnv) : Prop := ∃ m b xs j, u = .sh (.int m) ∧ e[i]? = some (some (.ow b xs)) ∧ ixN xs.length m = some j ∧ D.nx (e.set i (some (.ow b (xs.set j z))))
def kStL (D : FK) (i : Nat) (k : VEnv → Rs TV) (t : TV) (e : VEnv) : Prop := ∃ z b xs, t = .sh z ∧ e[i]? = some (some (.ow b xs)) ∧ Sa D.ex (k e) (kStL2 D i z)
theorem sStL_s {i : Nat} {k v : VEnv → Rs TV} (h : Sa D.ex (v e) (kStL D i k)) : Ss D (sStL i k v e) := by
  refine Ss_bind (h.mono fun t e1 ⟨z, b, xs, h1, h2, h3⟩ => ?_)
  subst h1
  dsimp only
  rw [owAt_of h2]
  refine Ss_bind (h3.mono fun u e2 ⟨m, b, xs, j, h4, h5, h6, k⟩ => ?_)
  subst h4
  dsimp only
  rw [owAt_of h5]
  dsimp only
  rw [h6]; exact k
theorem kStL_s {i : Nat} {k : VEnv → Rs TV} {z : PV} {b : Bool} {xs : List PV} (h : e[i]? = some (some (.ow b xs))) (h2 : Sa D.ex (k e) (kStL2 D i z)) : kStL D i k (.sh z) e := ⟨z, b, xs, rfl, h, h2⟩
theorem kStL2_s {i : Nat} {z : PV} {m : Int} {b : Bool} {xs : List PV} {j : Nat} (h : e[i]? = some (some (.ow b xs))) (h2 : ixN xs.length m = some j) (k : D.nx (e.set i (some (.ow b (xs.set j z))))) : kStL2 D i z (.sh (.int m)) e := ⟨m, b, xs, j, rfl, h, h2, k⟩
/-- a loop goes through its items; where it ends early, what it ends with -/
def kFor (D : FK) (tg : CTg) (b : VEnv → Fl) (src : VSrc) (e : VEnv) : Prop := src.own = [] ∧ Ss D (forF [] tg b src.items e)
theorem sFor_s {fi : VEnv → Rs VSrc} {tg : CTg} {b : VEnv → Fl} (h : Sa D.ex (fi e) (kFor D tg b)) : Ss D (sFor fi tg b e) := Ss_bind (h.mono fun src e1 ⟨h1, h2⟩ => by rw [h1]; exact h2)
/-- an invariant; each turn may go on or end -/
theorem kFor_i {tg : CTg} {b : VEnv → Fl} {xs : List PV} (P : Nat → VEnv → Prop) (h0 : P 0 e)
    (hs : ∀ (i : Nat) (x : PV) (e : VEnv) (N : VEnv → Prop), xs[i]? = some x → P i e → (∀ e', P (i + 1) e' → N e') → ∃ e2, setT tg x e = some e2 ∧ Ss { D with nx := N, ct := N, bk := D.nx } (b e2))
    (hd : ∀ e, P xs.length e → D.nx e) : kFor D tg b ⟨xs, []⟩ e := by
  refine ⟨rfl, ?_⟩
  have go : ∀ (m i : Nat) (e : VEnv), i + m = xs.length → P i e → Ss D (forF [] tg b (xs.drop i) e) := by
    intro m
    induction m with
    | zero =>
      intro i e hi hP
      have : i = xs.length := by omega
      subst this
      rw [List.drop_eq_nil_of_le (Nat.le_refl _)]
      unfold forF
      rw [if_pos chkO_nil]
      exact hd e hP
    | succ m ih =>
      intro i e hi hP
      have hlt : i < xs.length := by omega
      rw [List.drop_eq_getElem_cons hlt]
      obtain ⟨e2, h2, h3⟩ := hs i xs[i] e (fun e' => P (i + 1) e') (List.getElem?_eq_getElem hlt) hP fun _ h => h
      unfold forF
      rw [if_pos chkO_nil, h2]
      dsimp only
      cases q : b e2 with
      | nx e3 => rw [q] at h3; exact ih (i + 1) e3 (by omega) h3
      | ct e3 => rw [q] at h3; exact ih (i + 1) e3 (by omega) h3
      | bk e3 => rw [q] at h3; exact h3
      | rt r e3 => rw [q] at h3; exact h3
      | ex c fs e3 => rw [q] at h3; exact h3
      | no => rw [q] at h3; exact h3
  have := go xs.length 0 e (by omega) h0
  simpa using this
/-! ### defs -/
def DRt (K : SV → VEnv → Prop) (X : VX) (vs : List SV) : FK := ⟨fun e => K (.sh .non) (maskP vs e), fun r e => K r (maskP vs e), fun _ => False, fun _ => False, fun c fs e => X c fs (maskP vs e)⟩
theorem fDef_s {N : Nat} {b : VEnv → Fl} {vs : List SV} {KS : SV → VEnv → Prop} (h : Ss (DRt KS X vs) (b (vs.map some ++ List.replicate (N - vs.length) none))) : Sc X (fDef N b vs) KS := by
  unfold fDef
  cases q : b (vs.map some ++ List.replicate (N - vs.length) none) <;> (rw [q] at h; exact h)
end
/-! the same, the names written out -/
section
variable {X : VX} {e e2 : VEnv} {D : FK} {K : TV → VEnv → Prop}
theorem kSet_e {i : Nat} {v : PV} (h : free e i = true) (h2 : e.set i (some (.sh v)) = e2) (k : D.nx e2) : kSet D i (.sh v) e := ⟨v, rfl, h, h2 ▸ k⟩
theorem kMine_e {i : Nat} {v : PV} (h : free e i = true) (h2 : e.set i (some (.sh v)) = e2) (k : D.nx e2) : kMine D i (.sh v) e := ⟨h, h2 ▸ k⟩
theorem kMine_p {i : Nat} {b : Bool} {xs : List PV} (h : free e i = true) (h2 : e.set i (some (.ow false xs)) = e2) (k : D.nx e2) : kMine D i (.ow b xs) e := ⟨h, h2 ▸ k⟩
theorem kStL2_e {i : Nat} {z : PV} {m : Int} {b : Bool} {xs : List PV} {j : Nat} (h : e[i]? = some (some (.ow b xs))) (h2 : ixN xs.length m = some j) (h3 : e.set i (some (.ow b (xs.set j z))) = e2) (k : D.nx e2) : kStL2 D i z (.sh (.int m)) e := ⟨m, b, xs, j, rfl, h, h2, h3 ▸ k⟩
theorem kSetL_e {i : Nat} {xs : List PV} (h : free e i = true) (h2 : e.set i (some (.ow false xs)) = e2) (k : D.nx e2) : free e i = true ∧ D.nx (e.set i (some (.ow false xs))) := ⟨h, h2 ▸ k⟩
theorem fFrz_e {i : Nat} {xs : List PV} (h : e[i]? = some (some (.ow false xs))) (h2 : e.set i (some (.sh (.bx .lst xs))) = e2) (k : K (.sh (.bx .lst xs)) e2) : Sa X (fFrz i e) K := by subst h2; unfold fFrz; rw [h]; exact k
end
/-- the law's end -/
theorem law_end {b : VEnv → Fl} {e : VEnv} (h : Ss ⟨fun _ => False, fun r _ => r = .sh (.bl true), fun _ => False, fun _ => False, fun _ _ _ => False⟩ (b e)) : ∃ e', b e = .rt (.sh (.bl true)) e' := by
  cases q : b e with
  | rt r e' => rw [q] at h; cases h; exact ⟨e', rfl⟩
  | nx e' => rw [q] at h; exact h.elim
  | bk e' => rw [q] at h; exact h.elim
  | ct e' => rw [q] at h; exact h.elim
  | ex c fs e' => rw [q] at h; exact h.elim
  | no => rw [q] at h; exact h.elim
end PL
set_option autoImplicit false
namespace PL
open PySem PySem.Spec L2
open PyProof.Rows hiding St
theorem gIn_pl {neg : Bool} {v : PV} {ys : List PV} (h : pl v = true) (g : pls ys = true) (d1 : dpt v ≤ 64) (d2 : dpts ys ≤ 63) : gIn neg v (.tup ys) = some (.bl (if neg then !(ys.any fun z => eqP z v) else ys.any fun z => eqP z v)) := by
  unfold gIn
  dsimp only
  rw [vdat_pl h]
  dsimp only
  rw [pls_purs ys g, shp_pl h d1, shp_tuple g d2, any_eqv h ys g]
  rfl
theorem gInL_pl {neg : Bool} {v : PV} {ys : List PV} (h : pl v = true) (g : pls ys = true) (d1 : dpt v ≤ 64) (d2 : dpts ys ≤ 63) : gIn neg v (.bx .lst ys) = some (.bl (if neg then !(ys.any fun z => eqP z v) else ys.any fun z => eqP z v)) := by
  unfold gIn
  dsimp only
  rw [vdat_pl h]
  dsimp only
  rw [pls_purs ys g, shp_pl h d1, shp_list g d2, any_eqv h ys g]
  rfl
theorem pls_strs {ys : List Str} (g : ∀ y ∈ ys, PyData.strOk y = true) : pls (ys.map PV.str) = true := pls_all fun x hx => by obtain ⟨y, hy, rfl⟩ := List.mem_map.mp hx; exact pl_str (g y hy)
theorem dpts_strs (ys : List Str) : dpts (ys.map PV.str) = 0 := Nat.le_zero.mp (dpts_all (n := 0) fun x hx => by obtain ⟨y, hy, rfl⟩ := List.mem_map.mp hx; rw [dpt]; exact Nat.le_refl _; all_goals (intros; contradiction))
theorem dpt_str (z : Str) : dpt (.str z) = 0 := by rw [dpt]; all_goals (intros; contradiction)
section
variable {K : TV → VEnv → Prop} {e : VEnv}
theorem gIn_strs (ys : List Str) {z : Str} (h : PyData.strOk z = true) (g : ∀ y ∈ ys, PyData.strOk y = true) (k : K (.sh (.bl (decide (z ∈ ys)))) e) : kOp (gIn false) K (.sh (.str z)) (.sh (.tup (ys.map PV.str))) e :=
  kOp_s (gIn_pl (pl_str h) (pls_strs g) (by rw [dpt_str]; omega) (by rw [dpts_strs]; omega)) (by rw [if_neg Bool.false_ne_true, any_str]; exact k)
theorem gNotIn_strs (ys : List Str) {z : Str} (h : PyData.strOk z = true) (g : ∀ y ∈ ys, PyData.strOk y = true) (k : K (.sh (.bl (!decide (z ∈ ys)))) e) : kOp (gIn true) K (.sh (.str z)) (.sh (.tup (ys.map PV.str))) e :=
  kOp_s (gIn_pl (pl_str h) (pls_strs g) (by rw [dpt_str]; omega) (by rw [dpts_strs]; omega)) (by rw [if_pos rfl, any_str]; exact k)
end
theorem boolsOf_all (g : PV → Bool) : ∀ xs : List PV, boolsOf (xs.map fun x => .bl (g x)) = some (xs.map g)
  | [] => rfl
  | x :: r => by rw [List.map_cons, boolsOf, boolsOf_all g r]; rfl
theorem all_id (g : PV → Bool) : ∀ xs : List PV, (xs.map g).all id = xs.all g
  | [] => rfl
  | x :: r => by rw [List.map_cons, List.all_cons, List.all_cons, all_id g r]; rfl
theorem any_id (g : PV → Bool) : ∀ xs : List PV, (xs.map g).any id = xs.any g
  | [] => rfl
  | x :: r => by rw [List.map_cons, List.any_cons, List.any_cons, any_id g r]; rfl
section
variable {K : TV → VEnv → Prop} {tg : CTg} {ft : VEnv → Rs Bool} {fe : VEnv → Rs TV} {vs : List Nat} {xs : List PV} {e1 : VEnv}
/-- all([.. for .. in ..]), item by item -/
theorem kAll_g (g : PV → Bool) (hz : xs.length ≤ 1000000)
    (hs : ∀ (x : PV) (T : TV → VEnv → Prop) (F : VEnv → Prop), x ∈ xs → (∀ e', wipeE e' vs = wipeE e1 vs → T (.sh (.bl (g x))) e') → ∃ e2, setT tg x (wipeE e1 vs) = some e2 ∧ Sa (fun _ _ _ => False) (ft e2) fun b e3 => if b = true then Sa (fun _ _ _ => False) (fe e3) T else F e3)
    (k : K (.sh (.bl (xs.all g))) (mergeE e1 (wipeE e1 vs) vs)) : kLc tg ft fe vs (kCBL gAllB K) ⟨xs, []⟩ e1 := by
  refine kLc_p (fun x => some (.bl (g x))) hz (fun x T F hx hT _ => hs x T F hx fun e' h => hT _ e' rfl h) ?_
  refine kCBL_s (z := .bl (xs.all g)) ?_ k
  rw [List.filterMap_eq_map']
  unfold gAllB
  rw [boolsOf_all, Option.map_some, all_id]
theorem kAny_g (g : PV → Bool) (hz : xs.length ≤ 1000000)
    (hs : ∀ (x : PV) (T : TV → VEnv → Prop) (F : VEnv → Prop), x ∈ xs → (∀ e', wipeE e' vs = wipeE e1 vs → T (.sh (.bl (g x))) e') → ∃ e2, setT tg x (wipeE e1 vs) = some e2 ∧ Sa (fun _ _ _ => False) (ft e2) fun b e3 => if b = true then Sa (fun _ _ _ => False) (fe e3) T else F e3)
    (k : K (.sh (.bl (xs.any g))) (mergeE e1 (wipeE e1 vs) vs)) : kLc tg ft fe vs (kCBL gAnyB K) ⟨xs, []⟩ e1 := by
  refine kLc_p (fun x => some (.bl (g x))) hz (fun x T F hx hT _ => hs x T F hx fun e' h => hT _ e' rfl h) ?_
  refine kCBL_s (z := .bl (xs.any g)) ?_ k
  rw [List.filterMap_eq_map']
  unfold gAnyB
  rw [boolsOf_all, Option.map_some, any_id]
/-- all of them true -/
theorem kAll_t (hz : xs.length ≤ 1000000)
    (hs : ∀ (x : PV) (T : TV → VEnv → Prop) (F : VEnv → Prop), x ∈ xs → (∀ e', wipeE e' vs = wipeE e1 vs → T (.sh (.bl true)) e') → ∃ e2, setT tg x (wipeE e1 vs) = some e2 ∧ Sa (fun _ _ _ => False) (ft e2) fun b e3 => if b = true then Sa (fun _ _ _ => False) (fe e3) T else F e3)
    (k : K (.sh (.bl true)) (mergeE e1 (wipeE e1 vs) vs)) : kLc tg ft fe vs (kCBL gAllB K) ⟨xs, []⟩ e1 :=
  kAll_g (fun _ => true) hz hs (by rw [show xs.all (fun _ => true) = true from List.all_eq_true.mpr fun _ _ => rfl]; exact k)
theorem gSlT_to' {X : VX} {e : VEnv} {xs : List PV} {k : Nat} (h : K (.sh (.tup (xs.take k))) e) : kSl K (.sh (.tup xs)) none (some (k : Int)) e := kSl_s (by unfold gSl; dsimp only; rw [pcut_to]) h
theorem gSlT_from' {X : VX} {e : VEnv} {xs : List PV} {k : Nat} (h : K (.sh (.tup (xs.drop k))) e) : kSl K (.sh (.tup xs)) (some (k : Int)) none e := kSl_s (by unfold gSl; dsimp only; rw [pcut_from]) h
end
theorem ite_nt {α : Prop} {β : Prop} (h : β) : if (!true) = true then α else β := h
theorem ite_nf {α : Prop} {β : Prop} (h : α) : if (!false) = true then α else β := h
section
variable {K : TV → VEnv → Prop} {e : VEnv}
theorem gLen_str {z : Str} (h : z.length ≤ 1000000) (k : K (.sh (.int z.length)) e) : kCB gLen K [.sh (.str z)] e := kCB_s rfl (by unfold gLen; dsimp only; rw [if_pos (line6 h)]) k
theorem gLt_tup {xs ys : List PV} (h : pl (.tup xs) = true) (g : pl (.tup ys) = true) (d1 : dpt (.tup xs) ≤ 64) (d2 : dpt (.tup ys) ≤ 64) (c : cmpD (dat (.tup xs)) (dat (.tup ys)) = true) (k : K (.sh (.bl (ltD (dat (.tup xs)) (dat (.tup ys))))) e) : kOp gLt K (.sh (.tup xs)) (.sh (.tup ys)) e :=
  kOp_s (by unfold gLt; dsimp only; rw [pl_pur _ h, pl_pur _ g, shp_pl h d1, shp_pl g d2, c]; rfl) k
end
theorem ite_no {b : Bool} {α β : Prop} (h : b = false) (k : β) : if b = true then α else β := by subst h; exact k
theorem ite_yes {b : Bool} {α β : Prop} (h : b = true) (k : α) : if b = true then α else β := by subst h; exact k
theorem ite_nno {b : Bool} {α β : Prop} (h : b = true) (k : β) : if (!b) = true then α else β := by subst h; exact k
theorem ite_nyes {b : Bool} {α β : Prop} (h : b = false) (k : α) : if (!b) = true then α else β := by subst h; exact k
theorem keysOf_map {f : List SV → RsC} {key : PV → PV} : ∀ {xs : List PV}, (∀ x ∈ xs, (∃ e', f [.sh x] = .ok (.sh (key x)) e') ∧ pur (key x) = true) → keysOf f xs = some (xs.map key)
  | [], _ => rfl
  | x :: xs, h => by
    obtain ⟨⟨e', h1⟩, h2⟩ := h x List.mem_cons_self
    unfold keysOf
    rw [h1]
    dsimp only
    rw [if_pos h2, keysOf_map fun y hy => h y (List.mem_cons_of_mem _ hy)]
    rfl
section
variable {X : VX} {e : VEnv} {KP : List PV → VEnv → Prop}
def kSrtK (f : List SV → RsC) (KP : List PV → VEnv → Prop) (t : TV) (e : VEnv) : Prop := ∃ (key : PV → PV) (v : PV) (xs : List PV), view e t = some v ∧ seqOf v = some xs ∧ purs xs = true ∧ (∀ x ∈ xs, (∃ e', f [.sh x] = .ok (.sh (key x)) e') ∧ pur (key x) = true) ∧ Keys (xs.map key) ∧ KP (sortK xs (xs.map key)) e
theorem lSrtK_s {f : List SV → RsC} {fe : VEnv → Rs TV} (h : Sa X (fe e) (kSrtK f KP)) : Sa X (lSrtK f fe e) KP :=
  Sa_bind (h.mono fun t e1 ⟨key, v, xs, h1, h2, h3, h4, h5, k⟩ => Sa_ofO (by rw [h1]; dsimp only; rw [h2]; dsimp only; rw [if_pos h3, keysOf_map h4]; dsimp only; rw [if_pos h5]) k)
theorem kSrtK_s {f : List SV → RsC} {v : PV} {xs : List PV} (key : PV → PV) (h1 : seqOf v = some xs) (h2 : purs xs = true) (h3 : ∀ x ∈ xs, (∃ e', f [.sh x] = .ok (.sh (key x)) e') ∧ pur (key x) = true) (h4 : Keys (xs.map key)) (k : KP (sortK xs (xs.map key)) e) : kSrtK f KP (.sh v) e := ⟨key, v, xs, rfl, h1, h2, h3, h4, k⟩
end
theorem vdat_lst {xs : List PV} (h : pls xs = true) : vdat (.bx .lst xs) = some (.list (dats xs)) := by unfold vdat; dsimp only; rw [if_pos (pls_purs xs h)]
theorem gEqN_lst {neg : Bool} {xs ys : List PV} (h : pls xs = true) (g : pls ys = true) (d1 : dpts xs ≤ 63) (d2 : dpts ys ≤ 63) : gEqN neg (.bx .lst xs) (.bx .lst ys) = some (.bl (if neg = true then !eqP (.tup xs) (.tup ys) else eqP (.tup xs) (.tup ys))) := by
  have e2 : PyData.eqv (.list (dats xs)) (.list (dats ys)) = eqP (.tup xs) (.tup ys) := by
    have := eqv_eqP (p := .tup xs) (q := .tup ys) (by rw [pl]; exact h) (by rw [pl]; exact g)
    rw [dat, dat, PyData.eqv] at this
    rw [PyData.eqv]; exact this
  unfold gEqN
  dsimp only
  rw [vdat_lst h, vdat_lst g]
  dsimp only
  rw [shp_list h d1, shp_list g d2, e2]
  rfl
end PL
set_option autoImplicit false
namespace PL
open PySem PySem.Spec L2
open PyProof.Rows hiding St
def gMinX : List PV → Option PV
  | [.int i, .int j] => some (.int (if j < i then j else i))
  | [.tup xs, .tup ys] => if (pur (.tup xs) && pur (.tup ys) && shp (dat (.tup xs)) && shp (dat (.tup ys)) && cmpD (dat (.tup ys)) (dat (.tup xs))) = true then some (if ltD (dat (.tup ys)) (dat (.tup xs)) = true then .tup ys else .tup xs) else none
  | _ => none
theorem cg_minX : CG cMinX gMinX := by
  intro M F vs ps z Q nr fr hv hz k
  unfold gMinX at hz
  split at hz
  · obtain ⟨p, q, rfl, hp, hq⟩ := vvs2 hv
    cases hz; rw [hp.int, hq.int]; exact k _ _ _ (.refl nr fr) (by rw [RV])
  · obtain ⟨p, q, rfl, hp, hq⟩ := vvs2 hv
    split at hz
    · rename_i h
      simp only [Bool.and_eq_true] at h
      obtain ⟨⟨⟨⟨h1, h2⟩, h3⟩, h4⟩, h5⟩ := h
      rw [hp.pur h1, hq.pur h2]
      unfold cMinX
      dsimp only
      refine ⟨h1, h2, h3, h4, h5, ?_⟩
      split at hz
      · rename_i hl; cases hz; rw [if_pos hl]; exact k _ _ _ (.refl nr fr) (repF_self h2)
      · rename_i hl; cases hz; rw [if_neg hl]; exact k _ _ _ (.refl nr fr) (repF_self h1)
    · cases hz
  · cases hz
theorem pl_pair (x y : Int) : pl (.tup [.int x, .int y]) = true := by rw [pl, pls, pls, pls, pl, pl]; rfl
theorem dpt_pair (x y : Int) : dpt (.tup [.int x, .int y]) ≤ 64 := by
  rw [dpt]
  have := dpts_all (n := 0) (xs := [.int x, .int y]) fun z hz => by
    simp only [List.mem_cons, List.not_mem_nil, or_false] at hz
    rcases hz with rfl | rfl <;> (rw [dpt]; exact Nat.le_refl _; all_goals (intros; contradiction))
  omega
theorem cmp_pair (a b c d : Int) : cmpD (dat (.tup [.int a, .int b])) (dat (.tup [.int c, .int d])) = true := by
  simp only [dat, dats, cmpD, cmpDs, eqv_int', decide_eq_true_eq]
  split
  · split
    · rfl
    · rfl
  · rfl
theorem lt_pair (a b c d : Int) : ltD (dat (.tup [.int a, .int b])) (dat (.tup [.int c, .int d])) = decide (a < c ∨ (a = c ∧ b < d)) := by
  simp only [dat, dats, ltD, ltDs, eqv_int', decide_eq_true_eq]
  by_cases h1 : a = c
  · subst h1
    by_cases h2 : b = d
    · subst h2; simp
    · simp [h2]
  · simp [h1]
section
variable {K : TV → VEnv → Prop} {e : VEnv}
/-- min of two pairs of numbers -/
theorem gMin_pair {a b c d : Int} (k : K (.sh (if c < a ∨ (c = a ∧ d < b) then .tup [.int c, .int d] else .tup [.int a, .int b])) e) : kCB gMinX K [.sh (.tup [.int a, .int b]), .sh (.tup [.int c, .int d])] e := by
  refine kCB_s rfl (z := if c < a ∨ (c = a ∧ d < b) then .tup [.int c, .int d] else .tup [.int a, .int b]) ?_ k
  unfold gMinX
  dsimp only
  rw [pur_pair, pur_pair, shp_pl (pl_pair a b) (dpt_pair a b), shp_pl (pl_pair c d) (dpt_pair c d), cmp_pair, lt_pair]
  show (some _ : Option PV) = _
  by_cases h : c < a ∨ (c = a ∧ d < b)
  · rw [if_pos (decide_eq_true h), if_pos h]
  · rw [if_neg (by rw [decide_eq_false h]; decide), if_neg h]
end
end PL
set_option autoImplicit false
set_option maxHeartbeats 4000000
namespace PL
open PySem PySem.Spec L2
open PyProof.Rows hiding St
/-- so many words, none twice, as they are sorted -/
def NmR (n : Nat) (r : PV) : Prop := ∃ ws us : List Str, r = .tup (ws.map PV.str) ∧ ws.length = n ∧ ws.Nodup ∧ (∀ w ∈ ws, Wd 8 w) ∧ ws.map PV.str = sortP (us.map PV.str)
/-! ## words, pages -/
/-- a tuple of texts, of such, of such -/
def S0 (p : PV) : Prop := ∃ us : List Str, p = .tup (us.map PV.str) ∧ us.length ≤ 8 ∧ ∀ u ∈ us, PyData.strOk u = true ∧ u.length ≤ 8
/-- texts that rise -/
def RisS (us : List Str) : Prop := us.Pairwise fun a b => a.cps.toList < b.cps.toList
/-- rising words; unlike words -/
def S1R (p : PV) : Prop := ∃ us : List Str, p = .tup (us.map PV.str) ∧ us.length ≤ 8 ∧ (∀ u ∈ us, Wd 8 u) ∧ RisS us
def SN (p : PV) : Prop := ∃ us : List Str, p = .tup (us.map PV.str) ∧ us.length ≤ 8 ∧ (∀ u ∈ us, Wd 8 u) ∧ us.Nodup ∧ us ≠ []
theorem S1R.s0 {p : PV} (h : S1R p) : S0 p := let ⟨us, e, l, w, _⟩ := h; ⟨us, e, l, fun u hu => ⟨(w u hu).ok, (w u hu).2.1⟩⟩
theorem SN.s0 {p : PV} (h : SN p) : S0 p := let ⟨us, e, l, w, _⟩ := h; ⟨us, e, l, fun u hu => ⟨(w u hu).ok, (w u hu).2.1⟩⟩
def S1 (p : PV) : Prop := S0 p ∧ (p = .tup [.str ""] ∨ S1R p)
def S2 (p : PV) : Prop := ∃ ps : List PV, p = .tup ps ∧ ps.length ≤ 3 ∧ ∀ q ∈ ps, S1 q
def S3 (p : PV) : Prop := ∃ ps : List PV, p = .tup ps ∧ ps.length ≤ 3 ∧ ∀ q ∈ ps, S2 q
theorem strOk_nil : PyData.strOk "" = true := strOk_of (by decide)
theorem s1_cut : S1 (.tup [.str ""]) := ⟨⟨[""], rfl, by simp, fun u hu => by rw [List.mem_singleton] at hu; subst hu; exact ⟨strOk_nil, by decide⟩⟩, .inl rfl⟩
theorem s1_sub {us ws : List Str} (h : us.Sublist ws) (l : ws.length = 8) (w : ∀ x ∈ ws, Wd 8 x) (r : RisS ws) : S1R (.tup (us.map PV.str)) := ⟨us, rfl, by have := h.length_le; omega, fun u hu => w u (h.subset hu), List.Pairwise.sublist h r⟩
/-- what stands behind the kind of a page -/
inductive KR : Str → List PV → Prop where
  | pm (k : Str) (hk : k = "print" ∨ k = "mix") (w : Str) (hw : Wd 8 w) (m : Int) (h0 : 0 < m) (h1 : m ≤ 1000000000000000000000000000001) : KR k [.str w, .int m]
  | mc (k : Str) (hk : k = "mend" ∨ k = "cut") (w x : Str) (hw : Wd 8 w) (hx : Wd 8 x) : KR k [.str w, .str x]
  | turn (w : Str) (hw : Wd 8 w) : KR "turn" [.str w]
  | bind (m : Int) (h0 : 0 < m) (h1 : m ≤ 1000000000000000000000000000001) : KR "bind" [.int m]
  | seen (w : Str) (hw : Wd 8 w) (v : PV) (hv : S3 v) : KR "seen" [.str w, v]
  | lot (v x : PV) (hv : S1R v) (hx : SN x) : KR "lot" [v, x]
def Pg (p : PV) : Prop := ∃ (d n : Int) (k : Str) (rest : List PV), p = .tup (.int d :: .int n :: .str k :: rest) ∧ 0 ≤ d ∧ d ≤ 99999 ∧ 0 ≤ n ∧ n ≤ 999 ∧ KR k rest
/-- a page before it is bent: its many is not the greatest -/
def PgS (p : PV) : Prop := ∃ (d n : Int) (k : Str) (rest : List PV), p = .tup (.int d :: .int n :: .str k :: rest) ∧ 0 ≤ d ∧ d ≤ 99999 ∧ 0 ≤ n ∧ n ≤ 999 ∧ KR k rest ∧ ∀ (w : Str) (m : Int), rest = [.str w, .int m] → m ≤ 1000000000000000000000000000000
theorem PgS.pg {p : PV} (h : PgS p) : Pg p := let ⟨d, n, k, r, a, b, c, e, f, g, _⟩ := h; ⟨d, n, k, r, a, b, c, e, f, g⟩
theorem atI_in {xs : List PV} {i : Int} (h0 : 0 ≤ i) (h1 : i < xs.length) : ∃ p, atI xs i = some p ∧ p ∈ xs := by
  obtain ⟨n, rfl⟩ := Int.eq_ofNat_of_zero_le h0
  exact ⟨xs[n]'(by omega), atI_nat (List.getElem?_eq_getElem _), List.getElem_mem _⟩
def kds : List Str := ["print", "mend", "turn", "mix", "cut", "bind", "seen", "lot"]
theorem kds_ok : ∀ k ∈ kds, PyData.strOk k = true := by
  intro k hk
  refine strOk_of ?_
  have : ∀ k ∈ kds, ∀ c ∈ k.cps.toList, c < 1114112 := by decide
  exact this k hk
theorem eqP_int {a b : Int} : eqP (.int a) (.int b) = decide (a = b) := by
  rw [Bool.eq_iff_iff, eqP_iff, decide_eq_true_iff]
  exact ⟨fun h => by cases h; rfl, fun h => by rw [h]⟩
theorem eqv_int {a b : Int} : PyData.eqv (.int a) (.int b) = decide (a = b) := by
  have := eqv_eqP (p := .int a) (q := .int b) (by rw [pl]) (by rw [pl])
  rw [dat, dat, eqP_int] at this
  exact this
theorem kidx_ok : ∀ k ∈ kds, kds[kds.idxOf k]? = some k ∧ ∀ m, m < kds.idxOf k → kds[m]? ≠ some k := by decide
theorem kidx_inj {k l : Str} (hk : k ∈ kds) (hl : l ∈ kds) (e : kds.idxOf k = kds.idxOf l) : k = l := by
  have h1 := (kidx_ok k hk).1
  have h2 := (kidx_ok l hl).1
  rw [e, h2] at h1
  exact (Option.some.inj h1).symm
/-- what stands for a page in an order -/
def stV : PV → PV
  | .tup (.int d :: .int n :: .str k :: rest) => .tup [.int d, .int n, .int (kds.idxOf k : Nat), .tup rest]
  | p => p
def ahd (p q : PV) : Bool := ltD (dat (stV p)) (dat (stV q))
def typ (k : Str) : List Kd := if k = "print" ∨ k = "mix" then [.s, .i] else if k = "mend" ∨ k = "cut" then [.s, .s] else if k = "turn" then [.s] else if k = "bind" then [.i] else if k = "seen" then [.s, .t (.t (.t .s))] else [.t .s, .t .s]
inductive HasL : List Kd → List PV → Prop where
  | nil : HasL [] []
  | cons {k : Kd} {ks : List Kd} {x : PV} {xs : List PV} (h : HasK k x) (t : HasL ks xs) : HasL (k :: ks) (x :: xs)
theorem HasL.len : ∀ {ks : List Kd} {xs : List PV}, HasL ks xs → xs.length = ks.length
  | _, _, .nil => rfl
  | _, _, .cons _ t => by rw [List.length_cons, List.length_cons, t.len]
theorem HasL.get : ∀ {ks : List Kd} {xs ys : List PV}, HasL ks xs → HasL ks ys → ∀ (i : Nat) (x y : PV), xs[i]? = some x → ys[i]? = some y → ∃ k, HasK k x ∧ HasK k y
  | _, _, _, .nil, _, i, x, y, h, _ => by simp at h
  | _, _, _, .cons a t, .cons b u, 0, x, y, h, g => by simp at h g; subst h; subst g; exact ⟨_, a, b⟩
  | _, _, _, .cons a t, .cons b u, i + 1, x, y, h, g => HasL.get t u i x y (by simpa using h) (by simpa using g)
theorem HasL.cmp : ∀ {ks : List Kd} {xs ys : List PV}, HasL ks xs → HasL ks ys → cmpDs (dats xs) (dats ys) = true
  | _, _, _, .nil, .nil => by rw [dats, cmpDs]; intros; contradiction
  | _, _, _, .cons a t, .cons b u => by
    rw [dats, dats, cmpDs]
    split
    · exact t.cmp u
    · exact hasK_cmp _ _ _ a b
theorem s0_k {p : PV} (h : S0 p) : HasK (.t .s) p := by
  obtain ⟨us, rfl, _⟩ := h
  exact hasKs_all fun x hx => by obtain ⟨u, _, rfl⟩ := List.mem_map.mp hx; trivial
theorem s2_k {p : PV} (h : S2 p) : HasK (.t (.t .s)) p := by
  obtain ⟨ps, rfl, _, h⟩ := h
  exact hasKs_all fun x hx => s0_k (h x hx).1
theorem s3_k {p : PV} (h : S3 p) : HasK (.t (.t (.t .s))) p := by
  obtain ⟨ps, rfl, _, h⟩ := h
  exact hasKs_all fun x hx => s2_k (h x hx)
/-- plain, of a depth, of a length of text -/
def Pl (n B : Nat) (p : PV) : Prop := pl p = true ∧ tl p = true ∧ dpt p ≤ n ∧ shn p ≤ B
theorem pl_tup {n B L : Nat} {ps : List PV} (h : ∀ x ∈ ps, Pl n B x) (hl : ps.length ≤ L) : Pl (n + 1) ((B + 2) * L + 3) (.tup ps) := by
  refine ⟨by rw [pl]; exact pls_all fun x hx => (h x hx).1, by rw [tl]; exact tls_all fun x hx => (h x hx).2.1, ?_, ?_⟩
  · rw [dpt]; have := dpts_all (n := n) fun x hx => (h x hx).2.2.1; omega
  · rw [shn]
    have h1 := shns_all (n := B) fun x hx => (h x hx).2.2.2
    have h2 := Nat.mul_le_mul_left (B + 2) hl
    omega
theorem Pl.up {n m B C : Nat} {p : PV} (h : Pl n B p) (e : n ≤ m) (f : B ≤ C) : Pl m C p := ⟨h.1, h.2.1, by have := h.2.2.1; omega, by have := h.2.2.2; omega⟩
theorem pl_word {u : Str} (h : PyData.strOk u = true) (l : u.length ≤ 8) : Pl 0 82 (.str u) := ⟨pl_str h, tl_str h, by rw [dpt]; exact Nat.le_refl _; all_goals (intros; contradiction), by rw [shn]; omega⟩
theorem s0_pl {p : PV} (h : S0 p) : Pl 1 675 p := by
  obtain ⟨us, rfl, hl, h⟩ := h
  exact pl_tup (L := 8) (fun x hx => by obtain ⟨u, hu, rfl⟩ := List.mem_map.mp hx; exact pl_word (h u hu).1 (h u hu).2) (by simpa using hl)
theorem s2_pl {p : PV} (h : S2 p) : Pl 2 2034 p := by
  obtain ⟨ps, rfl, hl, h⟩ := h
  exact pl_tup (L := 3) (fun x hx => s0_pl (h x hx).1) hl
theorem s3_pl {p : PV} (h : S3 p) : Pl 3 6111 p := by
  obtain ⟨ps, rfl, hl, h⟩ := h
  exact pl_tup (L := 3) (fun x hx => s2_pl (h x hx)) hl
theorem pl_int {i : Int} (h : i.natAbs < 2 ^ 1920) : Pl 0 1921 (.int i) := by
  refine ⟨by rw [pl], ?_, by rw [dpt]; exact Nat.le_refl _; all_goals (intros; contradiction), by rw [shn]; exact Nat.le_refl _⟩
  rw [tl, decide_eq_true_iff]
  by_cases h0 : i.natAbs = 0
  · rw [h0]; decide
  · exact (Nat.log2_lt h0).mpr h
theorem pow_big {i : Int} (h0 : 0 ≤ i) (h1 : i ≤ 1000000000000000000000000000001) : i.natAbs < 2 ^ 1920 := by
  have : (2 : Nat) ^ 128 ≤ 2 ^ 1920 := Nat.pow_le_pow_right (by omega) (by omega)
  have e : (2 : Nat) ^ 128 = 340282366920938463463374607431768211456 := by decide
  omega
theorem KR.pl {k : Str} {rest : List PV} (h : KR k rest) : k ∈ kds ∧ HasL (typ k) rest ∧ rest.length ≤ 2 ∧ ∀ x ∈ rest, Pl 3 6111 x := by
  cases h with
  | pm _ hk w hw m h0 h1 =>
    refine ⟨?_, ?_, by simp, fun x hx => ?_⟩
    · rcases hk with rfl | rfl <;> decide
    · rw [typ, if_pos hk]; exact .cons trivial (.cons trivial .nil)
    · simp at hx
      rcases hx with rfl | rfl
      · exact (pl_word hw.ok hw.2.1).up (by omega) (by omega)
      · exact (pl_int (pow_big (by omega) h1)).up (by omega) (by omega)
  | mc _ hk w x hw hx =>
    refine ⟨?_, ?_, by simp, fun y hy => ?_⟩
    · rcases hk with rfl | rfl <;> decide
    · rw [typ, if_neg (by rcases hk with rfl | rfl <;> decide), if_pos hk]; exact .cons trivial (.cons trivial .nil)
    · simp at hy
      rcases hy with rfl | rfl
      · exact (pl_word hw.ok hw.2.1).up (by omega) (by omega)
      · exact (pl_word hx.ok hx.2.1).up (by omega) (by omega)
  | turn w hw => exact ⟨by decide, .cons trivial .nil, by simp, fun x hx => by rw [List.mem_singleton] at hx; subst hx; exact (pl_word hw.ok hw.2.1).up (by omega) (by omega)⟩
  | bind m h0 h1 => exact ⟨by decide, .cons trivial .nil, by simp, fun x hx => by rw [List.mem_singleton] at hx; subst hx; exact (pl_int (pow_big (by omega) h1)).up (by omega) (by omega)⟩
  | seen w hw v hv =>
    refine ⟨by decide, .cons trivial (.cons (s3_k hv) .nil), by simp, fun x hx => ?_⟩
    simp at hx
    rcases hx with rfl | rfl
    · exact (pl_word hw.ok hw.2.1).up (by omega) (by omega)
    · exact s3_pl hv
  | lot v x hv hx =>
    refine ⟨by decide, .cons (s0_k hv.s0) (.cons (s0_k hx.s0) .nil), by simp, fun y hy => ?_⟩
    simp at hy
    rcases hy with rfl | rfl
    · exact (s0_pl hv.s0).up (by omega) (by omega)
    · exact (s0_pl hx.s0).up (by omega) (by omega)
theorem pg_pl {p : PV} (h : Pg p) : Pl 4 30579 p := by
  obtain ⟨d, n, k, rest, rfl, d0, d1, n0, n1, hk⟩ := h
  obtain ⟨hk1, _, hl, hr⟩ := hk.pl
  have hs : k.length ≤ 8 := by
    have : ∀ k ∈ kds, k.length ≤ 8 := by decide
    exact this k hk1
  refine (pl_tup (n := 3) (B := 6111) (L := 5) (fun x hx => ?_) (by simp; omega)).up (by omega) (by omega)
  simp only [List.mem_cons] at hx
  rcases hx with rfl | rfl | rfl | hx
  · exact (pl_int (pow_big d0 (by omega))).up (by omega) (by omega)
  · exact (pl_int (pow_big n0 (by omega))).up (by omega) (by omega)
  · exact (pl_word (kds_ok k hk1) hs).up (by omega) (by omega)
  · exact hr x hx
theorem eqv_self {p : PV} (h : pl p = true) : PyData.eqv (dat p) (dat p) = true := by rw [eqv_eqP h h]; exact eqP_iff.mpr rfl
theorem ltDs_self : ∀ {xs : List PV}, (∀ x ∈ xs, pl x = true) → ltDs (dats xs) (dats xs) = false
  | [], _ => by rw [dats, ltDs]; rfl; intros; contradiction
  | x :: xs, h => by
    rw [dats, ltDs, if_pos (eqv_self (h x List.mem_cons_self))]
    exact ltDs_self fun y hy => h y (List.mem_cons_of_mem _ hy)
theorem ltDs_at : ∀ {xs ys : List PV} (i : Nat) (x y : PV), (∀ x ∈ xs, pl x = true) → (∀ j, j < i → xs[j]? = ys[j]?) → xs[i]? = some x → ys[i]? = some y → PyData.eqv (dat x) (dat y) = false → ltDs (dats xs) (dats ys) = ltD (dat x) (dat y)
  | [], _, i, x, y, _, _, h, _, _ => by simp at h
  | a :: xs, [], i, x, y, _, _, _, h, _ => by simp at h
  | a :: xs, b :: ys, 0, x, y, _, _, h1, h2, n => by
    simp at h1 h2; subst h1; subst h2
    rw [dats, dats, ltDs, n, if_neg Bool.false_ne_true]
  | a :: xs, b :: ys, i + 1, x, y, hp, h, h1, h2, n => by
    have h0 := h 0 (by omega)
    simp at h0; subst h0
    rw [dats, dats, ltDs, if_pos (eqv_self (hp a List.mem_cons_self))]
    exact ltDs_at i x y (fun z hz => hp z (List.mem_cons_of_mem _ hz)) (fun j hj => by have := h (j + 1) (by omega); simpa using this) (by simpa using h1) (by simpa using h2) n
theorem ahd_eq {d n d' n' : Int} {k k' : Str} {r r' : List PV} (h : KR k r) (h' : KR k' r') : ahd (.tup (.int d :: .int n :: .str k :: r)) (.tup (.int d' :: .int n' :: .str k' :: r')) =
    if d = d' then if n = n' then if k = k' then ltDs (dats r) (dats r') else decide ((kds.idxOf k : Int) < kds.idxOf k') else decide (n < n') else decide (d < d') := by
  obtain ⟨hk, _, _, hp⟩ := h.pl
  obtain ⟨hk', _, _, hp'⟩ := h'.pl
  unfold ahd
  rw [stV, stV, dat, dat, ltD]
  simp only [dats, dat, ltDs, eqv_int, ltD, decide_eq_true_eq]
  by_cases e1 : d = d'
  · rw [if_pos e1, if_pos e1]
    by_cases e2 : n = n'
    · rw [if_pos e2, if_pos e2]
      by_cases e3 : k = k'
      · subst e3
        rw [if_pos rfl, if_pos rfl]
        by_cases e4 : PyData.eqv (.tuple (dats r)) (.tuple (dats r')) = true
        · rw [if_pos e4]
          have pr : ∀ {r : List PV}, (∀ x ∈ r, Pl 3 6111 x) → pl (.tup r) = true := fun hp => by rw [pl]; exact pls_all fun x hx => (hp x hx).1
          have := eqv_eqP (p := .tup r) (q := .tup r') (pr hp) (pr hp')
          rw [dat, dat, e4] at this
          have e5 := eqP_iff.mp this.symm
          cases e5
          rw [ltDs_self fun x hx => (hp x hx).1]
          rfl
        · rw [if_neg e4]
      · have : ¬ ((kds.idxOf k : Nat) : Int) = (kds.idxOf k' : Nat) := fun e => e3 (kidx_inj hk hk' (by omega))
        rw [if_neg e3, if_neg this]
    · rw [if_neg e2, if_neg e2]
  · rw [if_neg e1, if_neg e1]
theorem cmp_st {p q : PV} (hp : Pg p) (hq : Pg q) : cmpD (dat (stV p)) (dat (stV q)) = true := by
  obtain ⟨d, n, k, r, rfl, _, _, _, _, h⟩ := hp
  obtain ⟨d', n', k', r', rfl, _, _, _, _, h'⟩ := hq
  obtain ⟨hk, hl, _, _⟩ := h.pl
  obtain ⟨hk', hl', _, _⟩ := h'.pl
  rw [stV, stV, dat, dat, cmpD]
  simp only [dats, dat, cmpDs, cmpD, eqv_int, decide_eq_true_eq]
  split
  · split
    · split
      · rename_i e
        have : k = k' := kidx_inj hk hk' (by omega)
        subst this
        split
        · rfl
        · exact hl.cmp hl'
      · rfl
    · rfl
  · rfl
/-! ## lists that rise strictly -/
section
variable {α : Type} {lt : α → α → Bool} {P : α → Prop}
structure StrictOn (lt : α → α → Bool) (P : α → Prop) : Prop where
  irr : ∀ a, P a → lt a a = false
  tr : ∀ a b c, P a → P b → P c → lt a b = true → lt b c = true → lt a c = true
  tot : ∀ a b, P a → P b → a ≠ b → lt a b = true ∨ lt b a = true
def Rises (lt : α → α → Bool) (xs : List α) : Prop := xs.Pairwise fun a b => lt a b = true
theorem rises_unique (O : StrictOn lt P) : ∀ (xs ys : List α), (∀ x ∈ xs, P x) → (∀ y ∈ ys, P y) → Rises lt xs → Rises lt ys → (∀ x, x ∈ xs ↔ x ∈ ys) → xs = ys
  | [], [], _, _, _, _, _ => rfl
  | [], y :: ys, _, _, _, _, h => by have := (h y).mpr List.mem_cons_self; simp at this
  | x :: xs, [], _, _, _, _, h => by have := (h x).mp List.mem_cons_self; simp at this
  | x :: xs, y :: ys, hx, hy, rx, ry, h => by
    obtain ⟨r1, r2⟩ := List.pairwise_cons.mp rx
    obtain ⟨s1, s2⟩ := List.pairwise_cons.mp ry
    have px := hx x List.mem_cons_self
    have py := hy y List.mem_cons_self
    have exy : x = y := by
      rcases List.mem_cons.mp ((h x).mp List.mem_cons_self) with e | e
      · exact e
      · rcases List.mem_cons.mp ((h y).mpr List.mem_cons_self) with e' | e'
        · exact e'.symm
        · have a := s1 x e
          have b := r1 y e'
          have := O.tr x y x px py px b a
          rw [O.irr x px] at this; cases this
    subst exy
    rw [rises_unique O xs ys (fun z hz => hx z (List.mem_cons_of_mem _ hz)) (fun z hz => hy z (List.mem_cons_of_mem _ hz)) r2 s2 fun z => ?_]
    constructor
    · intro hz
      rcases List.mem_cons.mp ((h z).mp (List.mem_cons_of_mem _ hz)) with e | e
      · subst e
        have := r1 z hz
        rw [O.irr z px] at this; cases this
      · exact e
    · intro hz
      rcases List.mem_cons.mp ((h z).mpr (List.mem_cons_of_mem _ hz)) with e | e
      · subst e
        have := s1 z hz
        rw [O.irr z px] at this; cases this
      · exact e
theorem rises_split (O : StrictOn lt P) (p : α) (hp : P p) : ∀ (xs : List α), (∀ x ∈ xs, P x) → Rises lt xs → (∀ y ∈ xs.take (xs.filter (lt · p)).length, lt y p = true) ∧ ∀ y ∈ xs.drop (xs.filter (lt · p)).length, lt y p = false
  | [], _, _ => ⟨by simp, by simp⟩
  | x :: xs, hx, r => by
    obtain ⟨r1, r2⟩ := List.pairwise_cons.mp r
    have ih := rises_split O p hp xs (fun z hz => hx z (List.mem_cons_of_mem _ hz)) r2
    cases e : lt x p with
    | true =>
      rw [List.filter_cons_of_pos (by simpa using e), List.length_cons, List.take_succ_cons, List.drop_succ_cons]
      refine ⟨fun y hy => ?_, ih.2⟩
      rcases List.mem_cons.mp hy with h | h
      · subst h; exact e
      · exact ih.1 y h
    | false =>
      have none : ∀ y ∈ xs, lt y p = false := fun y hy => by
        cases e2 : lt y p with
        | false => rfl
        | true =>
          have := O.tr x y p (hx x List.mem_cons_self) (hx y (List.mem_cons_of_mem _ hy)) hp (r1 y hy) e2
          rw [e] at this; cases this
      have ef : (x :: xs).filter (lt · p) = [] := by
        rw [List.filter_eq_nil_iff]
        intro y hy
        rcases List.mem_cons.mp hy with h | h
        · subst h; simp [e]
        · simp [none y h]
      rw [ef]
      refine ⟨by simp, fun y hy => ?_⟩
      rcases List.mem_cons.mp (by simpa using hy) with h | h
      · subst h; exact e
      · exact none y h
theorem rises_insert (O : StrictOn lt P) {p : α} (hp : P p) {xs : List α} (hx : ∀ x ∈ xs, P x) (r : Rises lt xs) (hn : p ∉ xs) : Rises lt (xs.take (xs.filter (lt · p)).length ++ [p] ++ xs.drop (xs.filter (lt · p)).length) := by
  obtain ⟨h1, h2⟩ := rises_split O p hp xs hx r
  have hd : ∀ y ∈ xs.drop (xs.filter (lt · p)).length, lt p y = true := fun y hy => by
    have hm := List.mem_of_mem_drop hy
    rcases O.tot p y hp (hx y hm) (fun e => hn (e ▸ hm)) with h | h
    · exact h
    · rw [h2 y hy] at h; cases h
  unfold Rises at r ⊢
  rw [← List.take_append_drop (xs.filter (lt · p)).length xs] at r
  obtain ⟨r1, r2, r3⟩ := List.pairwise_append.mp r
  rw [List.append_assoc, List.pairwise_append]
  refine ⟨by simpa using r1, ?_, fun a ha b hb => ?_⟩
  · rw [List.singleton_append, List.pairwise_cons]
    exact ⟨fun y hy => hd y (by simpa using hy), by simpa using r2⟩
  · rw [List.singleton_append] at hb
    rcases List.mem_cons.mp hb with h | h
    · subst h; exact h1 a (by simpa using ha)
    · exact r3 a (by simpa using ha) b (by simpa using h)
theorem insert_mem {p : α} {xs : List α} {n : Nat} {x : α} : x ∈ xs.take n ++ [p] ++ xs.drop n ↔ x ∈ xs ∨ x = p := by
  have : x ∈ xs ↔ x ∈ xs.take n ∨ x ∈ xs.drop n := by
    conv => lhs; rw [← List.take_append_drop n xs]
    exact List.mem_append
  rw [this, List.mem_append, List.mem_append, List.mem_singleton]
  constructor
  · rintro ((h | h) | h)
    · exact .inl (.inl h)
    · exact .inr h
    · exact .inl (.inr h)
  · rintro ((h | h) | h)
    · exact .inl (.inl h)
    · exact .inr h
    · exact .inl (.inr h)
end
/-! ## pages in their order -/
section
open PySem.W
abbrev TS (p : PV) : List (Int ⊕ List Nat) := TK (stV p)
theorem st_pl {p : PV} (h : Pg p) : ∃ (n : Int) (r : List PV), stV p = .tup (.int n :: r) ∧ Pl 8 100000 (stV p) := by
  obtain ⟨d, n, k, r, rfl, d0, d9, n0, n9, h⟩ := h
  obtain ⟨hk, hl, hlen, hr⟩ := h.pl
  refine ⟨_, _, rfl, (pl_tup (n := 4) (B := 20000) (L := 4) (fun x hx => ?_) (by simp)).up (by omega) (by omega)⟩
  simp only [List.mem_cons, List.not_mem_nil, or_false] at hx
  have hix : kds.idxOf k ≤ 8 := List.idxOf_le_length
  rcases hx with rfl | rfl | rfl | rfl
  · exact (pl_int (pow_big d0 (by omega))).up (by omega) (by omega)
  · exact (pl_int (pow_big n0 (by omega))).up (by omega) (by omega)
  · exact (pl_int (pow_big (by omega) (by omega))).up (by omega) (by omega)
  · exact (pl_tup (n := 3) (B := 6111) (L := 2) hr hlen).up (by omega) (by omega)
theorem st_inj {p q : PV} (hp : Pg p) (hq : Pg q) (e : stV p = stV q) : p = q := by
  obtain ⟨d, n, k, r, rfl, _, _, _, _, h⟩ := hp
  obtain ⟨d', n', k', r', rfl, _, _, _, _, h'⟩ := hq
  rw [stV, stV] at e
  have e := PV.tup.inj e
  simp only [List.cons.injEq, PV.int.injEq, PV.tup.injEq, and_true] at e
  obtain ⟨rfl, rfl, e3, rfl⟩ := e
  rw [kidx_inj h.pl.1 h'.pl.1 (by omega)]
theorem ahd_lx {p q : PV} (hp : Pg p) (hq : Pg q) : ahd p q = lx (TS p) (TS q) := by
  obtain ⟨_, _, _, p1⟩ := st_pl hp
  obtain ⟨_, _, _, q1⟩ := st_pl hq
  exact (tk_cmp (stV p) (stV q) p1.1 q1.1 (cmp_st hp hq)).2
theorem ts_inj {p q : PV} (hp : Pg p) (hq : Pg q) (e : TS p = TS q) : p = q := by
  apply Classical.byContradiction
  intro ne
  obtain ⟨_, _, _, p1⟩ := st_pl hp
  obtain ⟨_, _, _, q1⟩ := st_pl hq
  have h := (tk_cmp (stV p) (stV q) p1.1 q1.1 (cmp_st hp hq)).1 (fun z => ne (st_inj hp hq z)) [] [.inl 0]
  have e' : TK (stV p) = TK (stV q) := e
  rw [e', List.append_nil] at h
  have h1 : lx (TK (stV q)) (TK (stV q) ++ [.inl 0]) = lx ([] : List (Int ⊕ List Nat)) [.inl 0] := by
    have := lex_pre (TK (stV q)) [] [.inl 0]
    rwa [List.append_nil] at this
  rw [h1, show lx (TK (stV q)) (TK (stV q)) = false from lex_irrefl _] at h
  exact absurd h (by decide)
theorem pg_strict : StrictOn ahd Pg where
  irr a ha := by rw [ahd_lx ha ha]; exact lex_irrefl _
  tr a b c ha hb hc h1 h2 := by
    rw [ahd_lx ha hb] at h1
    rw [ahd_lx hb hc] at h2
    rw [ahd_lx ha hc]
    exact (listOrd itemOrd).trans _ _ _ h1 h2
  tot a b ha hb ne := by
    rw [ahd_lx ha hb, ahd_lx hb ha]
    cases h1 : lx (TS a) (TS b) with
    | true => exact .inl rfl
    | false =>
      cases h2 : lx (TS b) (TS a) with
      | true => exact .inr rfl
      | false => exact absurd (ts_inj ha hb ((listOrd itemOrd).total _ _ h1 h2)) ne
/-- the pages sorted by what stands for them -/
theorem sort_pages (ps : List PV) (hp : ∀ p ∈ ps, Pg p) : (sortK ps (ps.map stV)).Perm ps ∧ (sortK ps (ps.map stV)).Pairwise fun a b => ahd b a = false := by
  have e : sortK ps (ps.map stV) = ps.mergeSort (dataLe false fun p => dat (stV p)) := by
    unfold sortK
    have z : ps.zip (ps.map stV) = ps.map fun p => (p, stV p) := by
      clear hp
      induction ps with
      | nil => rfl
      | cons p r ih => rw [List.map_cons, List.map_cons, List.zip_cons_cons, ih]
    have ms := List.map_mergeSort (r := dataLe false fun p => dat (stV p)) (s := dataLe false fun p : PV × PV => dat p.2) (f := fun p => (p, stV p)) (l := ps) (fun _ _ _ _ => rfl)
    rw [z, ← ms, List.map_map]
    exact List.map_id _
  have perm : (ps.mergeSort (dataLe false fun p => dat (stV p))).Perm ps := List.mergeSort_perm _ _
  rw [e]
  refine ⟨perm, ?_⟩
  have le : ∀ a b : PV, dataLe false (fun p => dat (stV p)) a b = !lx (TS b) (TS a) := fun _ _ => rfl
  have sorted := List.pairwise_mergeSort (le := dataLe false fun p => dat (stV p)) (fun a b c h1 h2 => by
    rw [le] at h1 h2 ⊢
    cases h : lx (TS c) (TS a) with
    | false => rfl
    | true =>
      rcases (listOrd itemOrd).negTrans _ (TS b) _ h with z | z
      · rw [show lx (TS c) (TS b) = true from z] at h2; cases h2
      · rw [show lx (TS b) (TS a) = true from z] at h1; cases h1) (fun a b => by
    rw [le, le]
    cases h : lx (TS b) (TS a) with
    | false => rfl
    | true =>
      cases h2 : lx (TS a) (TS b) with
      | false => rfl
      | true =>
        have := (listOrd itemOrd).trans _ _ _ h h2
        rw [(listOrd itemOrd).irrefl] at this; cases this) ps
  refine sorted.imp_of_mem fun {a b} ha hb h => ?_
  rw [ahd_lx (hp b (perm.mem_iff.mp hb)) (hp a (perm.mem_iff.mp ha))]
  rw [le] at h
  simpa using h
theorem page_keys (ps : List PV) (hp : ∀ p ∈ ps, Pg p) : Keys (ps.map stV) where
  pl k hk := by obtain ⟨p, h, rfl⟩ := List.mem_map.mp hk; obtain ⟨_, _, _, z⟩ := st_pl (hp p h); exact z.1
  tup k hk := by obtain ⟨p, h, rfl⟩ := List.mem_map.mp hk; obtain ⟨n, r, e, _⟩ := st_pl (hp p h); exact ⟨n, r, e⟩
  cmp k hk l hl := by
    obtain ⟨p, h, rfl⟩ := List.mem_map.mp hk
    obtain ⟨q, g, rfl⟩ := List.mem_map.mp hl
    exact cmp_st (hp p h) (hp q g)
  dep k hk := by obtain ⟨p, h, rfl⟩ := List.mem_map.mp hk; obtain ⟨_, _, _, z⟩ := st_pl (hp p h); have := z.2.2.1; omega
end

def IsBook (ps b : List PV) : Prop := Rises ahd b ∧ ∀ x, x ∈ b ↔ x ∈ ps
theorem IsBook.eq {ps b c : List PV} (hp : ∀ x ∈ ps, Pg x) (h : IsBook ps b) (g : IsBook ps c) : b = c :=
  rises_unique pg_strict b c (fun x hx => hp x ((h.2 x).mp hx)) (fun x hx => hp x ((g.2 x).mp hx)) h.1 g.1 fun x => (h.2 x).trans (g.2 x).symm
theorem pgs_pl {xs : List PV} (h : ∀ x ∈ xs, Pg x) : pls xs = true ∧ dpts xs ≤ 4 := ⟨pls_all fun x hx => (pg_pl (h x hx)).1, dpts_all fun x hx => (pg_pl (h x hx)).2.2.1⟩
theorem any_yes {xs : List PV} {p : PV} (h : p ∈ xs) : (xs.any fun z => eqP z p) = true := List.any_eq_true.mpr ⟨p, h, eqP_iff.mpr rfl⟩
theorem any_no {xs : List PV} {p : PV} (h : p ∉ xs) : (xs.any fun z => eqP z p) = false := List.any_eq_false.mpr fun z hz e => h (eqP_iff.mp e ▸ hz)
theorem atI_last {α : Type} {xs : List α} {z : α} : atI (xs ++ [z]) (-1) = some z := by
  unfold atI ixN
  simp
  have h1 : (1 : Int) ≤ (xs.length : Int) + 1 := by omega
  have h2 : (-1 + ((xs.length : Int) + 1)).toNat = xs.length := by omega
  rw [if_pos h1, h2]
  simp
theorem rises_snoc {fs : List PV} {x : PV} (hf : ∀ f ∈ fs, Pg f) (hx : Pg x) (r : Rises ahd fs) (h : ∀ f ∈ fs, ahd x f = false) (n : x ∉ fs) : Rises ahd (fs ++ [x]) := by
  unfold Rises at r ⊢
  rw [List.pairwise_append]
  refine ⟨r, by simp, fun a ha b hb => ?_⟩
  rw [List.mem_singleton] at hb; subst hb
  rcases pg_strict.tot a b (hf a ha) hx (fun e => n (e ▸ ha)) with z | z
  · exact z
  · rw [h a ha] at z; cases z
theorem rises_last {fs : List PV} {x z : PV} (r : Rises ahd (fs ++ [z])) (h : x ∈ fs) : ahd x z = true := by
  unfold Rises at r
  exact (List.pairwise_append.mp r).2.2 x h z (by simp)
/-- what stands until a moment -/
def isBy (d n : Int) (p : PV) : Bool := match p with
  | .tup (.int a :: .int b :: _) => decide (a < d ∨ (a = d ∧ b ≤ n))
  | _ => false
/-- sorted texts, none twice, rise -/
theorem sorted_rises {ws us : List Str} (e : ws.map PV.str = sortP (us.map PV.str)) (hok : ∀ w ∈ ws, PyData.strOk w = true) (hn : ws.Nodup) : RisS ws := by
  have le : ∀ a b : PV, leP a b = !lx (TK b) (TK a) := fun _ _ => rfl
  have sorted := List.pairwise_mergeSort (le := leP) (fun a b c h1 h2 => by
    rw [le] at h1 h2 ⊢
    cases h : lx (TK c) (TK a) with
    | false => rfl
    | true =>
      rcases (listOrd itemOrd).negTrans _ (TK b) _ h with z | z
      · rw [show lx (TK c) (TK b) = true from z] at h2; cases h2
      · rw [show lx (TK b) (TK a) = true from z] at h1; cases h1) (fun a b => by
    rw [le, le]
    cases h : lx (TK b) (TK a) with
    | false => rfl
    | true =>
      cases h2 : lx (TK a) (TK b) with
      | false => rfl
      | true =>
        have := (listOrd itemOrd).trans _ _ _ h h2
        rw [(listOrd itemOrd).irrefl] at this; cases this) (us.map PV.str)
  have s2 : (ws.map PV.str).Pairwise fun a b => leP a b = true := by rw [e]; exact sorted
  rw [List.pairwise_map] at s2
  unfold RisS
  refine (s2.and hn).imp_of_mem fun {a b} ha hb ⟨h, ne⟩ => ?_
  have pa := pl_str (hok a ha)
  have pb := pl_str (hok b hb)
  have h1 := (tk_cmp (.str a) (.str b) pa pb (by rw [dat, dat, cmpD])).2
  rw [dat, dat, ltD] at h1
  rw [le] at h
  have h2 : lx (TK (.str b)) (TK (.str a)) = false := by simpa using h
  cases h3 : lx (TK (.str a)) (TK (.str b)) with
  | true => rw [h3] at h1; simpa using h1
  | false =>
    have h4 : TK (.str a) = TK (.str b) := (listOrd itemOrd).total _ _ h3 h2
    have h5 : a.cps.toList = b.cps.toList := by
      have : ([.inr a.cps.toList] : List (Int ⊕ List Nat)) = [.inr b.cps.toList] := by
        have := h4
        unfold TK at this
        rw [dat, dat, PySem.W.keyToks, PySem.W.keyToks] at this
        exact this
      simpa using this
    have h6 : a = b := by
      cases a; cases b
      simp only [Array.toList_inj] at h5
      rw [h5]
    exact absurd h6 ne
end PL
set_option autoImplicit false
namespace PL
open PySem PySem.Spec L2
open PyProof.Rows hiding St
set_option maxHeartbeats 4000000
local macro_rules | `(tactic| walk_at "env") => `(tactic| first | (dsimp only [back, owOf, owAt, wipeE, mergeE, List.set_cons_zero, List.set_cons_succ, List.getElem?_cons_zero, List.getElem?_cons_succ, Option.join]; exact rfl) | exact rfl)
local macro_rules | `(tactic| walk_at "s") => `(tactic| first
  | (with_reducible refine sSeq_s ?_) | ((with_reducible refine' fVar_s ?a ?_); (case a => rfl)) | (with_reducible refine fC_s ?_) | (with_reducible refine fOp_s ?_) | (with_reducible refine fCons_s ?_) | (with_reducible refine fNil_s ?_)
  | (with_reducible refine sSet_s ?_) | ((with_reducible refine' kSet_e ?a ?b ?_); (case a => rfl); (case b => walk_at "env")) | (with_reducible refine sIf_s ?_) | (with_reducible refine fTest_k ?_) | (with_reducible refine kTest_s ?_) | (with_reducible refine sRet_s ?_) | (with_reducible refine kRet_s ?_) | (with_reducible refine sNext_s ?_)
  | (with_reducible refine kSh_s ?_) | (with_reducible refine kSh_o ?_) | (with_reducible refine gEq_int ?_) | (with_reducible refine gNe_int ?_) | (with_reducible refine gEq_str ?_) | (with_reducible refine gNe_str ?_) | ((with_reducible refine' kMine_e ?a ?b ?_); (case a => rfl); (case b => walk_at "env")) | ((with_reducible refine' kMine_p ?a ?b ?_); (case a => rfl); (case b => walk_at "env"))
  | ((with_reducible refine' kOp_s ?a ?_); (case a => rfl)) | ((with_reducible refine' fVar_a ?a ?_); (case a => rfl))
  | (with_reducible refine fTup_s ?_) | ((with_reducible refine' kTup_s ?a ?b ?_); (case a => rfl); (case b => exact lineB rfl)) | (with_reducible refine lDisp_s ?_) | ((with_reducible refine' kDisp_s ?a ?b ?_); (case a => rfl); (case b => exact lineB rfl)) | (with_reducible refine fNew_s ?_)
  | (with_reducible refine fSh_s ?_) | (with_reducible refine fCall_s ?_) | (with_reducible refine fCallK_s ?_) | ((with_reducible refine' kSetL_e ?a ?b ?_); (case a => rfl); (case b => walk_at "env")) | (with_reducible refine And.intro rfl ?_) | ((with_reducible refine' callR_s ?a ?b ?_); (case a => rfl); (case b => rfl)) | ((with_reducible refine' kBack_s ?a ?_); (case a => walk_at "env"))
  | (with_reducible refine sDrop_s ?_) | (with_reducible refine sRetN_s ?_) | (with_reducible refine sRetL_s ?_) | (with_reducible refine sRetC_s ?_) | (with_reducible refine sSetL_s ?_) | (with_reducible refine sSetC_s ?_) | (with_reducible refine sAsg_s ?_) | ((with_reducible refine' kAsg_s ?a ?_); (case a => rfl)) | (with_reducible refine sAsgL_s ?_) | ((with_reducible refine' kAsgL_s ?a ?_); (case a => rfl)) | (with_reducible refine sPar_s ?_) | ((with_reducible refine' kPar_s ?a ?_); (case a => rfl)) | (with_reducible refine sStL_s ?_) | ((with_reducible refine' kStL_s ?a ?_); (case a => rfl)) | ((with_reducible refine' kStL2_e ?a ?b ?c ?_); (case a => rfl); (case b => rfl); (case c => walk_at "env")) | (with_reducible refine sFor_s ?_)
  | (with_reducible refine fTru_k ?_) | (with_reducible refine kTru_b ?_) | ((with_reducible refine' kTru_s ?a ?_); (case a => rfl)) | (with_reducible refine fAndT_s ?_) | (with_reducible refine fOrT_s ?_) | (with_reducible refine fNotT_s ?_) | (with_reducible refine fYes_s ?_) | (with_reducible refine fAndV_s ?_) | (with_reducible refine fOrV_s ?_) | (with_reducible refine kAnd_s ?_) | (with_reducible refine kOr_s ?_) | (with_reducible refine fNotV_s ?_) | (with_reducible refine kNot_s ?_) | (with_reducible refine fIfE_s ?_) | (with_reducible refine fChain_s ?_) | ((with_reducible refine' kCh_s ?a ?_); (case a => rfl)) | (with_reducible refine kCh2_s ?_)
  | (with_reducible refine oNo_s ?_) | (with_reducible refine oPt_s ?_) | (with_reducible refine kPt_s ?_) | (with_reducible refine fSl_s ?_) | ((with_reducible refine' kSl_s ?a ?_); (case a => rfl)) | ((with_reducible refine' kSl_a ?a ?b ?_); (case a => rfl); (case b => rfl)) | (with_reducible refine fUn_s ?_) | ((with_reducible refine' kUn_s ?a ?_); (case a => rfl))
  | (with_reducible refine fCB_s ?_) | ((with_reducible refine' kCB_s ?a ?b ?_); (case a => rfl); (case b => rfl)) | (with_reducible refine lCB_s ?_) | (with_reducible refine fCBL_s ?_) | ((with_reducible refine' kCBL_s ?a ?_); (case a => rfl)) | (with_reducible refine lCBL_s ?_) | (with_reducible refine lCatEL_s ?_) | (with_reducible refine fEqL_s ?_) | (with_reducible refine fIxL_s ?_) | (with_reducible refine lRepL_s ?_) | (with_reducible refine fJoinL_s ?_) | (with_reducible refine kJoin_s ?_) | (with_reducible refine fKIx_s ?_)
  | ((with_reducible refine' fFrz_s ?a ?_); (case a => rfl)) | ((with_reducible refine' fFrz_e ?a ?b ?_); (case a => rfl); (case b => walk_at "env")) | ((with_reducible refine' fMut_s ?a ?_); (case a => rfl))
  | (with_reducible refine iAnyF_s ?_) | ((with_reducible refine' kItr_s ?a ?_); (case a => rfl)) | (with_reducible refine iNwF_s ?_) | (with_reducible refine iRg1F_s ?_) | (with_reducible refine iRg2F_s ?_) | (with_reducible refine iZpF_s ?_) | ((with_reducible refine' kZip_s ?a ?_); (case a => rfl)) | (with_reducible refine lLc_s ?_)
  | ((with_reducible refine' kOp_a ?a ?b ?_); (case a => rfl); (case b => rfl)) | (with_reducible refine lSrtK_s ?_) | (with_reducible refine ite_t ?_) | (with_reducible refine ite_f ?_) | (with_reducible refine ite_nt ?_) | (with_reducible refine ite_nf ?_))
local macro_rules | `(tactic| walk_at "ss") => `(tactic| repeat walk_at "s")
local macro_rules | `(tactic| walk_at "lit") => `(tactic| first | ((with_reducible refine' ite_no ?a ?_); (case a => first | decide | exact decide_eq_true rfl | (refine decide_eq_false ?_; simp; done) | exact rfl)) | ((with_reducible refine' ite_yes ?a ?_); (case a => first | decide | exact decide_eq_true rfl | (refine decide_eq_false ?_; simp; done) | exact rfl)) | ((with_reducible refine' ite_nno ?a ?_); (case a => first | decide | exact decide_eq_true rfl | (refine decide_eq_false ?_; simp; done) | exact rfl)) | ((with_reducible refine' ite_nyes ?a ?_); (case a => first | decide | exact decide_eq_true rfl | (refine decide_eq_false ?_; simp; done) | exact rfl)))
local macro_rules | `(tactic| walk_at "sl") => `(tactic| repeat (first | walk_at "s" | walk_at "lit"))
noncomputable def fb__law_draw : VEnv → Fl :=
  (sSeq (sStL 0 (fC (.int 3)) (fOp gAdd (fOp gIx (fVar 0) (fC (.int 3))) (fC (.int 1))))
  (sSeq (sIf (fTest (fOp gGt (fOp gIx (fVar 0) (fC (.int 2))) (fC (.int 0)))) (sSeq (sSet 2 (fOp gMod (fOp gIx (fVar 0) (fC (.int 2))) (fVar 1)))
  (sSeq (sStL 0 (fC (.int 2)) (fOp gFdiv (fOp gIx (fVar 0) (fC (.int 2))) (fVar 1)))
  (sRet (fVar 2)))) sNext)
  (sSeq (sSet 3 (fC (.int 5)))
  (sSeq (sIf (fTest (fEqL true (fOp gIx (fVar 0) (fC (.int 0))) (lDisp fNil))) (sSet 3 (fOp gIx (fOp gIx (fVar 0) (fC (.int 0))) (fOp gMod (fOp gIx (fVar 0) (fC (.int 1))) (fCB gLen (fCons (fOp gIx (fVar 0) (fC (.int 0))) fNil))))) sNext)
  (sSeq (sStL 0 (fC (.int 1)) (fOp gAdd (fOp gIx (fVar 0) (fC (.int 1))) (fC (.int 1))))
  (sSeq (sIf (fAndT (fTest (fOp gGe (fVar 3) (fOp gPow (fC (.int 10)) (fC (.int 18))))) (fTest (fOp gLe (fOp gIx (fVar 0) (fC (.int 1))) (fCB gLen (fCons (fOp gIx (fVar 0) (fC (.int 0))) fNil))))) (sSeq (sStL 0 (fC (.int 2)) (fOp gFdiv (fVar 3) (fVar 1)))
  (sRet (fOp gMod (fVar 3) (fVar 1)))) sNext)
  (sSeq (sSet 4 (fOp gMod (fOp gPow (fOp gAdd (fOp gAdd (fOp gMod (fVar 3) (fC (.int 2147483629))) (fOp gMul (fC (.int 7919)) (fOp gIx (fVar 0) (fC (.int 3))))) (fC (.int 1))) (fC (.int 5))) (fC (.int 2147483647))))
  (sRet (fOp gMod (fOp gFdiv (fOp gMod (fOp gPow (fOp gAdd (fVar 4) (fOp gMul (fC (.int 104729)) (fOp gIx (fVar 0) (fC (.int 3))))) (fC (.int 5))) (fC (.int 2147483587))) (fC (.int 64))) (fVar 1))))))))))
noncomputable def f__law_draw : List SV → RsC := fDef 5 fb__law_draw
/-! ## a law's draws -/
/-- how a law's draws stand -/
def FeedOk (c : Nat) (fd : List PV) : Prop := ∃ (ns : List Int) (x y z : Int), fd = [PV.lst (ns.map PV.int), .int x, .int y, .int z] ∧ 0 ≤ z ∧ z ≤ c ∧ ns.length ≤ 63
theorem feed0_ok {ns : List Int} (h : ns.length ≤ 63) : FeedOk 0 (feed0 ns) := ⟨ns, 0, 0, 0, rfl, by omega, by omega, h⟩
theorem FeedOk.up {c d : Nat} {fd : List PV} (h : FeedOk c fd) (l : c ≤ d) : FeedOk d fd := by
  obtain ⟨ns, x, y, z, e, h1, h2, h3⟩ := h
  exact ⟨ns, x, y, z, e, h1, by omega, h3⟩
theorem fmod_lt {x m : Int} (h : 0 < m) : 0 ≤ x.fmod m ∧ x.fmod m < m := by
  rw [Int.fmod_eq_emod_of_nonneg _ (Int.le_of_lt h)]
  exact ⟨Int.emod_nonneg _ (by omega), Int.emod_lt_of_pos _ h⟩
theorem atI_mod {α : Type} {xs : List α} {x : Int} (h : xs ≠ []) : ∃ p, atI xs (x.fmod (xs.length : Nat)) = some p := by
  have hl : 0 < xs.length := List.length_pos_iff.mpr h
  obtain ⟨h1, h2⟩ := fmod_lt (x := x) (m := (xs.length : Nat)) (by omega)
  obtain ⟨n, hn⟩ := Int.eq_ofNat_of_zero_le h1
  rw [hn] at h2 ⊢
  exact ⟨xs[n]'(by omega), atI_nat (List.getElem?_eq_getElem _)⟩
theorem atI_mem {α : Type} {xs : List α} {x : Int} {p : α} (h : atI xs x = some p) : p ∈ xs := by
  obtain ⟨j, _, h2, _⟩ := atI_get h
  exact List.mem_of_getElem? h2
theorem pls_ints : ∀ ns : List Int, pls (ns.map PV.int) = true
  | [] => by rw [List.map_nil, pls]
  | n :: r => by rw [List.map_cons, pls, pls_ints r, pl]; rfl
theorem dpts_ints : ∀ ns : List Int, dpts (ns.map PV.int) = 0
  | [] => by rw [List.map_nil, dpts]
  | n :: r => by rw [List.map_cons, dpts, dpts_ints r, dpt]; rfl; all_goals (intros; contradiction)
theorem mul7919 {z : Int} (h0 : 0 ≤ z) (h1 : z ≤ 1000000000001) : 0 ≤ 7919 * z ∧ 7919 * z ≤ 7919000000007919 := by omega
section
variable {K : TV → VEnv → Prop} {e : VEnv}
theorem gMod_s {i j : Int} (h : j ≠ 0) (k : K (.sh (.int (i.fmod j))) e) : kOp gMod K (.sh (.int i)) (.sh (.int j)) e := kOp_s (by unfold gMod gInt; dsimp only; rw [if_pos (decide_eq_true h)]) k
theorem gFdiv_s {i j : Int} (h : j ≠ 0 ∧ j.natAbs < 1073741824) (k : K (.sh (.int (i.fdiv j))) e) : kOp gFdiv K (.sh (.int i)) (.sh (.int j)) e := kOp_s (by unfold gFdiv gInt; dsimp only; rw [if_pos (decide_eq_true h)]) k
theorem gPow_s {i j : Int} (h : 0 ≤ j ∧ j ≤ 1000000 ∧ i.natAbs < 18446744073709551616) (k : K (.sh (.int (i ^ j.toNat))) e) : kOp gPow K (.sh (.int i)) (.sh (.int j)) e := kOp_s (by unfold gPow gInt; dsimp only; rw [if_pos (decide_eq_true h)]) k
theorem gMul_l {i j : Int} (h : -18446744073709551616 < i ∧ i < 18446744073709551616) (k : K (.sh (.int (i * j))) e) : kOp gMul K (.sh (.int i)) (.sh (.int j)) e := kOp_s (by unfold gMul; dsimp only; rw [if_pos (.inl h)]) k
theorem gIx_lst {xs : List PV} {i : Int} {v : PV} (h : atI xs i = some v) (k : K (.sh v) e) : kOp gIx K (.sh (.bx .lst xs)) (.sh (.int i)) e := kOp_s h k
theorem gIx_tup {xs : List PV} {i : Int} {v : PV} (h : atI xs i = some v) (k : K (.sh v) e) : kOp gIx K (.sh (.tup xs)) (.sh (.int i)) e := kOp_s h k
end
theorem draw_s {X : VX} {K : SV → VEnv → Prop} {c : Nat} {fd : List PV} {m : Int} (h : FeedOk c fd) (hc : c + 1 ≤ 1000000000000) (h0 : 0 < m) (h1 : m < 1073741824)
    (k : ∀ (d : Int) (fd' : List PV), 0 ≤ d → d < m → FeedOk (c + 1) fd' → K (.sh (.int d)) [some (.ow true fd'), none]) : Sc X (f__law_draw [.ow true fd, .sh (.int m)]) K := by
  obtain ⟨ns, x, y, z, rfl, hz0, hzc, hns⟩ := h
  have fin : ∀ (r x' y' : Int), 0 ≤ r → r < m → K (.sh (.int r)) [some (.ow true [PV.lst (ns.map PV.int), .int x', .int y', .int (z + 1)]), none] := fun r x' y' a b => k r _ a b ⟨ns, x', y', z + 1, rfl, by omega, by omega, hns⟩
  unfold f__law_draw
  refine fDef_s ?_
  show Ss _ (fb__law_draw [some (.ow true [PV.lst (ns.map PV.int), .int x, .int y, .int z]), some (.sh (.int m)), none, none, none])
  unfold fb__law_draw
  walk_at "ss"
  refine ite_i (fun hy => ?_) fun _ => ?_
  · walk_at "ss"
    refine gMod_s (by omega) ?_
    walk_at "ss"
    refine gFdiv_s ⟨by omega, by omega⟩ ?_
    walk_at "ss"
    exact fin _ _ _ (fmod_lt h0).1 (fmod_lt h0).2
  walk_at "ss"
  refine kEqL_v (xs := ns.map PV.int) rfl (pls_ints ns) (by rw [pls]) (by rw [dpts_ints]; omega) (by rw [dpts]; omega) ?_
  walk_at "ss"
  -- what follows, whatever the cell is
  have tail : ∀ (cell x1 : Int), Ss (DRt K X [.ow true [PV.lst (ns.map PV.int), .int x, .int y, .int z], .sh (.int m)]) ((sSeq (sStL 0 (fC (.int 1)) (fOp gAdd (fOp gIx (fVar 0) (fC (.int 1))) (fC (.int 1))))
  (sSeq (sIf (fAndT (fTest (fOp gGe (fVar 3) (fOp gPow (fC (.int 10)) (fC (.int 18))))) (fTest (fOp gLe (fOp gIx (fVar 0) (fC (.int 1))) (fCB gLen (fCons (fOp gIx (fVar 0) (fC (.int 0))) fNil))))) (sSeq (sStL 0 (fC (.int 2)) (fOp gFdiv (fVar 3) (fVar 1)))
  (sRet (fOp gMod (fVar 3) (fVar 1)))) sNext)
  (sSeq (sSet 4 (fOp gMod (fOp gPow (fOp gAdd (fOp gAdd (fOp gMod (fVar 3) (fC (.int 2147483629))) (fOp gMul (fC (.int 7919)) (fOp gIx (fVar 0) (fC (.int 3))))) (fC (.int 1))) (fC (.int 5))) (fC (.int 2147483647))))
  (sRet (fOp gMod (fOp gFdiv (fOp gMod (fOp gPow (fOp gAdd (fVar 4) (fOp gMul (fC (.int 104729)) (fOp gIx (fVar 0) (fC (.int 3))))) (fC (.int 5))) (fC (.int 2147483587))) (fC (.int 64))) (fVar 1)))))) [some (.ow true [PV.lst (ns.map PV.int), .int x1, .int y, .int (z + 1)]), some (.sh (.int m)), none, some (.sh (.int cell)), none]) := by
    intro cell x1
    have last : Ss (DRt K X [.ow true [PV.lst (ns.map PV.int), .int x, .int y, .int z], .sh (.int m)]) ((sSeq (sSet 4 (fOp gMod (fOp gPow (fOp gAdd (fOp gAdd (fOp gMod (fVar 3) (fC (.int 2147483629))) (fOp gMul (fC (.int 7919)) (fOp gIx (fVar 0) (fC (.int 3))))) (fC (.int 1))) (fC (.int 5))) (fC (.int 2147483647))))
  (sRet (fOp gMod (fOp gFdiv (fOp gMod (fOp gPow (fOp gAdd (fVar 4) (fOp gMul (fC (.int 104729)) (fOp gIx (fVar 0) (fC (.int 3))))) (fC (.int 5))) (fC (.int 2147483587))) (fC (.int 64))) (fVar 1)))) [some (.ow true [PV.lst (ns.map PV.int), .int (x1 + 1), .int y, .int (z + 1)]), some (.sh (.int m)), none, some (.sh (.int cell)), none]) := by
      have b1 := fmod_lt (x := cell) (m := 2147483629) (by omega)
      have b2 := mul7919 (z := z + 1) (by omega) (by omega)
      walk_at "ss"
      refine gPow_s ⟨by omega, by omega, by omega⟩ ?_
      walk_at "ss"
      have b3 := fmod_lt (x := (cell.fmod 2147483629 + 7919 * (z + 1) + 1) ^ (5 : Int).toNat) (m := 2147483647) (by omega)
      refine gPow_s ⟨by omega, by omega, by omega⟩ ?_
      walk_at "ss"
      refine gMod_s (by omega) ?_
      walk_at "ss"
      exact fin _ _ _ (fmod_lt h0).1 (fmod_lt h0).2
    walk_at "ss"
    refine ite_i (fun _ => ?_) fun _ => ?_
    · walk_at "ss"
      refine ite_i (fun _ => ?_) fun _ => ?_
      · walk_at "ss"
        refine gFdiv_s ⟨by omega, by omega⟩ ?_
        walk_at "ss"
        refine gMod_s (by omega) ?_
        walk_at "ss"
        exact fin _ _ _ (fmod_lt h0).1 (fmod_lt h0).2
      · walk_at "s"
        exact last
    · walk_at "s"
      walk_at "s"
      exact last
  refine ite_i (fun hne => ?_) fun _ => ?_
  · have hns : ns.map PV.int ≠ [] := fun e => by
      rw [e] at hne
      have : eqP (.tup []) (.tup []) = true := eqP_iff.mpr rfl
      simp [this] at hne
    obtain ⟨p, hp⟩ := atI_mod (x := x) hns
    obtain ⟨v, _, rfl⟩ := List.mem_map.mp (atI_mem hp)
    have hlen : 0 < (ns.map PV.int).length := List.length_pos_iff.mpr hns
    walk_at "ss"
    refine gMod_s (by omega) ?_
    refine gIx_lst hp ?_
    walk_at "s"
    exact tail v _
  · walk_at "s"
    exact tail 5 _

end PL
set_option autoImplicit false
namespace PL
open PySem PySem.Spec L2
open PyProof.Rows hiding St
set_option maxHeartbeats 4000000
local macro_rules | `(tactic| walk_at "env") => `(tactic| first | (dsimp only [back, owOf, owAt, wipeE, mergeE, List.set_cons_zero, List.set_cons_succ, List.getElem?_cons_zero, List.getElem?_cons_succ, Option.join]; exact rfl) | exact rfl)
local macro_rules | `(tactic| walk_at "s") => `(tactic| first
  | (with_reducible refine sSeq_s ?_) | ((with_reducible refine' fVar_s ?a ?_); (case a => rfl)) | (with_reducible refine fC_s ?_) | (with_reducible refine fOp_s ?_) | (with_reducible refine fCons_s ?_) | (with_reducible refine fNil_s ?_)
  | (with_reducible refine sSet_s ?_) | ((with_reducible refine' kSet_e ?a ?b ?_); (case a => rfl); (case b => walk_at "env")) | (with_reducible refine sIf_s ?_) | (with_reducible refine fTest_k ?_) | (with_reducible refine kTest_s ?_) | (with_reducible refine sRet_s ?_) | (with_reducible refine kRet_s ?_) | (with_reducible refine sNext_s ?_)
  | (with_reducible refine kSh_s ?_) | (with_reducible refine kSh_o ?_) | (with_reducible refine gEq_int ?_) | (with_reducible refine gNe_int ?_) | (with_reducible refine gEq_str ?_) | (with_reducible refine gNe_str ?_) | ((with_reducible refine' kMine_e ?a ?b ?_); (case a => rfl); (case b => walk_at "env")) | ((with_reducible refine' kMine_p ?a ?b ?_); (case a => rfl); (case b => walk_at "env"))
  | ((with_reducible refine' kOp_s ?a ?_); (case a => rfl)) | ((with_reducible refine' fVar_a ?a ?_); (case a => rfl))
  | (with_reducible refine fTup_s ?_) | ((with_reducible refine' kTup_s ?a ?b ?_); (case a => rfl); (case b => exact lineB rfl)) | (with_reducible refine lDisp_s ?_) | ((with_reducible refine' kDisp_s ?a ?b ?_); (case a => rfl); (case b => exact lineB rfl)) | (with_reducible refine fNew_s ?_)
  | (with_reducible refine fSh_s ?_) | (with_reducible refine fCall_s ?_) | (with_reducible refine fCallK_s ?_) | ((with_reducible refine' kSetL_e ?a ?b ?_); (case a => rfl); (case b => walk_at "env")) | (with_reducible refine And.intro rfl ?_) | ((with_reducible refine' callR_s ?a ?b ?_); (case a => rfl); (case b => rfl)) | ((with_reducible refine' kBack_s ?a ?_); (case a => walk_at "env"))
  | (with_reducible refine sDrop_s ?_) | (with_reducible refine sRetN_s ?_) | (with_reducible refine sRetL_s ?_) | (with_reducible refine sRetC_s ?_) | (with_reducible refine sSetL_s ?_) | (with_reducible refine sSetC_s ?_) | (with_reducible refine sAsg_s ?_) | ((with_reducible refine' kAsg_s ?a ?_); (case a => rfl)) | (with_reducible refine sAsgL_s ?_) | ((with_reducible refine' kAsgL_s ?a ?_); (case a => rfl)) | (with_reducible refine sPar_s ?_) | ((with_reducible refine' kPar_s ?a ?_); (case a => rfl)) | (with_reducible refine sStL_s ?_) | ((with_reducible refine' kStL_s ?a ?_); (case a => rfl)) | ((with_reducible refine' kStL2_e ?a ?b ?c ?_); (case a => rfl); (case b => rfl); (case c => walk_at "env")) | (with_reducible refine sFor_s ?_)
  | (with_reducible refine fTru_k ?_) | (with_reducible refine kTru_b ?_) | ((with_reducible refine' kTru_s ?a ?_); (case a => rfl)) | (with_reducible refine fAndT_s ?_) | (with_reducible refine fOrT_s ?_) | (with_reducible refine fNotT_s ?_) | (with_reducible refine fYes_s ?_) | (with_reducible refine fAndV_s ?_) | (with_reducible refine fOrV_s ?_) | (with_reducible refine kAnd_s ?_) | (with_reducible refine kOr_s ?_) | (with_reducible refine fNotV_s ?_) | (with_reducible refine kNot_s ?_) | (with_reducible refine fIfE_s ?_) | (with_reducible refine fChain_s ?_) | ((with_reducible refine' kCh_s ?a ?_); (case a => rfl)) | (with_reducible refine kCh2_s ?_)
  | (with_reducible refine oNo_s ?_) | (with_reducible refine oPt_s ?_) | (with_reducible refine kPt_s ?_) | (with_reducible refine fSl_s ?_) | ((with_reducible refine' kSl_s ?a ?_); (case a => rfl)) | ((with_reducible refine' kSl_a ?a ?b ?_); (case a => rfl); (case b => rfl)) | (with_reducible refine fUn_s ?_) | ((with_reducible refine' kUn_s ?a ?_); (case a => rfl))
  | (with_reducible refine fCB_s ?_) | ((with_reducible refine' kCB_s ?a ?b ?_); (case a => rfl); (case b => rfl)) | (with_reducible refine lCB_s ?_) | (with_reducible refine fCBL_s ?_) | ((with_reducible refine' kCBL_s ?a ?_); (case a => rfl)) | (with_reducible refine lCBL_s ?_) | (with_reducible refine lCatEL_s ?_) | (with_reducible refine fEqL_s ?_) | (with_reducible refine fIxL_s ?_) | (with_reducible refine lRepL_s ?_) | (with_reducible refine fJoinL_s ?_) | (with_reducible refine kJoin_s ?_) | (with_reducible refine fKIx_s ?_)
  | ((with_reducible refine' fFrz_s ?a ?_); (case a => rfl)) | ((with_reducible refine' fFrz_e ?a ?b ?_); (case a => rfl); (case b => walk_at "env")) | ((with_reducible refine' fMut_s ?a ?_); (case a => rfl))
  | (with_reducible refine iAnyF_s ?_) | ((with_reducible refine' kItr_s ?a ?_); (case a => rfl)) | (with_reducible refine iNwF_s ?_) | (with_reducible refine iRg1F_s ?_) | (with_reducible refine iRg2F_s ?_) | (with_reducible refine iZpF_s ?_) | ((with_reducible refine' kZip_s ?a ?_); (case a => rfl)) | (with_reducible refine lLc_s ?_)
  | ((with_reducible refine' kOp_a ?a ?b ?_); (case a => rfl); (case b => rfl)) | (with_reducible refine lSrtK_s ?_) | (with_reducible refine ite_t ?_) | (with_reducible refine ite_f ?_) | (with_reducible refine ite_nt ?_) | (with_reducible refine ite_nf ?_))
local macro_rules | `(tactic| walk_at "ss") => `(tactic| repeat walk_at "s")
local macro_rules | `(tactic| walk_at "lit") => `(tactic| first | ((with_reducible refine' ite_no ?a ?_); (case a => first | decide | exact decide_eq_true rfl | (refine decide_eq_false ?_; simp; done) | exact rfl)) | ((with_reducible refine' ite_yes ?a ?_); (case a => first | decide | exact decide_eq_true rfl | (refine decide_eq_false ?_; simp; done) | exact rfl)) | ((with_reducible refine' ite_nno ?a ?_); (case a => first | decide | exact decide_eq_true rfl | (refine decide_eq_false ?_; simp; done) | exact rfl)) | ((with_reducible refine' ite_nyes ?a ?_); (case a => first | decide | exact decide_eq_true rfl | (refine decide_eq_false ?_; simp; done) | exact rfl)))
local macro_rules | `(tactic| walk_at "sl") => `(tactic| repeat (first | walk_at "s" | walk_at "lit"))
noncomputable def fb__law_names : VEnv → Fl :=
  (sSeq (sSet 2 (fC (.str "abcdefghijklmnopqrstuvwxyz")))
  (sSeq (sSet 4 (fNew (lLc (iRg1F (fC (.int 8))) (.one 3) fYes (fSh (fCall 2 f__law_draw (fCons (fVar 0) (fCons (fC (.int 26)) fNil)) [])) [3])))
  (sSeq (sSetL 5 (lDisp fNil))
  (sSeq (sFor (iRg1F (fC (.int 8))) (.one 3) (sSeq (sSet 6 (fJoinL (fC (.str "")) (lLc (iAnyF (fSl (fVar 4) oNo (oPt (fVar 3)))) (.one 7) fYes (fOp gIx (fVar 2) (fVar 7)) [7])))
  (sSetL 5 (lCatEL (fVar 5) (lDisp (fCons (fOp gAdd (fVar 6) (fOp gIx (fVar 2) (fOp gIx (fVar 4) (fVar 3)))) (fCons (fOp gAdd (fVar 6) (fOp gIx (fVar 2) (fOp gMod (fOp gAdd (fOp gIx (fVar 4) (fVar 3)) (fC (.int 1))) (fC (.int 26))))) fNil)))))))
  (sRet (fCBL gTupL (lCBL gSortedL (lLc (iRg1F (fVar 1)) (.one 3) fYes (fMut false gPopAt 5 (fCons (fSh (fCall 2 f__law_draw (fCons (fVar 0) (fCons (fCB gLen (fCons (fVar 5) fNil)) fNil)) [])) fNil)) [3]))))))))
noncomputable def f__law_names : List SV → RsC := fDef 8 fb__law_names
theorem map_erase {α β : Type} (f : α → β) : ∀ (xs : List α) (i : Nat), (xs.map f).eraseIdx i = (xs.eraseIdx i).map f
  | [], _ => rfl
  | x :: r, 0 => rfl
  | x :: r, i + 1 => by rw [List.map_cons, List.eraseIdx_cons_succ, List.eraseIdx_cons_succ, List.map_cons, map_erase f r i]
theorem erase_perm {α : Type} : ∀ (xs : List α) (j : Nat) (w : α), xs[j]? = some w → (w :: xs.eraseIdx j).Perm xs
  | [], _, _, h => by simp at h
  | x :: r, 0, w, h => by simp at h; subst h; exact .refl _
  | x :: r, j + 1, w, h => by
    rw [List.eraseIdx_cons_succ]
    exact (List.Perm.swap x w _).trans ((erase_perm r j w (by simpa using h)).cons x)
theorem words_join (ns : List Nat) : (Str.join "" (ns.map chr1)).cps.toList = ns.map (97 + ·) := by
  rw [join0_cps, List.map_map]
  induction ns with
  | nil => rfl
  | cons n r ih => rw [List.map_cons, List.flatten_cons, ih]; rfl
theorem chr1_sum (ns : List Nat) : ((ns.map chr1).map (·.length)).sum = ns.length := by
  induction ns with
  | nil => rfl
  | cons n r ih => rw [List.map_cons, List.map_cons, List.sum_cons, ih, List.length_cons]; show 1 + _ = _; omega
theorem wd_of (ns : List Nat) (n k : Nat) (h : ∀ x ∈ ns, x < 26) (hn : n < 26) (hl : ns.length + 1 ≤ k) : Wd k (Str.join "" (ns.map chr1) ++ chr1 n) ∧ (Str.join "" (ns.map chr1) ++ chr1 n).length = ns.length + 1 := by
  have e : (Str.join "" (ns.map chr1) ++ chr1 n).cps.toList = ns.map (97 + ·) ++ [97 + n] := by rw [app_cps, words_join]; rfl
  have el : (Str.join "" (ns.map chr1) ++ chr1 n).length = ns.length + 1 := by rw [len_cps, e]; simp
  refine ⟨⟨by omega, by omega, fun c hc => ?_⟩, el⟩
  rw [e] at hc
  rcases List.mem_append.mp hc with hc | hc
  · obtain ⟨x, hx, rfl⟩ := List.mem_map.mp hc
    have := h x hx; omega
  · rw [List.mem_singleton] at hc; omega
section
variable {K : TV → VEnv → Prop} {KP : List PV → VEnv → Prop} {e : VEnv}
theorem gIx_abc {i : Int} (h0 : 0 ≤ i) (h1 : i < 26) (k : K (.sh (.str (chr1 i.toNat))) e) : kOp gIx K (.sh (.str abc)) (.sh (.int i)) e := by
  refine kOp_s ?_ k
  obtain ⟨n, rfl⟩ := Int.eq_ofNat_of_zero_le h0
  unfold gIx
  dsimp only
  rw [if_pos (lineB rfl)]
  have h2 : n < 26 := by omega
  have e2 : atI abc.cps.toList (n : Int) = some (97 + n) := atI_nat (by
    have : ∀ n, n < 26 → abc.cps.toList[n]? = some (97 + n) := by decide
    exact this n h2)
  rw [e2]; rfl
theorem gAdd_str {i j : Str} (h : i.length + j.length ≤ sizeLine) (k : K (.sh (.str (i ++ j))) e) : kOp gAdd K (.sh (.str i)) (.sh (.str j)) e := kOp_s (by unfold gAdd; dsimp only; rw [if_pos h]) k
theorem gAdd_tup {i j : List PV} (h : i.length + j.length ≤ sizeLine) (k : K (.sh (.tup (i ++ j))) e) : kOp gAdd K (.sh (.tup i)) (.sh (.tup j)) e := kOp_s (by unfold gAdd; dsimp only; rw [if_pos h]) k
theorem gAdd_lst {i j : List PV} (h : i.length + j.length ≤ sizeLine) (k : K (.sh (.bx .lst (i ++ j))) e) : kOp gAdd K (.sh (.bx .lst i)) (.sh (.bx .lst j)) e := kOp_s (by unfold gAdd; dsimp only; rw [if_pos h]) k
theorem gSortL_strs {us : List Str} (k : KP (sortP (us.map PV.str)) e) : klCBL gSortedL KP (us.map PV.str) e := klCBL_s (by unfold gSortedL; rw [if_pos (srtb_strs us)]) k
theorem gPop_nat {i : Nat} {ts : List TV} {b : Bool} {xs : List PV} {j : Nat} {v : PV} (h1 : e[i]? = some (some (.ow b xs))) (h2 : views e ts = some [.int (j : Nat)]) (h3 : xs[j]? = some v) (hz : xs.length ≤ 1000000) (k : K (.sh v) (e.set i (some (.ow b (xs.eraseIdx j))))) : kMut false gPopAt i K ts e := by
  have hj : j < xs.length := (List.getElem?_eq_some_iff.mp h3).1
  refine kMut_v h1 h2 ?_ k
  unfold gPopAt
  dsimp only
  rw [if_pos ⟨by omega, by omega⟩]
  have : seqIndex? (j : Int) xs.length = some j := (ixN_seq (by unfold ixN; rw [if_pos (by omega), if_pos (by omega)]; rfl)).1
  rw [this]
  dsimp only
  rw [h3]
theorem gApp_s {i : Nat} {b : Bool} {xs : List PV} {v : PV} (h1 : e[i]? = some (some (.ow b xs))) (hz : xs.length < 1000000) (k : K (.sh .non) (e.set i (some (.ow b (xs ++ [v]))))) : kMut true gAppend i K [.sh v] e :=
  kMut_k h1 rfl (by unfold gAppend; dsimp only; rw [if_pos (by rw [sizeLine_eq]; omega)]) k
theorem pcut_to0 {α : Type} (xs : List α) (k : Nat) : pcut xs none (some (k : Int)) = xs.take k := pcut_to xs k
theorem gSl_to {xs : List PV} {k : Nat} (h : K (.sh (.bx .lst (xs.take k))) e) : kSl K (.sh (.bx .lst xs)) none (some (k : Int)) e := kSl_s (by unfold gSl; dsimp only; rw [pcut_to]) h
theorem gSlT_to {xs : List PV} {k : Nat} (h : K (.sh (.tup (xs.take k))) e) : kSl K (.sh (.tup xs)) none (some (k : Int)) e := kSl_s (by unfold gSl; dsimp only; rw [pcut_to]) h
theorem gSlT_from {xs : List PV} {k : Nat} (h : K (.sh (.tup (xs.drop k))) e) : kSl K (.sh (.tup xs)) (some (k : Int)) none e := kSl_s (by unfold gSl; dsimp only; rw [pcut_from]) h
theorem gSl_from {xs : List PV} {k : Nat} (h : K (.sh (.bx .lst (xs.drop k))) e) : kSl K (.sh (.bx .lst xs)) (some (k : Int)) none e := kSl_s (by unfold gSl; dsimp only; rw [pcut_from]) h
end
theorem names_s {X : VX} {K : SV → VEnv → Prop} {c n : Nat} {fd : List PV} (h : FeedOk c fd) (hc : c + 24 ≤ 1000000000000) (hn : n ≤ 16)
    (k : ∀ (ws us : List Str) (fd' : List PV), ws.length = n → ws.Nodup → (∀ w ∈ ws, Wd 8 w) → ws.map PV.str = sortP (us.map PV.str) → FeedOk (c + 24) fd' → K (.sh (.tup (ws.map PV.str))) [some (.ow true fd'), none]) : Sc X (f__law_names [.ow true fd, .sh (.int (n : Nat))]) K := by
  unfold f__law_names
  refine fDef_s ?_
  show Ss _ (fb__law_names [some (.ow true fd), some (.sh (.int (n : Nat))), none, none, none, none, none, none])
  unfold fb__law_names
  walk_at "ss"
  refine kRg1_s (by omega) ?_
  refine kLc_i (fun i acc e => ∃ (fd' : List PV) (ns : List Nat), e = [some (.ow true fd'), some (.sh (.int (n : Nat))), some (.sh (.str abc)), none, none, none, none, none] ∧ FeedOk (c + i) fd' ∧ acc = ns.map (fun n => PV.int (n : Nat)) ∧ ns.length = i ∧ ∀ x ∈ ns, x < 26) (by simp) ⟨fd, [], rfl, h, rfl, rfl, nofun⟩ (by rintro i acc e ⟨_, ns, _, _, rfl, hl, _⟩; simp [hl]) ?_ ?_
  · rintro i x acc e T F hi ⟨fd1, ns, rfl, h1, rfl, hl, hb⟩ hT -
    have hi8 : i < 8 := by have := (List.getElem?_eq_some_iff.mp hi).1; simpa using this
    refine ⟨_, rfl, ?_⟩
    walk_at "ss"
    refine draw_s h1 (by omega) (by omega) (by omega) fun r fd2 r0 r1 h2 => ?_
    walk_at "ss"
    refine hT _ _ ⟨fd2, ns ++ [r.toNat], rfl, h2, by rw [List.map_append, List.map_singleton, Int.toNat_of_nonneg r0], by simp [hl], ?_⟩
    · intro x hx
      rcases List.mem_append.mp hx with hx | hx
      · exact hb x hx
      · rw [List.mem_singleton] at hx; omega
  rintro acc e ⟨fd1, ns, rfl, h1, rfl, hl, hb⟩
  have hl8 : ns.length = 8 := by simpa using hl
  walk_at "ss"
  refine kRg1_s (by omega) ?_
  refine kFor_i (fun i e => ∃ (kk hd : Option SV) (ws : List Str), e = [some (.ow true fd1), some (.sh (.int (n : Nat))), some (.sh (.str abc)), kk, some (.sh (.bx .lst (ns.map fun n => PV.int (n : Nat)))), some (.ow false (ws.map PV.str)), hd, none] ∧ free e 3 = true ∧ free e 6 = true ∧ ws.length = 2 * i ∧ ws.Nodup ∧ ∀ w ∈ ws, Wd i w)
    ⟨none, none, [], rfl, rfl, rfl, rfl, List.nodup_nil, nofun⟩ ?_ ?_
  · rintro i x e N hx ⟨kk, hd, ws, rfl, f3, f6, hlen, hnd, hw⟩ hN
    have hi8 : i < 8 := by have := (List.getElem?_eq_some_iff.mp hx).1; simpa using this
    have ex : x = .int (i : Nat) := by
      rw [List.getElem?_map, List.getElem?_range (by simpa using hi8)] at hx
      simpa using hx.symm
    subst ex
    have hlt : (ns.take i).length = i := by rw [List.length_take]; omega
    obtain ⟨v, hv⟩ : ∃ v, ns[i]? = some v := ⟨ns[i], List.getElem?_eq_getElem (by omega)⟩
    have hv26 := hb v (List.mem_of_getElem? hv)
    have hS : atI (ns.map fun n => PV.int (n : Nat)) (i : Int) = some (.int v) := atI_nat (by rw [List.getElem?_map, hv]; rfl)
    have hb' : ∀ x ∈ ns.take i, x < 26 := fun x hx => hb x (List.mem_of_mem_take hx)
    obtain ⟨m1, m2⟩ := fmod_lt (x := (v : Int) + 1) (m := 26) (by omega)
    have w1 := wd_of (ns.take i) v (i + 1) hb' hv26 (by omega)
    have w2 := wd_of (ns.take i) (((v : Int) + 1).fmod 26).toNat (i + 1) hb' (by omega) (by omega)
    have hz : ∀ m : Nat, (Str.join "" ((ns.take i).map chr1)).length + (chr1 m).length ≤ sizeLine := fun m => by
      rw [sizeLine_eq, len_cps, words_join]; simp; show _ + 1 ≤ _; omega
    refine ⟨_, by unfold setT; dsimp only; rw [if_pos f3], ?_⟩
    show Ss _ (sSeq _ _ [some (.ow true fd1), some (.sh (.int (n : Nat))), some (.sh (.str abc)), some (.sh (.int (i : Nat))), some (.sh (.bx .lst (ns.map fun n => PV.int (n : Nat)))), some (.ow false (ws.map PV.str)), hd, none])
    walk_at "ss"
    rw [pcut_to]
    refine kLc_p (fun p => match p with | .int j => some (.str (chr1 j.toNat)) | _ => none) (by simp; omega) ?_ ?_
    · rintro x T F hx hT -
      rw [← List.map_take] at hx
      obtain ⟨m, hm, rfl⟩ := List.mem_map.mp hx
      have := hb m (List.mem_of_mem_take hm)
      refine ⟨_, rfl, ?_⟩
      walk_at "ss"
      exact gIx_abc (by omega) (by omega) (hT _ _ rfl rfl)
    have ef : ((ns.map fun n => PV.int (n : Nat)).take i).filterMap (fun p => match p with | .int j => some (.str (chr1 j.toNat)) | _ => none) = ((ns.take i).map chr1).map PV.str := by
      rw [← List.map_take, List.filterMap_map, List.map_map, ← List.filterMap_eq_map]
      congr 1
    rw [ef]
    refine ⟨_, strsOf_map _, ?_, ?_⟩
    · rw [chr1_sum, List.length_map, hlt]; show i + i * 0 ≤ _; omega
    refine kSet_s (by exact f6) ?_
    walk_at "ss"
    refine gIx_lst hS ?_
    refine gIx_abc (by omega) (by omega) ?_
    refine gAdd_str (hz _) ?_
    walk_at "ss"
    refine gIx_lst hS ?_
    walk_at "ss"
    refine gIx_abc (by omega) (by omega) ?_
    refine gAdd_str (hz _) ?_
    walk_at "ss"
    refine kCat_a (xs := ws.map PV.str) rfl (by rw [sizeLine_eq]; simp; omega) ⟨rfl, ?_⟩
    refine hN _ ⟨_, _, ws ++ [Str.join "" ((ns.take i).map chr1) ++ chr1 v, Str.join "" ((ns.take i).map chr1) ++ chr1 (((v : Int) + 1).fmod 26).toNat], by rw [List.map_append]; rfl, rfl, rfl, ?_, ?_, ?_⟩
    · simp [hlen]; omega
    · rw [List.nodup_append]
      refine ⟨hnd, ?_, ?_⟩
      · rw [List.nodup_cons, List.mem_singleton]
        refine ⟨fun e => ?_, by simp⟩
        have : (Str.join "" ((ns.take i).map chr1) ++ chr1 v).cps.toList = (Str.join "" ((ns.take i).map chr1) ++ chr1 (((v : Int) + 1).fmod 26).toNat).cps.toList := by rw [e]
        rw [app_cps, app_cps] at this
        have := List.append_cancel_left this
        have h2 : 97 + v = 97 + (((v : Int) + 1).fmod 26).toNat := by
          have h3 : [97 + v] = [97 + (((v : Int) + 1).fmod 26).toNat] := this
          exact List.head_eq_of_cons_eq h3
        rw [Int.fmod_eq_emod_of_nonneg _ (by omega)] at h2
        omega
      · intro x hx y hy e
        have h1 := (hw x hx).2.1
        have h2 : y.length = i + 1 := by
          rcases List.mem_cons.mp hy with rfl | hy
          · rw [w1.2, hlt]
          · rw [List.mem_singleton] at hy; subst hy; rw [w2.2, hlt]
        rw [e] at h1; omega
    · intro w hw'
      rcases List.mem_append.mp hw' with h | h
      · exact ⟨(hw w h).1, Nat.le_succ_of_le (hw w h).2.1, (hw w h).2.2⟩
      · rcases List.mem_cons.mp h with rfl | h
        · exact w1.1
        · rw [List.mem_singleton] at h; subst h; exact w2.1
  intro e he
  obtain ⟨kk, hd, ws, he, f3, f6, hlen, hnd, hw⟩ := he
  subst he
  have hl16 : ws.length = 16 := by simpa using hlen
  have hw8 : ∀ w ∈ ws, Wd 8 w := by simpa using hw
  walk_at "ss"
  refine kRg1_s (by omega) ?_
  refine kLc_i (fun i acc e => ∃ (fd' : List PV) (us rs : List Str), e = [some (.ow true fd'), some (.sh (.int (n : Nat))), some (.sh (.str abc)), none, some (.sh (.bx .lst (ns.map fun n => PV.int (n : Nat)))), some (.ow false (rs.map PV.str)), hd, none] ∧ acc = us.map PV.str ∧ FeedOk (c + 8 + i) fd' ∧ us.length = i ∧ (us ++ rs).Perm ws) (by simp; omega)
    ⟨fd1, [], ws, rfl, rfl, h1.up (by simp), rfl, .refl _⟩ (by rintro i acc e ⟨_, us, _, _, rfl, _, hl, _⟩; simp [hl]) ?_ ?_
  · rintro i x acc e T F hx ⟨fd2, us, rs, rfl, rfl, h2, hu, hp⟩ hT -
    have hin : i < n := by have := (List.getElem?_eq_some_iff.mp hx).1; simpa using this
    have hlr := hp.length_eq
    rw [List.length_append] at hlr
    refine ⟨_, rfl, ?_⟩
    walk_at "ss"
    refine draw_s h2 (by omega) (by rw [List.length_map]; omega) (by rw [List.length_map]; omega) fun r fd3 r0 r1 h3 => ?_
    walk_at "ss"
    obtain ⟨j, rfl⟩ := Int.eq_ofNat_of_zero_le r0
    rw [List.length_map] at r1
    obtain ⟨w, hwj⟩ : ∃ w, rs[j]? = some w := ⟨rs[j], List.getElem?_eq_getElem (by omega)⟩
    refine gPop_nat (j := j) (xs := rs.map PV.str) (v := .str w) rfl rfl (by rw [List.getElem?_map, hwj]; rfl) (by simp; omega) ?_
    refine hT _ _ ⟨fd3, us ++ [w], rs.eraseIdx j, by rw [← map_erase]; rfl, by simp, h3, by simp [hu], ?_⟩
    rw [List.append_assoc]
    exact .trans (List.Perm.append_left us (erase_perm rs j w hwj)) hp
  rintro acc e ⟨fd2, us, rs, rfl, rfl, h2, hu, hp⟩
  refine gSortL_strs ?_
  obtain ⟨vs, ev, pv⟩ := sortP_strs us
  have hun : us.length = n := by simpa using hu
  have hnd' : us.Nodup := (List.nodup_append.mp ((hp.nodup_iff).mpr hnd)).1
  rw [ev]
  have h3 : FeedOk (c + 24) fd2 := h2.up (by simp; omega)
  walk_at "ss"
  show K (.sh (.tup (vs.map PV.str))) [some (.ow true fd2), none]
  exact k vs us fd2 (by rw [pv.length_eq, hun]) ((pv.nodup_iff).mpr hnd') (fun w hw' => hw8 w (hp.mem_iff.mp (List.mem_append_left _ (pv.mem_iff.mp hw')))) ev.symm h3

end PL
set_option autoImplicit false
namespace PL
open PySem PySem.Spec L2
open PyProof.Rows hiding St
set_option maxHeartbeats 4000000
local macro_rules | `(tactic| walk_at "env") => `(tactic| first | (dsimp only [back, owOf, owAt, wipeE, mergeE, List.set_cons_zero, List.set_cons_succ, List.getElem?_cons_zero, List.getElem?_cons_succ, Option.join]; exact rfl) | exact rfl)
local macro_rules | `(tactic| walk_at "s") => `(tactic| first
  | (with_reducible refine sSeq_s ?_) | ((with_reducible refine' fVar_s ?a ?_); (case a => rfl)) | (with_reducible refine fC_s ?_) | (with_reducible refine fOp_s ?_) | (with_reducible refine fCons_s ?_) | (with_reducible refine fNil_s ?_)
  | (with_reducible refine sSet_s ?_) | ((with_reducible refine' kSet_e ?a ?b ?_); (case a => rfl); (case b => walk_at "env")) | (with_reducible refine sIf_s ?_) | (with_reducible refine fTest_k ?_) | (with_reducible refine kTest_s ?_) | (with_reducible refine sRet_s ?_) | (with_reducible refine kRet_s ?_) | (with_reducible refine sNext_s ?_)
  | (with_reducible refine kSh_s ?_) | (with_reducible refine kSh_o ?_) | (with_reducible refine gEq_int ?_) | (with_reducible refine gNe_int ?_) | (with_reducible refine gEq_str ?_) | (with_reducible refine gNe_str ?_) | ((with_reducible refine' kMine_e ?a ?b ?_); (case a => rfl); (case b => walk_at "env")) | ((with_reducible refine' kMine_p ?a ?b ?_); (case a => rfl); (case b => walk_at "env"))
  | ((with_reducible refine' kOp_s ?a ?_); (case a => rfl)) | ((with_reducible refine' fVar_a ?a ?_); (case a => rfl))
  | (with_reducible refine fTup_s ?_) | ((with_reducible refine' kTup_s ?a ?b ?_); (case a => rfl); (case b => exact lineB rfl)) | (with_reducible refine lDisp_s ?_) | ((with_reducible refine' kDisp_s ?a ?b ?_); (case a => rfl); (case b => exact lineB rfl)) | (with_reducible refine fNew_s ?_)
  | (with_reducible refine fSh_s ?_) | (with_reducible refine fCall_s ?_) | (with_reducible refine fCallK_s ?_) | ((with_reducible refine' kSetL_e ?a ?b ?_); (case a => rfl); (case b => walk_at "env")) | (with_reducible refine And.intro rfl ?_) | ((with_reducible refine' callR_s ?a ?b ?_); (case a => rfl); (case b => rfl)) | ((with_reducible refine' kBack_s ?a ?_); (case a => walk_at "env"))
  | (with_reducible refine sDrop_s ?_) | (with_reducible refine sRetN_s ?_) | (with_reducible refine sRetL_s ?_) | (with_reducible refine sRetC_s ?_) | (with_reducible refine sSetL_s ?_) | (with_reducible refine sSetC_s ?_) | (with_reducible refine sAsg_s ?_) | ((with_reducible refine' kAsg_s ?a ?_); (case a => rfl)) | (with_reducible refine sAsgL_s ?_) | ((with_reducible refine' kAsgL_s ?a ?_); (case a => rfl)) | (with_reducible refine sPar_s ?_) | ((with_reducible refine' kPar_s ?a ?_); (case a => rfl)) | (with_reducible refine sStL_s ?_) | ((with_reducible refine' kStL_s ?a ?_); (case a => rfl)) | ((with_reducible refine' kStL2_e ?a ?b ?c ?_); (case a => rfl); (case b => rfl); (case c => walk_at "env")) | (with_reducible refine sFor_s ?_)
  | (with_reducible refine fTru_k ?_) | (with_reducible refine kTru_b ?_) | ((with_reducible refine' kTru_s ?a ?_); (case a => rfl)) | (with_reducible refine fAndT_s ?_) | (with_reducible refine fOrT_s ?_) | (with_reducible refine fNotT_s ?_) | (with_reducible refine fYes_s ?_) | (with_reducible refine fAndV_s ?_) | (with_reducible refine fOrV_s ?_) | (with_reducible refine kAnd_s ?_) | (with_reducible refine kOr_s ?_) | (with_reducible refine fNotV_s ?_) | (with_reducible refine kNot_s ?_) | (with_reducible refine fIfE_s ?_) | (with_reducible refine fChain_s ?_) | ((with_reducible refine' kCh_s ?a ?_); (case a => rfl)) | (with_reducible refine kCh2_s ?_)
  | (with_reducible refine oNo_s ?_) | (with_reducible refine oPt_s ?_) | (with_reducible refine kPt_s ?_) | (with_reducible refine fSl_s ?_) | ((with_reducible refine' kSl_s ?a ?_); (case a => rfl)) | ((with_reducible refine' kSl_a ?a ?b ?_); (case a => rfl); (case b => rfl)) | (with_reducible refine fUn_s ?_) | ((with_reducible refine' kUn_s ?a ?_); (case a => rfl))
  | (with_reducible refine fCB_s ?_) | ((with_reducible refine' kCB_s ?a ?b ?_); (case a => rfl); (case b => rfl)) | (with_reducible refine lCB_s ?_) | (with_reducible refine fCBL_s ?_) | ((with_reducible refine' kCBL_s ?a ?_); (case a => rfl)) | (with_reducible refine lCBL_s ?_) | (with_reducible refine lCatEL_s ?_) | (with_reducible refine fEqL_s ?_) | (with_reducible refine fIxL_s ?_) | (with_reducible refine lRepL_s ?_) | (with_reducible refine fJoinL_s ?_) | (with_reducible refine kJoin_s ?_) | (with_reducible refine fKIx_s ?_)
  | ((with_reducible refine' fFrz_s ?a ?_); (case a => rfl)) | ((with_reducible refine' fFrz_e ?a ?b ?_); (case a => rfl); (case b => walk_at "env")) | ((with_reducible refine' fMut_s ?a ?_); (case a => rfl))
  | (with_reducible refine iAnyF_s ?_) | ((with_reducible refine' kItr_s ?a ?_); (case a => rfl)) | (with_reducible refine iNwF_s ?_) | (with_reducible refine iRg1F_s ?_) | (with_reducible refine iRg2F_s ?_) | (with_reducible refine iZpF_s ?_) | ((with_reducible refine' kZip_s ?a ?_); (case a => rfl)) | (with_reducible refine lLc_s ?_)
  | ((with_reducible refine' kOp_a ?a ?b ?_); (case a => rfl); (case b => rfl)) | (with_reducible refine lSrtK_s ?_) | (with_reducible refine ite_t ?_) | (with_reducible refine ite_f ?_) | (with_reducible refine ite_nt ?_) | (with_reducible refine ite_nf ?_))
local macro_rules | `(tactic| walk_at "ss") => `(tactic| repeat walk_at "s")
local macro_rules | `(tactic| walk_at "lit") => `(tactic| first | ((with_reducible refine' ite_no ?a ?_); (case a => first | decide | exact decide_eq_true rfl | (refine decide_eq_false ?_; simp; done) | exact rfl)) | ((with_reducible refine' ite_yes ?a ?_); (case a => first | decide | exact decide_eq_true rfl | (refine decide_eq_false ?_; simp; done) | exact rfl)) | ((with_reducible refine' ite_nno ?a ?_); (case a => first | decide | exact decide_eq_true rfl | (refine decide_eq_false ?_; simp; done) | exact rfl)) | ((with_reducible refine' ite_nyes ?a ?_); (case a => first | decide | exact decide_eq_true rfl | (refine decide_eq_false ?_; simp; done) | exact rfl)))
local macro_rules | `(tactic| walk_at "sl") => `(tactic| repeat (first | walk_at "s" | walk_at "lit"))
noncomputable def fb__law_some : VEnv → Fl :=
  (sRet (fCB gTup (fCons (fSl (fNew (lLc (iAnyF (fVar 1)) (.one 3) (fTest (fOp (gEqN false) (fSh (fCall 2 f__law_draw (fCons (fVar 0) (fCons (fC (.int 3)) fNil)) [])) (fC (.int 0)))) (fVar 3) [3])) oNo (oPt (fVar 2))) fNil)))
noncomputable def f__law_some : List SV → RsC := fDef 4 fb__law_some
noncomputable def fb__law_words : VEnv → Fl :=
  (sRetL (lCB gList (fCons (fSh (fCall 2 f__law_names (fCons (fVar 0) (fCons (fC (.int 8)) fNil)) [])) fNil)))
noncomputable def f__law_words : List SV → RsC := fDef 1 fb__law_words
noncomputable def fb__law_seen : VEnv → Fl :=
  (sSeq (sSetL 2 (lDisp fNil))
  (sSeq (sFor (iRg1F (fSh (fCall 2 f__law_draw (fCons (fVar 0) (fCons (fC (.int 4)) fNil)) []))) (.one 3) (sSeq (sSet 4 (fNew (lLc (iRg1F (fSh (fCall 2 f__law_draw (fCons (fVar 0) (fCons (fC (.int 4)) fNil)) []))) (.one 5) fYes (fIxL (lDisp (fCons (fTup (fCons (fC (.str "")) fNil)) (fCons (fSh (fCall 3 f__law_some (fCons (fVar 0) (fCons (fVar 1) (fCons (fC (.int 4)) fNil))) [])) fNil))) (fSh (fCall 2 f__law_draw (fCons (fVar 0) (fCons (fC (.int 2)) fNil)) []))) [5])))
  (sDrop (fMut true gAppend 2 (fCons (fCB gTup (fCons (fVar 4) fNil)) fNil)))))
  (sRet (fCB gTup (fCons (fVar 2) fNil)))))
noncomputable def f__law_seen : List SV → RsC := fDef 6 fb__law_seen
/-! ## words, pages that a law draws -/
/-- eight words -/
structure Ws (ws : List Str) : Prop where
  len : ws.length = 8
  wd : ∀ x ∈ ws, Wd 8 x
  rs : RisS ws
  nd : ws.Nodup
theorem Ws.word {ws : List Str} (h : Ws ws) {i : Int} (h0 : 0 ≤ i) (h1 : i < 8) : ∃ z, atI (ws.map PV.str) i = some (.str z) ∧ Wd 8 z := by
  obtain ⟨p, e, hp⟩ := atI_in (xs := ws.map PV.str) h0 (by rw [List.length_map, h.len]; omega)
  obtain ⟨z, hz, rfl⟩ := List.mem_map.mp hp
  exact ⟨z, e, h.wd z hz⟩
section
variable {X : VX} {K : SV → VEnv → Prop} {c : Nat} {fd : List PV}
theorem gList_t {xs : List PV} {e : VEnv} {KP : List PV → VEnv → Prop} (h : xs.length ≤ 1000000) (k : KP xs e) : klCB gList KP [.sh (.tup xs)] e := klCB_s rfl (by unfold gList; dsimp only; rw [if_pos (line6 h)]) k
theorem gList_l {xs : List PV} {e : VEnv} {KP : List PV → VEnv → Prop} (h : xs.length ≤ 1000000) (k : KP xs e) : klCB gList KP [.sh (.bx .lst xs)] e := klCB_s rfl (by unfold gList; dsimp only; rw [if_pos (line6 h)]) k
theorem words_s (h : FeedOk c fd) (hc : c + 24 ≤ 1000000000000) (k : ∀ (ws : List Str) (fd' : List PV), Ws ws → FeedOk (c + 24) fd' → K (.ow false (ws.map PV.str)) [some (.ow true fd')]) : Sc X (f__law_words [.ow true fd]) K := by
  unfold f__law_words
  refine fDef_s ?_
  show Ss _ (fb__law_words [some (.ow true fd)])
  unfold fb__law_words
  walk_at "ss"
  refine names_s (n := 8) h hc (by omega) fun ws us fd' hl hnd hwd hso h' => ?_
  walk_at "ss"
  refine gList_t (by rw [List.length_map]; omega) ?_
  walk_at "ss"
  exact k ws fd' ⟨hl, hwd, sorted_rises hso (fun w hw => (hwd w hw).ok) hnd, hnd⟩ h'
theorem some_s {ws : List Str} {n : Nat} (h : FeedOk c fd) (hc : c + 8 ≤ 1000000000000) (W : Ws ws) (k : ∀ (us : List Str) (fd' : List PV), us.Sublist ws → us.length ≤ n → FeedOk (c + 8) fd' → K (.sh (.tup (us.map PV.str))) [some (.ow true fd'), none, none]) :
    Sc X (f__law_some [.ow true fd, .sh (.bx .lst (ws.map PV.str)), .sh (.int (n : Nat))]) K := by
  have hl := W.len
  unfold f__law_some
  refine fDef_s ?_
  show Ss _ (fb__law_some [some (.ow true fd), some (.sh (.bx .lst (ws.map PV.str))), some (.sh (.int (n : Nat))), none])
  unfold fb__law_some
  walk_at "ss"
  refine kLc_i (xs := ws.map PV.str) (fun i acc e => ∃ (fd' : List PV) (us : List Str), e = [some (.ow true fd'), some (.sh (.bx .lst (ws.map PV.str))), some (.sh (.int (n : Nat))), none] ∧ acc = us.map PV.str ∧ us.Sublist (ws.take i) ∧ FeedOk (c + i) fd') (by rw [List.length_map]; omega)
    ⟨fd, [], rfl, rfl, List.nil_sublist _, h⟩ (by
      rintro i acc e ⟨_, us, _, rfl, hs, _⟩
      have := hs.length_le
      rw [List.length_take] at this
      simp; omega) ?_ ?_
  · rintro i x acc e T F hx ⟨fd1, us, rfl, rfl, hs, h1⟩ hT hF
    rw [List.getElem?_map] at hx
    obtain ⟨z, hz, rfl⟩ := Option.map_eq_some_iff.mp hx
    have hi := (List.getElem?_eq_some_iff.mp hz).1
    refine ⟨_, rfl, ?_⟩
    walk_at "ss"
    refine draw_s h1 (by omega) (by omega) (by omega) fun r fd2 r0 r1 h2 => ?_
    walk_at "ss"
    refine ite_i (fun _ => ?_) fun _ => ?_
    · walk_at "ss"
      exact hT _ _ ⟨fd2, us ++ [z], rfl, by simp, by rw [List.take_add_one, hz]; exact hs.append_right _, h2⟩
    · exact hF _ ⟨fd2, us, rfl, rfl, by rw [List.take_add_one]; exact hs.trans (List.sublist_append_left _ _), h2⟩
  intro acc e he
  obtain ⟨fd1, us, he, rfl, hs, h1⟩ := he
  subst he
  rw [List.length_map] at hs h1
  rw [List.take_of_length_le (Nat.le_refl _)] at hs
  walk_at "ss"
  rw [pcut_to, ← List.map_take]
  exact k (us.take n) fd1 ((List.take_sublist n us).trans hs) (by rw [List.length_take]; omega) (h1.up (by omega))
theorem seen_s {ws : List Str} (h : FeedOk c fd) (hc : c + 90 ≤ 1000000000000) (W : Ws ws) (k : ∀ (v : PV) (fd' : List PV), S3 v → FeedOk (c + 90) fd' → K (.sh v) [some (.ow true fd'), none]) :
    Sc X (f__law_seen [.ow true fd, .sh (.bx .lst (ws.map PV.str))]) K := by
  unfold f__law_seen
  refine fDef_s ?_
  show Ss _ (fb__law_seen [some (.ow true fd), some (.sh (.bx .lst (ws.map PV.str))), none, none, none, none])
  unfold fb__law_seen
  walk_at "ss"
  refine draw_s h (by omega) (by omega) (by omega) fun many fd2 m0 m1 h2 => ?_
  walk_at "ss"
  refine kRg1_s (by omega) ?_
  refine kFor_i (fun i e => ∃ (fd' : List PV) (z3 z4 z5 : Option SV) (ps : List PV), e = [some (.ow true fd'), some (.sh (.bx .lst (ws.map PV.str))), some (.ow false ps), z3, z4, z5] ∧ free e 3 = true ∧ free e 4 = true ∧ FeedOk (c + 1 + 28 * i) fd' ∧ ps.length ≤ i ∧ ∀ q ∈ ps, S2 q)
    ⟨fd2, none, none, none, [], rfl, rfl, rfl, h2, by simp, nofun⟩ ?_ ?_
  · rintro i x e N hx ⟨fd3, z3, z4, z5, ps, rfl, f3, f4, h3, hl, hps⟩ hN
    have hi : i < 3 := by
      have := (List.getElem?_eq_some_iff.mp hx).1
      simp at this; omega
    refine ⟨_, by unfold setT; dsimp only; rw [if_pos f3], ?_⟩
    show Ss _ (sSeq _ _ [some (.ow true fd3), some (.sh (.bx .lst (ws.map PV.str))), some (.ow false ps), some (.sh x), z4, z5])
    walk_at "ss"
    refine draw_s h3 (by omega) (by omega) (by omega) fun jj fd4 j0 j1 h4 => ?_
    walk_at "ss"
    refine kRg1_s (by omega) ?_
    refine kLc_i (fun j acc e => ∃ (fd' : List PV), e = [some (.ow true fd'), some (.sh (.bx .lst (ws.map PV.str))), some (.ow false ps), some (.sh x), z4, none] ∧ FeedOk (c + 1 + 28 * i + 1 + 9 * j) fd' ∧ acc.length ≤ j ∧ ∀ q ∈ acc, S1 q) (by simp; omega)
      ⟨fd4, rfl, h4, by simp, nofun⟩ (by rintro i acc e ⟨_, _, _, hl, _⟩; exact hl) ?_ ?_
    · rintro j y acc e T N' hy ⟨fd5, rfl, h5, hal, hacc⟩ hT -
      have hj : j < 3 := by
        have := (List.getElem?_eq_some_iff.mp hy).1
        simp at this; omega
      refine ⟨_, rfl, ?_⟩
      walk_at "ss"
      refine some_s (n := 4) h5 (by omega) W fun us fd6 hs hul h6 => ?_
      walk_at "ss"
      refine draw_s h6 (by omega) (by omega) (by omega) fun r fd7 r0 r1 h7 => ?_
      walk_at "ss"
      have r01 : r = 0 ∨ r = 1 := by omega
      rcases r01 with rfl | rfl
      · refine kIxL_s (v := .tup [.str ""]) rfl (hT _ _ ⟨fd7, rfl, h7, by simp; omega, fun q hq => ?_⟩)
        rcases List.mem_append.mp hq with hq | hq
        · exact hacc q hq
        · rw [List.mem_singleton] at hq; subst hq; exact s1_cut
      · refine kIxL_s (v := .tup (us.map PV.str)) rfl (hT _ _ ⟨fd7, rfl, h7, by simp; omega, fun q hq => ?_⟩)
        rcases List.mem_append.mp hq with hq | hq
        · exact hacc q hq
        · rw [List.mem_singleton] at hq; subst hq; exact ⟨(s1_sub hs W.len W.wd W.rs).s0, .inr (s1_sub hs W.len W.wd W.rs)⟩
    intro acc e he
    obtain ⟨fd5, he, h5, hal, hacc⟩ := he
    subst he
    have hal3 : acc.length ≤ 3 := by simp at hal; omega
    refine kSet_s (by exact f4) ?_
    walk_at "ss"
    refine gApp_s (xs := ps) rfl (by omega) ?_
    refine hN _ ⟨fd5, _, _, _, ps ++ [.tup acc], rfl, rfl, rfl, h5.up (by simp; omega), by simp; omega, fun q hq => ?_⟩
    rcases List.mem_append.mp hq with hq | hq
    · exact hps q hq
    · rw [List.mem_singleton] at hq; subst hq; exact ⟨acc, rfl, hal3, hacc⟩
  intro e he
  obtain ⟨fd3, z3, z4, z5, ps, he, f3, f4, h3, hl, hps⟩ := he
  subst he
  have hl3 : ps.length ≤ 3 := by simp at hl; omega
  walk_at "ss"
  exact k _ fd3 ⟨ps, rfl, hl3, hps⟩ (h3.up (by simp; omega))
end

end PL
set_option autoImplicit false
namespace PL
open PySem PySem.Spec L2
open PyProof.Rows hiding St
set_option maxHeartbeats 4000000
local macro_rules | `(tactic| walk_at "env") => `(tactic| first | (dsimp only [back, owOf, owAt, wipeE, mergeE, List.set_cons_zero, List.set_cons_succ, List.getElem?_cons_zero, List.getElem?_cons_succ, Option.join]; exact rfl) | exact rfl)
local macro_rules | `(tactic| walk_at "s") => `(tactic| first
  | (with_reducible refine sSeq_s ?_) | ((with_reducible refine' fVar_s ?a ?_); (case a => rfl)) | (with_reducible refine fC_s ?_) | (with_reducible refine fOp_s ?_) | (with_reducible refine fCons_s ?_) | (with_reducible refine fNil_s ?_)
  | (with_reducible refine sSet_s ?_) | ((with_reducible refine' kSet_e ?a ?b ?_); (case a => rfl); (case b => walk_at "env")) | (with_reducible refine sIf_s ?_) | (with_reducible refine fTest_k ?_) | (with_reducible refine kTest_s ?_) | (with_reducible refine sRet_s ?_) | (with_reducible refine kRet_s ?_) | (with_reducible refine sNext_s ?_)
  | (with_reducible refine kSh_s ?_) | (with_reducible refine kSh_o ?_) | (with_reducible refine gEq_int ?_) | (with_reducible refine gNe_int ?_) | (with_reducible refine gEq_str ?_) | (with_reducible refine gNe_str ?_) | ((with_reducible refine' kMine_e ?a ?b ?_); (case a => rfl); (case b => walk_at "env")) | ((with_reducible refine' kMine_p ?a ?b ?_); (case a => rfl); (case b => walk_at "env"))
  | ((with_reducible refine' kOp_s ?a ?_); (case a => rfl)) | ((with_reducible refine' fVar_a ?a ?_); (case a => rfl))
  | (with_reducible refine fTup_s ?_) | ((with_reducible refine' kTup_s ?a ?b ?_); (case a => rfl); (case b => exact lineB rfl)) | (with_reducible refine lDisp_s ?_) | ((with_reducible refine' kDisp_s ?a ?b ?_); (case a => rfl); (case b => exact lineB rfl)) | (with_reducible refine fNew_s ?_)
  | (with_reducible refine fSh_s ?_) | (with_reducible refine fCall_s ?_) | (with_reducible refine fCallK_s ?_) | ((with_reducible refine' kSetL_e ?a ?b ?_); (case a => rfl); (case b => walk_at "env")) | (with_reducible refine And.intro rfl ?_) | ((with_reducible refine' callR_s ?a ?b ?_); (case a => rfl); (case b => rfl)) | ((with_reducible refine' kBack_s ?a ?_); (case a => walk_at "env"))
  | (with_reducible refine sDrop_s ?_) | (with_reducible refine sRetN_s ?_) | (with_reducible refine sRetL_s ?_) | (with_reducible refine sRetC_s ?_) | (with_reducible refine sSetL_s ?_) | (with_reducible refine sSetC_s ?_) | (with_reducible refine sAsg_s ?_) | ((with_reducible refine' kAsg_s ?a ?_); (case a => rfl)) | (with_reducible refine sAsgL_s ?_) | ((with_reducible refine' kAsgL_s ?a ?_); (case a => rfl)) | (with_reducible refine sPar_s ?_) | ((with_reducible refine' kPar_s ?a ?_); (case a => rfl)) | (with_reducible refine sStL_s ?_) | ((with_reducible refine' kStL_s ?a ?_); (case a => rfl)) | ((with_reducible refine' kStL2_e ?a ?b ?c ?_); (case a => rfl); (case b => rfl); (case c => walk_at "env")) | (with_reducible refine sFor_s ?_)
  | (with_reducible refine fTru_k ?_) | (with_reducible refine kTru_b ?_) | ((with_reducible refine' kTru_s ?a ?_); (case a => rfl)) | (with_reducible refine fAndT_s ?_) | (with_reducible refine fOrT_s ?_) | (with_reducible refine fNotT_s ?_) | (with_reducible refine fYes_s ?_) | (with_reducible refine fAndV_s ?_) | (with_reducible refine fOrV_s ?_) | (with_reducible refine kAnd_s ?_) | (with_reducible refine kOr_s ?_) | (with_reducible refine fNotV_s ?_) | (with_reducible refine kNot_s ?_) | (with_reducible refine fIfE_s ?_) | (with_reducible refine fChain_s ?_) | ((with_reducible refine' kCh_s ?a ?_); (case a => rfl)) | (with_reducible refine kCh2_s ?_)
  | (with_reducible refine oNo_s ?_) | (with_reducible refine oPt_s ?_) | (with_reducible refine kPt_s ?_) | (with_reducible refine fSl_s ?_) | ((with_reducible refine' kSl_s ?a ?_); (case a => rfl)) | ((with_reducible refine' kSl_a ?a ?b ?_); (case a => rfl); (case b => rfl)) | (with_reducible refine fUn_s ?_) | ((with_reducible refine' kUn_s ?a ?_); (case a => rfl))
  | (with_reducible refine fCB_s ?_) | ((with_reducible refine' kCB_s ?a ?b ?_); (case a => rfl); (case b => rfl)) | (with_reducible refine lCB_s ?_) | (with_reducible refine fCBL_s ?_) | ((with_reducible refine' kCBL_s ?a ?_); (case a => rfl)) | (with_reducible refine lCBL_s ?_) | (with_reducible refine lCatEL_s ?_) | (with_reducible refine fEqL_s ?_) | (with_reducible refine fIxL_s ?_) | (with_reducible refine lRepL_s ?_) | (with_reducible refine fJoinL_s ?_) | (with_reducible refine kJoin_s ?_) | (with_reducible refine fKIx_s ?_)
  | ((with_reducible refine' fFrz_s ?a ?_); (case a => rfl)) | ((with_reducible refine' fFrz_e ?a ?b ?_); (case a => rfl); (case b => walk_at "env")) | ((with_reducible refine' fMut_s ?a ?_); (case a => rfl))
  | (with_reducible refine iAnyF_s ?_) | ((with_reducible refine' kItr_s ?a ?_); (case a => rfl)) | (with_reducible refine iNwF_s ?_) | (with_reducible refine iRg1F_s ?_) | (with_reducible refine iRg2F_s ?_) | (with_reducible refine iZpF_s ?_) | ((with_reducible refine' kZip_s ?a ?_); (case a => rfl)) | (with_reducible refine lLc_s ?_)
  | ((with_reducible refine' kOp_a ?a ?b ?_); (case a => rfl); (case b => rfl)) | (with_reducible refine lSrtK_s ?_) | (with_reducible refine ite_t ?_) | (with_reducible refine ite_f ?_) | (with_reducible refine ite_nt ?_) | (with_reducible refine ite_nf ?_))
local macro_rules | `(tactic| walk_at "ss") => `(tactic| repeat walk_at "s")
local macro_rules | `(tactic| walk_at "lit") => `(tactic| first | ((with_reducible refine' ite_no ?a ?_); (case a => first | decide | exact decide_eq_true rfl | (refine decide_eq_false ?_; simp; done) | exact rfl)) | ((with_reducible refine' ite_yes ?a ?_); (case a => first | decide | exact decide_eq_true rfl | (refine decide_eq_false ?_; simp; done) | exact rfl)) | ((with_reducible refine' ite_nno ?a ?_); (case a => first | decide | exact decide_eq_true rfl | (refine decide_eq_false ?_; simp; done) | exact rfl)) | ((with_reducible refine' ite_nyes ?a ?_); (case a => first | decide | exact decide_eq_true rfl | (refine decide_eq_false ?_; simp; done) | exact rfl)))
local macro_rules | `(tactic| walk_at "sl") => `(tactic| repeat (first | walk_at "s" | walk_at "lit"))
noncomputable def fb__law_page : VEnv → Fl :=
  (sSeq (sSet 2 (fIxL (lDisp (fCons (fSh (fCall 2 f__law_draw (fCons (fVar 0) (fCons (fC (.int 3)) fNil)) [])) (fCons (fC (.int 0)) (fCons (fC (.int 99999)) (fCons (fSh (fCall 2 f__law_draw (fCons (fVar 0) (fCons (fC (.int 100000)) fNil)) [])) fNil))))) (fSh (fCall 2 f__law_draw (fCons (fVar 0) (fCons (fC (.int 4)) fNil)) []))))
  (sSeq (sSet 3 (fIxL (lDisp (fCons (fSh (fCall 2 f__law_draw (fCons (fVar 0) (fCons (fC (.int 2)) fNil)) [])) (fCons (fC (.int 0)) (fCons (fC (.int 999)) (fCons (fSh (fCall 2 f__law_draw (fCons (fVar 0) (fCons (fC (.int 1000)) fNil)) [])) fNil))))) (fSh (fCall 2 f__law_draw (fCons (fVar 0) (fCons (fC (.int 4)) fNil)) []))))
  (sSeq (sSet 4 (fIxL (lDisp (fCons (fC (.str "print")) (fCons (fC (.str "mend")) (fCons (fC (.str "turn")) (fCons (fC (.str "mix")) (fCons (fC (.str "cut")) (fCons (fC (.str "bind")) (fCons (fC (.str "seen")) (fCons (fC (.str "lot")) fNil))))))))) (fSh (fCall 2 f__law_draw (fCons (fVar 0) (fCons (fC (.int 8)) fNil)) []))))
  (sSeq (sPar 5 6 (fCons (fOp gIx (fVar 1) (fSh (fCall 2 f__law_draw (fCons (fVar 0) (fCons (fC (.int 3)) fNil)) []))) (fCons (fOp gIx (fVar 1) (fSh (fCall 2 f__law_draw (fCons (fVar 0) (fCons (fC (.int 8)) fNil)) []))) fNil)))
  (sSeq (sSet 7 (fIxL (lDisp (fCons (fC (.int 1)) (fCons (fC (.int 2)) (fCons (fC (.int 10)) (fCons (fC (.int 9)) (fCons (fC (.int 40)) (fCons (fOp gPow (fC (.int 10)) (fC (.int 30))) fNil))))))) (fSh (fCall 2 f__law_draw (fCons (fVar 0) (fCons (fC (.int 6)) fNil)) []))))
  (sSeq (sIf (fTest (fOp (gIn false) (fVar 4) (fTup (fCons (fC (.str "print")) (fCons (fC (.str "mix")) fNil))))) (sRet (fTup (fCons (fVar 2) (fCons (fVar 3) (fCons (fVar 4) (fCons (fVar 5) (fCons (fVar 7) fNil))))))) sNext)
  (sSeq (sIf (fTest (fOp (gIn false) (fVar 4) (fTup (fCons (fC (.str "mend")) (fCons (fC (.str "cut")) fNil))))) (sRet (fTup (fCons (fVar 2) (fCons (fVar 3) (fCons (fVar 4) (fCons (fVar 5) (fCons (fVar 6) fNil))))))) sNext)
  (sSeq (sIf (fTest (fOp (gIn false) (fVar 4) (fTup (fCons (fC (.str "turn")) (fCons (fC (.str "bind")) fNil))))) (sRet (fTup (fCons (fVar 2) (fCons (fVar 3) (fCons (fVar 4) (fCons (fIfE (fTest (fOp (gEqN false) (fVar 4) (fC (.str "turn")))) (fVar 5) (fVar 7)) fNil)))))) sNext)
  (sSeq (sIf (fTest (fOp (gEqN false) (fVar 4) (fC (.str "seen")))) (sRet (fTup (fCons (fVar 2) (fCons (fVar 3) (fCons (fVar 4) (fCons (fVar 5) (fCons (fSh (fCall 2 f__law_seen (fCons (fVar 0) (fCons (fVar 1) fNil)) [])) fNil))))))) sNext)
  (sSeq (sSetL 8 (lCB gList (fCons (fVar 1) fNil)))
  (sSeq (sSet 9 (fNew (lLc (iRg1F (fOp gAdd (fC (.int 1)) (fSh (fCall 2 f__law_draw (fCons (fVar 0) (fCons (fC (.int 5)) fNil)) [])))) (.one 10) fYes (fMut false gPopAt 8 (fCons (fSh (fCall 2 f__law_draw (fCons (fVar 0) (fCons (fCB gLen (fCons (fVar 8) fNil)) fNil)) [])) fNil)) [10])))
  (sRet (fTup (fCons (fVar 2) (fCons (fVar 3) (fCons (fVar 4) (fCons (fSh (fCall 3 f__law_some (fCons (fVar 0) (fCons (fVar 1) (fCons (fC (.int 4)) fNil))) [])) (fCons (fCB gTup (fCons (fVar 9) fNil)) fNil))))))))))))))))))
noncomputable def f__law_page : List SV → RsC := fDef 11 fb__law_page
/-! ## a page that a law draws -/
section
variable {X : VX} {K : SV → VEnv → Prop} {c : Nat} {fd : List PV}
theorem page_s {ws : List Str} (h : FeedOk c fd) (hc : c + 130 ≤ 1000000000000) (W : Ws ws) (k : ∀ (v : PV) (fd' : List PV), PgS v → FeedOk (c + 130) fd' → K (.sh v) [some (.ow true fd'), none]) :
    Sc X (f__law_page [.ow true fd, .sh (.bx .lst (ws.map PV.str))]) K := by
  have hl8 := W.len
  unfold f__law_page
  refine fDef_s ?_
  show Ss _ (fb__law_page [some (.ow true fd), some (.sh (.bx .lst (ws.map PV.str))), none, none, none, none, none, none, none, none, none])
  unfold fb__law_page
  walk_at "ss"
  refine draw_s h (by omega) (by omega) (by omega) fun d1 fd1 d10 d11 F1 => ?_
  walk_at "ss"
  refine draw_s F1 (by omega) (by omega) (by omega) fun d2 fd2 d20 d21 F2 => ?_
  walk_at "ss"
  refine draw_s F2 (by omega) (by omega) (by omega) fun d3 fd3 d30 d31 F3 => ?_
  walk_at "ss"
  obtain ⟨d, ed, d0, d9⟩ : ∃ d : Int, atI [PV.int d1, .int 0, .int 99999, .int d2] d3 = some (.int d) ∧ 0 ≤ d ∧ d ≤ 99999 := by
    obtain ⟨p, e, hp⟩ := atI_in (xs := [PV.int d1, .int 0, .int 99999, .int d2]) d30 (by simpa using d31)
    simp only [List.mem_cons, List.not_mem_nil, or_false] at hp
    rcases hp with rfl | rfl | rfl | rfl
    · exact ⟨_, e, by omega, by omega⟩
    · exact ⟨_, e, by omega, by omega⟩
    · exact ⟨_, e, by omega, by omega⟩
    · exact ⟨_, e, by omega, by omega⟩
  refine kIxL_s ed ?_
  walk_at "ss"
  refine draw_s F3 (by omega) (by omega) (by omega) fun n1 fd4 n10 n11 F4 => ?_
  walk_at "ss"
  refine draw_s F4 (by omega) (by omega) (by omega) fun n2 fd5 n20 n21 F5 => ?_
  walk_at "ss"
  refine draw_s F5 (by omega) (by omega) (by omega) fun n3 fd6 n30 n31 F6 => ?_
  walk_at "ss"
  obtain ⟨n, en, n0, n9⟩ : ∃ d : Int, atI [PV.int n1, .int 0, .int 999, .int n2] n3 = some (.int d) ∧ 0 ≤ d ∧ d ≤ 999 := by
    obtain ⟨p, e, hp⟩ := atI_in (xs := [PV.int n1, .int 0, .int 999, .int n2]) n30 (by simpa using n31)
    simp only [List.mem_cons, List.not_mem_nil, or_false] at hp
    rcases hp with rfl | rfl | rfl | rfl
    · exact ⟨_, e, by omega, by omega⟩
    · exact ⟨_, e, by omega, by omega⟩
    · exact ⟨_, e, by omega, by omega⟩
    · exact ⟨_, e, by omega, by omega⟩
  refine kIxL_s en ?_
  walk_at "ss"
  refine draw_s F6 (by omega) (by omega) (by omega) fun k1 fd7 k10 k11 F7 => ?_
  walk_at "ss"
  obtain ⟨kd, ek, hk⟩ : ∃ k : Str, atI [PV.str "print", .str "mend", .str "turn", .str "mix", .str "cut", .str "bind", .str "seen", .str "lot"] k1 = some (.str k) ∧ k ∈ kds := by
    obtain ⟨p, e, hp⟩ := atI_in (xs := kds.map PV.str) k10 (by simpa [kds] using k11)
    obtain ⟨z, hz, rfl⟩ := List.mem_map.mp hp
    exact ⟨z, e, hz⟩
  have hko := kds_ok kd hk
  refine kIxL_s ek ?_
  walk_at "ss"
  refine draw_s F7 (by omega) (by omega) (by omega) fun i1 fd8 i10 i11 F8 => ?_
  walk_at "ss"
  obtain ⟨w1, ew1, hw1⟩ := W.word i10 (by omega)
  refine gIx_lst ew1 ?_
  walk_at "ss"
  refine draw_s F8 (by omega) (by omega) (by omega) fun i2 fd9 i20 i21 F9 => ?_
  walk_at "ss"
  obtain ⟨w2, ew2, hw2⟩ := W.word i20 i21
  refine gIx_lst ew2 ?_
  walk_at "ss"
  refine draw_s F9 (by omega) (by omega) (by omega) fun m1 fd10 m10 m11 F10 => ?_
  walk_at "ss"
  obtain ⟨m, em, m0, m9⟩ : ∃ d : Int, atI [PV.int 1, .int 2, .int 10, .int 9, .int 40, .int 1000000000000000000000000000000] m1 = some (.int d) ∧ 0 < d ∧ d ≤ 1000000000000000000000000000000 := by
    obtain ⟨p, e, hp⟩ := atI_in (xs := [PV.int 1, .int 2, .int 10, .int 9, .int 40, .int 1000000000000000000000000000000]) m10 (by simpa using m11)
    simp only [List.mem_cons, List.not_mem_nil, or_false] at hp
    rcases hp with rfl | rfl | rfl | rfl | rfl | rfl
    · exact ⟨_, e, by omega, by omega⟩
    · exact ⟨_, e, by omega, by omega⟩
    · exact ⟨_, e, by omega, by omega⟩
    · exact ⟨_, e, by omega, by omega⟩
    · exact ⟨_, e, by omega, by omega⟩
    · exact ⟨_, e, by omega, by omega⟩
  refine kIxL_s em ?_
  walk_at "ss"
  have done : ∀ (rest : List PV) (fd' : List PV) (c' : Nat), FeedOk c' fd' → c' ≤ c + 130 → KR kd rest → (∀ (w : Str) (m : Int), rest = [.str w, .int m] → m ≤ 1000000000000000000000000000000) → K (.sh (.tup (.int d :: .int n :: .str kd :: rest))) [some (.ow true fd'), none] := fun rest fd' c' F' hc' h hs =>
    k _ _ ⟨d, n, kd, rest, rfl, d0, d9, n0, n9, h, hs⟩ (F'.up hc')
  have oks : ∀ ys : List Str, (∀ y ∈ ys, y ∈ kds) → ∀ y ∈ ys, PyData.strOk y = true := fun ys h y hy => kds_ok y (h y hy)
  refine gIn_strs ["print", "mix"] hko (oks _ (by decide)) ?_
  walk_at "ss"
  refine ite_i (fun h => ?_) fun h1 => ?_
  · walk_at "ss"
    exact done _ _ _ F10 (by omega) (.pm kd (by simpa using of_decide_eq_true h) w1 hw1 m m0 (by omega)) fun _ _ e => by cases e; exact m9
  walk_at "ss"
  refine gIn_strs ["mend", "cut"] hko (oks _ (by decide)) ?_
  walk_at "ss"
  refine ite_i (fun h => ?_) fun h2 => ?_
  · walk_at "ss"
    exact done _ _ _ F10 (by omega) (.mc kd (by simpa using of_decide_eq_true h) w1 w2 hw1 hw2) fun _ _ e => by cases e
  walk_at "ss"
  refine gIn_strs ["turn", "bind"] hko (oks _ (by decide)) ?_
  walk_at "ss"
  refine ite_i (fun h => ?_) fun h3 => ?_
  · walk_at "ss"
    have h' : kd = "turn" ∨ kd = "bind" := by simpa using of_decide_eq_true h
    refine ite_i (fun ht => ?_) fun ht => ?_
    · have := of_decide_eq_true ht
      subst this
      walk_at "ss"
      exact done _ _ _ F10 (by omega) (.turn w1 hw1) fun _ _ e => by cases e
    · have ht' := of_decide_eq_false ht
      have : kd = "bind" := h'.resolve_left ht'
      subst this
      walk_at "ss"
      exact done _ _ _ F10 (by omega) (.bind m m0 (by omega)) fun _ _ e => by cases e
  walk_at "ss"
  refine ite_i (fun h => ?_) fun h4 => ?_
  · have := of_decide_eq_true h
    subst this
    walk_at "ss"
    refine seen_s F10 (by omega) W fun v fd11 hv F11 => ?_
    walk_at "ss"
    exact done _ _ _ F11 (by omega) (.seen w1 hw1 v hv) fun _ _ e => by
      obtain ⟨ps, rfl, _⟩ := hv
      cases e
  have hlot : kd = "lot" := by
    have a1 := of_decide_eq_false h1
    have a2 := of_decide_eq_false h2
    have a3 := of_decide_eq_false h3
    have a4 := of_decide_eq_false h4
    simp only [kds, List.mem_cons, List.not_mem_nil, or_false] at hk a1 a2 a3
    rcases hk with h | h | h | h | h | h | h | h
    · exact absurd (.inl h) a1
    · exact absurd (.inl h) a2
    · exact absurd (.inl h) a3
    · exact absurd (.inr h) a1
    · exact absurd (.inr h) a2
    · exact absurd (.inr h) a3
    · exact absurd h a4
    · exact h
  subst hlot
  walk_at "ss"
  refine gList_l (by rw [List.length_map]; omega) ?_
  walk_at "ss"
  refine draw_s F10 (by omega) (by omega) (by omega) fun mm fd12 mm0 mm1 F12 => ?_
  walk_at "ss"
  refine kRg1_s (by omega) ?_
  refine kLc_i (fun i acc e => ∃ (fd' : List PV) (us rs : List Str), e = [some (.ow true fd'), some (.sh (.bx .lst (ws.map PV.str))), some (.sh (.int d)), some (.sh (.int n)), some (.sh (.str "lot")), some (.sh (.str w1)), some (.sh (.str w2)), some (.sh (.int m)), some (.ow false (rs.map PV.str)), none, none] ∧ acc = us.map PV.str ∧ FeedOk (c + 11 + i) fd' ∧ us.length = i ∧ (us ++ rs).Perm ws) (by simp; omega)
    ⟨fd12, [], ws, rfl, rfl, F12, rfl, .refl _⟩ (by rintro i acc e ⟨_, us, _, _, rfl, _, hl, _⟩; simp [hl]) ?_ ?_
  · rintro i x acc e T N hx ⟨fd13, us, rs, rfl, rfl, F13, hu, hp⟩ hT -
    have hin : i < 5 := by
      have := (List.getElem?_eq_some_iff.mp hx).1
      simp at this; omega
    have hlr := hp.length_eq
    rw [List.length_append] at hlr
    refine ⟨_, rfl, ?_⟩
    walk_at "ss"
    refine draw_s F13 (by omega) (by simp; omega) (by simp; omega) fun r fd14 r0 r1 F14 => ?_
    walk_at "ss"
    obtain ⟨j, rfl⟩ := Int.eq_ofNat_of_zero_le r0
    rw [List.length_map] at r1
    obtain ⟨z, hz⟩ : ∃ z, rs[j]? = some z := ⟨rs[j], List.getElem?_eq_getElem (by omega)⟩
    refine gPop_nat (j := j) (xs := rs.map PV.str) (v := .str z) rfl rfl (by rw [List.getElem?_map, hz]; rfl) (by simp; omega) ?_
    refine hT _ _ ⟨fd14, us ++ [z], rs.eraseIdx j, by rw [← map_erase]; rfl, by simp, F14, by simp [hu], ?_⟩
    rw [List.append_assoc]
    exact .trans (List.Perm.append_left us (erase_perm rs j z hz)) hp
  intro acc e he
  obtain ⟨fd13, us, rs, he, rfl, F13, hu, hp⟩ := he
  subst he
  have hul : us.length ≤ 5 ∧ us ≠ [] := ⟨by simp at hu; omega, fun e => by rw [e] at hu; simp at hu; omega⟩
  walk_at "ss"
  refine some_s (n := 4) F13 (by simp; omega) W fun vs fd15 hs hvl F15 => ?_
  walk_at "ss"
  exact done _ _ _ F15 (by simp; omega) (.lot _ _ (s1_sub hs W.len W.wd W.rs) ⟨us, rfl, by omega, fun u hu' => W.wd u (hp.mem_iff.mp (List.mem_append_left _ hu')), (List.nodup_append.mp ((hp.nodup_iff).mpr W.nd)).1, hul.2⟩) fun _ _ e => by cases e
end

end PL
set_option autoImplicit false
namespace PL
open PySem PySem.Spec L2
open PyProof.Rows hiding St
set_option maxHeartbeats 4000000
local macro_rules | `(tactic| walk_at "env") => `(tactic| first | (dsimp only [back, owOf, owAt, wipeE, mergeE, List.set_cons_zero, List.set_cons_succ, List.getElem?_cons_zero, List.getElem?_cons_succ, Option.join]; exact rfl) | exact rfl)
local macro_rules | `(tactic| walk_at "s") => `(tactic| first
  | (with_reducible refine sSeq_s ?_) | ((with_reducible refine' fVar_s ?a ?_); (case a => rfl)) | (with_reducible refine fC_s ?_) | (with_reducible refine fOp_s ?_) | (with_reducible refine fCons_s ?_) | (with_reducible refine fNil_s ?_)
  | (with_reducible refine sSet_s ?_) | ((with_reducible refine' kSet_e ?a ?b ?_); (case a => rfl); (case b => walk_at "env")) | (with_reducible refine sIf_s ?_) | (with_reducible refine fTest_k ?_) | (with_reducible refine kTest_s ?_) | (with_reducible refine sRet_s ?_) | (with_reducible refine kRet_s ?_) | (with_reducible refine sNext_s ?_)
  | (with_reducible refine kSh_s ?_) | (with_reducible refine kSh_o ?_) | (with_reducible refine gEq_int ?_) | (with_reducible refine gNe_int ?_) | (with_reducible refine gEq_str ?_) | (with_reducible refine gNe_str ?_) | ((with_reducible refine' kMine_e ?a ?b ?_); (case a => rfl); (case b => walk_at "env")) | ((with_reducible refine' kMine_p ?a ?b ?_); (case a => rfl); (case b => walk_at "env"))
  | ((with_reducible refine' kOp_s ?a ?_); (case a => rfl)) | ((with_reducible refine' fVar_a ?a ?_); (case a => rfl))
  | (with_reducible refine fTup_s ?_) | ((with_reducible refine' kTup_s ?a ?b ?_); (case a => rfl); (case b => exact lineB rfl)) | (with_reducible refine lDisp_s ?_) | ((with_reducible refine' kDisp_s ?a ?b ?_); (case a => rfl); (case b => exact lineB rfl)) | (with_reducible refine fNew_s ?_)
  | (with_reducible refine fSh_s ?_) | (with_reducible refine fCall_s ?_) | (with_reducible refine fCallK_s ?_) | ((with_reducible refine' kSetL_e ?a ?b ?_); (case a => rfl); (case b => walk_at "env")) | (with_reducible refine And.intro rfl ?_) | ((with_reducible refine' callR_s ?a ?b ?_); (case a => rfl); (case b => rfl)) | ((with_reducible refine' kBack_s ?a ?_); (case a => walk_at "env"))
  | (with_reducible refine sDrop_s ?_) | (with_reducible refine sRetN_s ?_) | (with_reducible refine sRetL_s ?_) | (with_reducible refine sRetC_s ?_) | (with_reducible refine sSetL_s ?_) | (with_reducible refine sSetC_s ?_) | (with_reducible refine sAsg_s ?_) | ((with_reducible refine' kAsg_s ?a ?_); (case a => rfl)) | (with_reducible refine sAsgL_s ?_) | ((with_reducible refine' kAsgL_s ?a ?_); (case a => rfl)) | (with_reducible refine sPar_s ?_) | ((with_reducible refine' kPar_s ?a ?_); (case a => rfl)) | (with_reducible refine sStL_s ?_) | ((with_reducible refine' kStL_s ?a ?_); (case a => rfl)) | ((with_reducible refine' kStL2_e ?a ?b ?c ?_); (case a => rfl); (case b => rfl); (case c => walk_at "env")) | (with_reducible refine sFor_s ?_)
  | (with_reducible refine fTru_k ?_) | (with_reducible refine kTru_b ?_) | ((with_reducible refine' kTru_s ?a ?_); (case a => rfl)) | (with_reducible refine fAndT_s ?_) | (with_reducible refine fOrT_s ?_) | (with_reducible refine fNotT_s ?_) | (with_reducible refine fYes_s ?_) | (with_reducible refine fAndV_s ?_) | (with_reducible refine fOrV_s ?_) | (with_reducible refine kAnd_s ?_) | (with_reducible refine kOr_s ?_) | (with_reducible refine fNotV_s ?_) | (with_reducible refine kNot_s ?_) | (with_reducible refine fIfE_s ?_) | (with_reducible refine fChain_s ?_) | ((with_reducible refine' kCh_s ?a ?_); (case a => rfl)) | (with_reducible refine kCh2_s ?_)
  | (with_reducible refine oNo_s ?_) | (with_reducible refine oPt_s ?_) | (with_reducible refine kPt_s ?_) | (with_reducible refine fSl_s ?_) | ((with_reducible refine' kSl_s ?a ?_); (case a => rfl)) | ((with_reducible refine' kSl_a ?a ?b ?_); (case a => rfl); (case b => rfl)) | (with_reducible refine fUn_s ?_) | ((with_reducible refine' kUn_s ?a ?_); (case a => rfl))
  | (with_reducible refine fCB_s ?_) | ((with_reducible refine' kCB_s ?a ?b ?_); (case a => rfl); (case b => rfl)) | (with_reducible refine lCB_s ?_) | (with_reducible refine fCBL_s ?_) | ((with_reducible refine' kCBL_s ?a ?_); (case a => rfl)) | (with_reducible refine lCBL_s ?_) | (with_reducible refine lCatEL_s ?_) | (with_reducible refine fEqL_s ?_) | (with_reducible refine fIxL_s ?_) | (with_reducible refine lRepL_s ?_) | (with_reducible refine fJoinL_s ?_) | (with_reducible refine kJoin_s ?_) | (with_reducible refine fKIx_s ?_)
  | ((with_reducible refine' fFrz_s ?a ?_); (case a => rfl)) | ((with_reducible refine' fFrz_e ?a ?b ?_); (case a => rfl); (case b => walk_at "env")) | ((with_reducible refine' fMut_s ?a ?_); (case a => rfl))
  | (with_reducible refine iAnyF_s ?_) | ((with_reducible refine' kItr_s ?a ?_); (case a => rfl)) | (with_reducible refine iNwF_s ?_) | (with_reducible refine iRg1F_s ?_) | (with_reducible refine iRg2F_s ?_) | (with_reducible refine iZpF_s ?_) | ((with_reducible refine' kZip_s ?a ?_); (case a => rfl)) | (with_reducible refine lLc_s ?_)
  | ((with_reducible refine' kOp_a ?a ?b ?_); (case a => rfl); (case b => rfl)) | (with_reducible refine lSrtK_s ?_) | (with_reducible refine ite_t ?_) | (with_reducible refine ite_f ?_) | (with_reducible refine ite_nt ?_) | (with_reducible refine ite_nf ?_))
local macro_rules | `(tactic| walk_at "ss") => `(tactic| repeat walk_at "s")
local macro_rules | `(tactic| walk_at "lit") => `(tactic| first | ((with_reducible refine' ite_no ?a ?_); (case a => first | decide | exact decide_eq_true rfl | (refine decide_eq_false ?_; simp; done) | exact rfl)) | ((with_reducible refine' ite_yes ?a ?_); (case a => first | decide | exact decide_eq_true rfl | (refine decide_eq_false ?_; simp; done) | exact rfl)) | ((with_reducible refine' ite_nno ?a ?_); (case a => first | decide | exact decide_eq_true rfl | (refine decide_eq_false ?_; simp; done) | exact rfl)) | ((with_reducible refine' ite_nyes ?a ?_); (case a => first | decide | exact decide_eq_true rfl | (refine decide_eq_false ?_; simp; done) | exact rfl)))
local macro_rules | `(tactic| walk_at "sl") => `(tactic| repeat (first | walk_at "s" | walk_at "lit"))
def k_LETTERS : PV := (.str "abcdefghijklmnopqrstuvwxyz")
theorem kp_LETTERS : pur k_LETTERS = true := by simp [k_LETTERS, pur, purs]
def k_MOST_LETTERS : PV := (.int 8)
theorem kp_MOST_LETTERS : pur k_MOST_LETTERS = true := by simp [k_MOST_LETTERS, pur, purs]
def k_LAST_DAY : PV := (.int 99999)
theorem kp_LAST_DAY : pur k_LAST_DAY = true := by simp [k_LAST_DAY, pur, purs]
def k_LAST_NUMBER : PV := (.int 999)
theorem kp_LAST_NUMBER : pur k_LAST_NUMBER = true := by simp [k_LAST_NUMBER, pur, purs]
def k_KINDS : PV := (.tup [(.str "print"), (.str "mend"), (.str "turn"), (.str "mix"), (.str "cut"), (.str "bind"), (.str "seen"), (.str "lot")])
theorem kp_KINDS : pur k_KINDS = true := by simp [k_KINDS, pur, purs]
def i_KINDS : List Str := ["print", "mend", "turn", "mix", "cut", "bind", "seen", "lot"]
noncomputable def fb_is_number : VEnv → Fl :=
  (sRet (fAndV (fCB gIsi (fCons (fVar 0) (fCons (fC (.ty "int")) fNil))) (fNotV (fCB gIsi (fCons (fVar 0) (fCons (fC (.ty "bool")) fNil))))))
noncomputable def f_is_number : List SV → RsC := fDef 1 fb_is_number
noncomputable def fb_is_word : VEnv → Fl :=
  (sSeq (sIf (fOrT (fNotT (fTru (fCB gIsi (fCons (fVar 0) (fCons (fC (.ty "str")) fNil))))) (fNotT (fTest (fChain gLe gLe (fC (.int 1)) (fCB gLen (fCons (fVar 0) fNil)) (fC k_MOST_LETTERS))))) (sRet (fC (.bl false))) sNext)
  (sRet (fCBL gAllB (lLc (iAnyF (fVar 0)) (.one 1) fYes (fOp (gIn false) (fVar 1) (fC k_LETTERS)) [1]))))
noncomputable def f_is_word : List SV → RsC := fDef 2 fb_is_word
noncomputable def fb_rises : VEnv → Fl :=
  (sRet (fCBL gAllB (lLc (iZpF (fVar 0) (fSl (fVar 0) (oPt (fC (.int 1))) oNo)) (.many [1, 2]) fYes (fOp gLt (fVar 1) (fVar 2)) [1, 2])))
noncomputable def f_rises : List SV → RsC := fDef 3 fb_rises
noncomputable def fb_is_cut : VEnv → Fl :=
  (sRet (fAndV (fCB gIsi (fCons (fVar 0) (fCons (fC (.ty "tuple")) fNil))) (fOp (gEqN false) (fVar 0) (fTup (fCons (fC (.str "")) fNil)))))
noncomputable def f_is_cut : List SV → RsC := fDef 1 fb_is_cut
noncomputable def fb_page_moment : VEnv → Fl :=
  (sRet (fSl (fVar 0) oNo (oPt (fC (.int 2)))))
noncomputable def f_page_moment : List SV → RsC := fDef 1 fb_page_moment
noncomputable def fb_standing : VEnv → Fl :=
  (sRet (fTup (fCons (fOp gIx (fVar 0) (fC (.int 0))) (fCons (fOp gIx (fVar 0) (fC (.int 1))) (fCons (fKIx i_KINDS (fOp gIx (fVar 0) (fC (.int 2)))) (fCons (fSl (fVar 0) (oPt (fC (.int 3))) oNo) fNil))))))
noncomputable def f_standing : List SV → RsC := fDef 1 fb_standing
noncomputable def fb_are_words : VEnv → Fl :=
  (sRet (fAndV (fCB gIsi (fCons (fVar 0) (fCons (fC (.ty "tuple")) fNil))) (fAndV (fCBL gAllB (lLc (iAnyF (fVar 0)) (.one 1) fYes (fSh (fCall 1 f_is_word (fCons (fVar 1) fNil) [])) [1])) (fSh (fCall 1 f_rises (fCons (fVar 0) fNil) [])))))
noncomputable def f_are_words : List SV → RsC := fDef 2 fb_are_words
noncomputable def fb_is_moment : VEnv → Fl :=
  (sSeq (sIf (fOrT (fNotT (fTru (fCB gIsi (fCons (fVar 0) (fCons (fC (.ty "tuple")) fNil))))) (fOrT (fTest (fOp (gEqN true) (fCB gLen (fCons (fVar 0) fNil)) (fC (.int 2)))) (fOrT (fNotT (fTru (fSh (fCall 1 f_is_number (fCons (fOp gIx (fVar 0) (fC (.int 0))) fNil) [])))) (fNotT (fTru (fSh (fCall 1 f_is_number (fCons (fOp gIx (fVar 0) (fC (.int 1))) fNil) []))))))) (sRet (fC (.bl false))) sNext)
  (sRet (fAndV (fChain gLe gLe (fC (.int 0)) (fOp gIx (fVar 0) (fC (.int 0))) (fC k_LAST_DAY)) (fChain gLe gLe (fC (.int 0)) (fOp gIx (fVar 0) (fC (.int 1))) (fC k_LAST_NUMBER)))))
noncomputable def f_is_moment : List SV → RsC := fDef 1 fb_is_moment
noncomputable def fb_is_many : VEnv → Fl :=
  (sRet (fAndV (fSh (fCall 1 f_is_number (fCons (fVar 0) fNil) [])) (fOp gGe (fVar 0) (fC (.int 1)))))
noncomputable def f_is_many : List SV → RsC := fDef 1 fb_is_many
noncomputable def fb_are_names : VEnv → Fl :=
  (sSeq (sIf (fOrT (fNotT (fTru (fCB gIsi (fCons (fVar 0) (fCons (fC (.ty "tuple")) fNil))))) (fOrT (fTest (fOp (gEqN false) (fCB gLen (fCons (fVar 0) fNil)) (fC (.int 0)))) (fNotT (fTru (fCBL gAllB (lLc (iAnyF (fVar 0)) (.one 1) fYes (fSh (fCall 1 f_is_word (fCons (fVar 1) fNil) [])) [1])))))) (sRet (fC (.bl false))) sNext)
  (sRet (fOp (gEqN false) (fUn gLenSet (fVar 0)) (fCB gLen (fCons (fVar 0) fNil)))))
noncomputable def f_are_names : List SV → RsC := fDef 2 fb_are_names
noncomputable def fb_stands_ahead : VEnv → Fl :=
  (sRet (fOp gLt (fSh (fCall 1 f_standing (fCons (fVar 0) fNil) [])) (fSh (fCall 1 f_standing (fCons (fVar 1) fNil) []))))
noncomputable def f_stands_ahead : List SV → RsC := fDef 2 fb_stands_ahead
noncomputable def fb_are_looks : VEnv → Fl :=
  (sSeq (sIf (fOrT (fNotT (fTru (fCB gIsi (fCons (fVar 0) (fCons (fC (.ty "tuple")) fNil))))) (fNotT (fTru (fCBL gAllB (lLc (iAnyF (fVar 0)) (.one 1) fYes (fCB gIsi (fCons (fVar 1) (fCons (fC (.ty "tuple")) fNil))) [1]))))) (sRet (fC (.bl false))) sNext)
  (sSeq (sFor (iAnyF (fVar 0)) (.one 1) (sIf (fNotT (fTru (fCBL gAllB (lLc (iAnyF (fVar 1)) (.one 2) fYes (fOrV (fSh (fCall 1 f_is_cut (fCons (fVar 2) fNil) [])) (fSh (fCall 1 f_are_words (fCons (fVar 2) fNil) []))) [2])))) (sRet (fC (.bl false))) sNext))
  (sRet (fC (.bl true)))))
noncomputable def f_are_looks : List SV → RsC := fDef 3 fb_are_looks
noncomputable def fb_is_told : VEnv → Fl :=
  (sSeq (sIf (fOrT (fTest (fOp (gEqN false) (fVar 0) (fC (.str "turn")))) (fTest (fOp (gEqN false) (fVar 0) (fC (.str "bind"))))) (sRet (fAndV (fOp (gEqN false) (fCB gLen (fCons (fVar 1) fNil)) (fC (.int 1))) (fIfE (fTest (fOp (gEqN false) (fVar 0) (fC (.str "turn")))) (fSh (fCall 1 f_is_word (fCons (fOp gIx (fVar 1) (fC (.int 0))) fNil) [])) (fSh (fCall 1 f_is_many (fCons (fOp gIx (fVar 1) (fC (.int 0))) fNil) []))))) sNext)
  (sSeq (sIf (fTest (fOp (gEqN true) (fCB gLen (fCons (fVar 1) fNil)) (fC (.int 2)))) (sRet (fC (.bl false))) sNext)
  (sSeq (sIf (fOrT (fTest (fOp (gEqN false) (fVar 0) (fC (.str "print")))) (fTest (fOp (gEqN false) (fVar 0) (fC (.str "mix"))))) (sRet (fAndV (fSh (fCall 1 f_is_word (fCons (fOp gIx (fVar 1) (fC (.int 0))) fNil) [])) (fSh (fCall 1 f_is_many (fCons (fOp gIx (fVar 1) (fC (.int 1))) fNil) [])))) sNext)
  (sSeq (sIf (fOrT (fTest (fOp (gEqN false) (fVar 0) (fC (.str "mend")))) (fTest (fOp (gEqN false) (fVar 0) (fC (.str "cut"))))) (sRet (fAndV (fSh (fCall 1 f_is_word (fCons (fOp gIx (fVar 1) (fC (.int 0))) fNil) [])) (fSh (fCall 1 f_is_word (fCons (fOp gIx (fVar 1) (fC (.int 1))) fNil) [])))) sNext)
  (sSeq (sIf (fTest (fOp (gEqN false) (fVar 0) (fC (.str "seen")))) (sRet (fAndV (fSh (fCall 1 f_is_word (fCons (fOp gIx (fVar 1) (fC (.int 0))) fNil) [])) (fSh (fCall 1 f_are_looks (fCons (fOp gIx (fVar 1) (fC (.int 1))) fNil) [])))) sNext)
  (sRet (fAndV (fSh (fCall 1 f_are_words (fCons (fOp gIx (fVar 1) (fC (.int 0))) fNil) [])) (fSh (fCall 1 f_are_names (fCons (fOp gIx (fVar 1) (fC (.int 1))) fNil) [])))))))))
noncomputable def f_is_told : List SV → RsC := fDef 2 fb_is_told
noncomputable def fb_is_page : VEnv → Fl :=
  (sSeq (sIf (fOrT (fNotT (fTru (fCB gIsi (fCons (fVar 0) (fCons (fC (.ty "tuple")) fNil))))) (fOrT (fTest (fOp gLt (fCB gLen (fCons (fVar 0) fNil)) (fC (.int 3)))) (fNotT (fTru (fSh (fCall 1 f_is_moment (fCons (fSl (fVar 0) oNo (oPt (fC (.int 2)))) fNil) [])))))) (sRet (fC (.bl false))) sNext)
  (sRet (fAndV (fCB gIsi (fCons (fOp gIx (fVar 0) (fC (.int 2))) (fCons (fC (.ty "str")) fNil))) (fAndV (fOp (gIn false) (fOp gIx (fVar 0) (fC (.int 2))) (fC k_KINDS)) (fSh (fCall 2 f_is_told (fCons (fOp gIx (fVar 0) (fC (.int 2))) (fCons (fSl (fVar 0) (oPt (fC (.int 3))) oNo) fNil)) []))))))
noncomputable def f_is_page : List SV → RsC := fDef 1 fb_is_page
/-! ## what the program says of pages -/
theorem in_letters {c : Nat} (h : 97 ≤ c ∧ c ≤ 122) : inStr ⟨#[c]⟩ abc = true := by
  have : ∀ n, n < 26 → inStr ⟨#[97 + n]⟩ abc = true := by decide +kernel
  have := this (c - 97) (by omega)
  rwa [show 97 + (c - 97) = c by omega] at this
theorem rises_zip {us : List Str} (h : RisS us) : ∀ x ∈ List.zipWith pairP (us.map PV.str) ((us.map PV.str).drop 1), ∃ a b : Str, x = pairP (.str a) (.str b) ∧ a.cps.toList < b.cps.toList := by
  induction us with
  | nil => simp
  | cons a r ih =>
    obtain ⟨h1, h2⟩ := List.pairwise_cons.mp h
    intro x hx
    cases r with
    | nil => simp at hx
    | cons b r =>
      simp only [List.map_cons, List.drop_succ_cons, List.drop_zero, List.zipWith_cons_cons, List.mem_cons] at hx
      rcases hx with rfl | hx
      · exact ⟨a, b, rfl, h1 b List.mem_cons_self⟩
      · exact ih h2 x (by simpa using hx)
section
variable {X : VX} {K : SV → VEnv → Prop}
theorem is_number_s {i : Int} (k : K (.sh (.bl true)) [none]) : Sc X (f_is_number [.sh (.int i)]) K := by
  unfold f_is_number
  refine fDef_s ?_
  show Ss _ (fb_is_number [some (.sh (.int i))])
  unfold fb_is_number
  walk_at "ss"
  exact k
theorem is_word_s {z : Str} (h : Wd 8 z) (k : K (.sh (.bl true)) [none]) : Sc X (f_is_word [.sh (.str z)]) K := by
  unfold f_is_word
  refine fDef_s ?_
  show Ss _ (fb_is_word [some (.sh (.str z)), none])
  unfold fb_is_word
  have hl := h.2.1
  walk_at "ss"
  refine gLen_str (by omega) ?_
  walk_at "ss"
  rw [decide_eq_true (show (1 : Int) ≤ _ by have := h.1; omega)]
  walk_at "ss"
  rw [decide_eq_true (by omega)]
  walk_at "ss"
  refine kAll_t (by rw [List.length_map, ← len_cps]; omega) ?_ ?_
  · intro x T F hx hT
    obtain ⟨c, hc, rfl⟩ := List.mem_map.mp hx
    refine ⟨_, rfl, ?_⟩
    walk_at "ss"
    show T (.sh (.bl (inStr ⟨#[c]⟩ abc))) _
    rw [in_letters (h.2.2 c hc)]
    exact hT _ rfl
  walk_at "ss"
  exact k
theorem rises_s {us : List Str} (hl : us.length ≤ 1000) (h : RisS us) (k : K (.sh (.bl true)) [none]) : Sc X (f_rises [.sh (.tup (us.map PV.str))]) K := by
  unfold f_rises
  refine fDef_s ?_
  show Ss _ (fb_rises [some (.sh (.tup (us.map PV.str))), none, none])
  unfold fb_rises
  walk_at "ss"
  rw [show pcut (us.map PV.str) (some 1) none = (us.map PV.str).drop 1 from pcut_from _ 1]
  refine kAll_t (by rw [List.length_zipWith, List.length_map]; omega) ?_ ?_
  · intro x T F hx hT
    obtain ⟨a, b, rfl, hab⟩ := rises_zip h x hx
    refine ⟨_, rfl, ?_⟩
    walk_at "ss"
    rw [decide_eq_true hab]
    exact hT _ rfl
  walk_at "ss"
  exact k
theorem are_words_s {p : PV} (h : S1R p) (k : K (.sh (.bl true)) [none]) : Sc X (f_are_words [.sh p]) K := by
  obtain ⟨us, rfl, hl, hw, hr⟩ := h
  unfold f_are_words
  refine fDef_s ?_
  show Ss _ (fb_are_words [some (.sh (.tup (us.map PV.str))), none])
  unfold fb_are_words
  walk_at "ss"
  refine kAll_t (by rw [List.length_map]; omega) ?_ ?_
  · intro x T F hx hT
    obtain ⟨u, hu, rfl⟩ := List.mem_map.mp hx
    refine ⟨_, rfl, ?_⟩
    walk_at "ss"
    refine is_word_s (hw u hu) ?_
    walk_at "ss"
    exact hT _ rfl
  walk_at "ss"
  refine rises_s (by omega) hr ?_
  walk_at "ss"
  exact k
theorem is_moment_s {d n : Int} (h0 : 0 ≤ d) (h1 : d ≤ 99999) (h2 : 0 ≤ n) (h3 : n ≤ 999) (k : K (.sh (.bl true)) [none]) : Sc X (f_is_moment [.sh (.tup [.int d, .int n])]) K := by
  unfold f_is_moment
  refine fDef_s ?_
  show Ss _ (fb_is_moment [some (.sh (.tup [.int d, .int n]))])
  unfold fb_is_moment
  walk_at "ss"
  rw [decide_eq_true (show ((List.length [PV.int d, PV.int n] : Nat) : Int) = 2 from rfl)]
  walk_at "ss"
  refine is_number_s ?_
  walk_at "ss"
  refine is_number_s ?_
  walk_at "ss"
  rw [decide_eq_true h0]
  walk_at "ss"
  rw [decide_eq_true h1]
  walk_at "ss"
  rw [decide_eq_true h2]
  walk_at "ss"
  rw [decide_eq_true h3]
  walk_at "ss"
  exact k
theorem is_many_s {m : Int} (h : 0 < m) (k : K (.sh (.bl true)) [none]) : Sc X (f_is_many [.sh (.int m)]) K := by
  unfold f_is_many
  refine fDef_s ?_
  show Ss _ (fb_is_many [some (.sh (.int m))])
  unfold fb_is_many
  walk_at "ss"
  refine is_number_s ?_
  walk_at "ss"
  show K (.sh (.bl (decide ((1 : Int) ≤ m)))) [none]
  rw [decide_eq_true (by omega)]
  exact k
theorem is_cut_s {p : PV} (h : S0 p) (k : K (.sh (.bl (eqP p (.tup [.str ""])))) [none]) : Sc X (f_is_cut [.sh p]) K := by
  have hp := s0_pl h
  have hc := s0_pl s1_cut.1
  obtain ⟨us, rfl, _⟩ := h
  unfold f_is_cut
  refine fDef_s ?_
  show Ss _ (fb_is_cut [some (.sh (.tup (us.map PV.str)))])
  unfold fb_is_cut
  walk_at "ss"
  refine gEq_pl hp.1 hc.1 (by have := hp.2.2.1; omega) (by have := hc.2.2.1; omega) ?_
  walk_at "ss"
  exact k
theorem are_looks_s {p : PV} (h : S3 p) (k : K (.sh (.bl true)) [none]) : Sc X (f_are_looks [.sh p]) K := by
  obtain ⟨ps, rfl, hl, h⟩ := h
  unfold f_are_looks
  refine fDef_s ?_
  show Ss _ (fb_are_looks [some (.sh (.tup ps)), none, none])
  unfold fb_are_looks
  walk_at "ss"
  refine kAll_t (by omega) ?_ ?_
  · intro x T F hx hT
    obtain ⟨qs, rfl, _⟩ := h x hx
    refine ⟨_, rfl, ?_⟩
    walk_at "ss"
    exact hT _ rfl
  walk_at "ss"
  refine kFor_i (xs := ps) (fun i e => ∃ z : Option SV, e = [some (.sh (.tup ps)), z, none] ∧ free e 1 = true) ⟨none, rfl, rfl⟩ ?_ ?_
  · rintro i x e N hx ⟨z, rfl, f1⟩ hN
    obtain ⟨qs, rfl, hq, h2⟩ := h x (List.mem_of_getElem? hx)
    refine ⟨[some (.sh (.tup ps)), some (.sh (.tup qs)), none], by unfold setT; dsimp only; rw [if_pos f1]; rfl, ?_⟩
    walk_at "ss"
    refine kAll_t (by omega) ?_ ?_
    · intro y T F hy hT
      obtain ⟨s0, hs⟩ := h2 y hy
      refine ⟨_, rfl, ?_⟩
      walk_at "ss"
      refine is_cut_s s0 ?_
      walk_at "ss"
      refine ite_i (fun hc => ?_) fun hc => ?_
      · exact hT _ rfl
      · have hr : S1R y := hs.resolve_left fun e => by subst e; rw [eqP_iff.mpr rfl] at hc; cases hc
        walk_at "ss"
        refine are_words_s hr ?_
        walk_at "ss"
        exact hT _ rfl
    walk_at "ss"
    exact hN _ ⟨_, rfl, rfl⟩
  rintro e ⟨z, rfl, f1⟩
  walk_at "ss"
  exact k
theorem are_names_s {p : PV} (h : SN p) (k : K (.sh (.bl true)) [none]) : Sc X (f_are_names [.sh p]) K := by
  obtain ⟨us, rfl, hl, hw, hn, h0⟩ := h
  unfold f_are_names
  refine fDef_s ?_
  show Ss _ (fb_are_names [some (.sh (.tup (us.map PV.str))), none])
  unfold fb_are_names
  have hpos : 0 < us.length := List.length_pos_iff.mpr h0
  walk_at "ss"
  rw [decide_eq_false (by rw [List.length_map]; omega)]
  walk_at "ss"
  refine kAll_t (by rw [List.length_map]; omega) ?_ ?_
  · intro x T F hx hT
    obtain ⟨u, hu, rfl⟩ := List.mem_map.mp hx
    refine ⟨_, rfl, ?_⟩
    walk_at "ss"
    refine is_word_s (hw u hu) ?_
    walk_at "ss"
    exact hT _ rfl
  walk_at "ss"
  refine kUn_s (z := .int (nubS us).length) (by unfold gLenSet seqOf; dsimp only; rw [strsOf_map]; dsimp only; rw [if_pos (by omega)]) ?_
  walk_at "ss"
  rw [decide_eq_true (by rw [List.length_map, nubS_full.mpr hn])]
  walk_at "ss"
  exact k
end

end PL
set_option autoImplicit false
namespace PL
open PySem PySem.Spec L2
open PyProof.Rows hiding St
set_option maxHeartbeats 4000000
local macro_rules | `(tactic| walk_at "env") => `(tactic| first | (dsimp only [back, owOf, owAt, wipeE, mergeE, List.set_cons_zero, List.set_cons_succ, List.getElem?_cons_zero, List.getElem?_cons_succ, Option.join]; exact rfl) | exact rfl)
local macro_rules | `(tactic| walk_at "s") => `(tactic| first
  | (with_reducible refine sSeq_s ?_) | ((with_reducible refine' fVar_s ?a ?_); (case a => rfl)) | (with_reducible refine fC_s ?_) | (with_reducible refine fOp_s ?_) | (with_reducible refine fCons_s ?_) | (with_reducible refine fNil_s ?_)
  | (with_reducible refine sSet_s ?_) | ((with_reducible refine' kSet_e ?a ?b ?_); (case a => rfl); (case b => walk_at "env")) | (with_reducible refine sIf_s ?_) | (with_reducible refine fTest_k ?_) | (with_reducible refine kTest_s ?_) | (with_reducible refine sRet_s ?_) | (with_reducible refine kRet_s ?_) | (with_reducible refine sNext_s ?_)
  | (with_reducible refine kSh_s ?_) | (with_reducible refine kSh_o ?_) | (with_reducible refine gEq_int ?_) | (with_reducible refine gNe_int ?_) | (with_reducible refine gEq_str ?_) | (with_reducible refine gNe_str ?_) | ((with_reducible refine' kMine_e ?a ?b ?_); (case a => rfl); (case b => walk_at "env")) | ((with_reducible refine' kMine_p ?a ?b ?_); (case a => rfl); (case b => walk_at "env"))
  | ((with_reducible refine' kOp_s ?a ?_); (case a => rfl)) | ((with_reducible refine' fVar_a ?a ?_); (case a => rfl))
  | (with_reducible refine fTup_s ?_) | ((with_reducible refine' kTup_s ?a ?b ?_); (case a => rfl); (case b => exact lineB rfl)) | (with_reducible refine lDisp_s ?_) | ((with_reducible refine' kDisp_s ?a ?b ?_); (case a => rfl); (case b => exact lineB rfl)) | (with_reducible refine fNew_s ?_)
  | (with_reducible refine fSh_s ?_) | (with_reducible refine fCall_s ?_) | (with_reducible refine fCallK_s ?_) | ((with_reducible refine' kSetL_e ?a ?b ?_); (case a => rfl); (case b => walk_at "env")) | (with_reducible refine And.intro rfl ?_) | ((with_reducible refine' callR_s ?a ?b ?_); (case a => rfl); (case b => rfl)) | ((with_reducible refine' kBack_s ?a ?_); (case a => walk_at "env"))
  | (with_reducible refine sDrop_s ?_) | (with_reducible refine sRetN_s ?_) | (with_reducible refine sRetL_s ?_) | (with_reducible refine sRetC_s ?_) | (with_reducible refine sSetL_s ?_) | (with_reducible refine sSetC_s ?_) | (with_reducible refine sAsg_s ?_) | ((with_reducible refine' kAsg_s ?a ?_); (case a => rfl)) | (with_reducible refine sAsgL_s ?_) | ((with_reducible refine' kAsgL_s ?a ?_); (case a => rfl)) | (with_reducible refine sPar_s ?_) | ((with_reducible refine' kPar_s ?a ?_); (case a => rfl)) | (with_reducible refine sStL_s ?_) | ((with_reducible refine' kStL_s ?a ?_); (case a => rfl)) | ((with_reducible refine' kStL2_e ?a ?b ?c ?_); (case a => rfl); (case b => rfl); (case c => walk_at "env")) | (with_reducible refine sFor_s ?_)
  | (with_reducible refine fTru_k ?_) | (with_reducible refine kTru_b ?_) | ((with_reducible refine' kTru_s ?a ?_); (case a => rfl)) | (with_reducible refine fAndT_s ?_) | (with_reducible refine fOrT_s ?_) | (with_reducible refine fNotT_s ?_) | (with_reducible refine fYes_s ?_) | (with_reducible refine fAndV_s ?_) | (with_reducible refine fOrV_s ?_) | (with_reducible refine kAnd_s ?_) | (with_reducible refine kOr_s ?_) | (with_reducible refine fNotV_s ?_) | (with_reducible refine kNot_s ?_) | (with_reducible refine fIfE_s ?_) | (with_reducible refine fChain_s ?_) | ((with_reducible refine' kCh_s ?a ?_); (case a => rfl)) | (with_reducible refine kCh2_s ?_)
  | (with_reducible refine oNo_s ?_) | (with_reducible refine oPt_s ?_) | (with_reducible refine kPt_s ?_) | (with_reducible refine fSl_s ?_) | ((with_reducible refine' kSl_s ?a ?_); (case a => rfl)) | ((with_reducible refine' kSl_a ?a ?b ?_); (case a => rfl); (case b => rfl)) | (with_reducible refine fUn_s ?_) | ((with_reducible refine' kUn_s ?a ?_); (case a => rfl))
  | (with_reducible refine fCB_s ?_) | ((with_reducible refine' kCB_s ?a ?b ?_); (case a => rfl); (case b => rfl)) | (with_reducible refine lCB_s ?_) | (with_reducible refine fCBL_s ?_) | ((with_reducible refine' kCBL_s ?a ?_); (case a => rfl)) | (with_reducible refine lCBL_s ?_) | (with_reducible refine lCatEL_s ?_) | (with_reducible refine fEqL_s ?_) | (with_reducible refine fIxL_s ?_) | (with_reducible refine lRepL_s ?_) | (with_reducible refine fJoinL_s ?_) | (with_reducible refine kJoin_s ?_) | (with_reducible refine fKIx_s ?_)
  | ((with_reducible refine' fFrz_s ?a ?_); (case a => rfl)) | ((with_reducible refine' fFrz_e ?a ?b ?_); (case a => rfl); (case b => walk_at "env")) | ((with_reducible refine' fMut_s ?a ?_); (case a => rfl))
  | (with_reducible refine iAnyF_s ?_) | ((with_reducible refine' kItr_s ?a ?_); (case a => rfl)) | (with_reducible refine iNwF_s ?_) | (with_reducible refine iRg1F_s ?_) | (with_reducible refine iRg2F_s ?_) | (with_reducible refine iZpF_s ?_) | ((with_reducible refine' kZip_s ?a ?_); (case a => rfl)) | (with_reducible refine lLc_s ?_)
  | ((with_reducible refine' kOp_a ?a ?b ?_); (case a => rfl); (case b => rfl)) | (with_reducible refine lSrtK_s ?_) | (with_reducible refine ite_t ?_) | (with_reducible refine ite_f ?_) | (with_reducible refine ite_nt ?_) | (with_reducible refine ite_nf ?_))
local macro_rules | `(tactic| walk_at "ss") => `(tactic| repeat walk_at "s")
local macro_rules | `(tactic| walk_at "lit") => `(tactic| first | ((with_reducible refine' ite_no ?a ?_); (case a => first | decide | exact decide_eq_true rfl | (refine decide_eq_false ?_; simp; done) | exact rfl)) | ((with_reducible refine' ite_yes ?a ?_); (case a => first | decide | exact decide_eq_true rfl | (refine decide_eq_false ?_; simp; done) | exact rfl)) | ((with_reducible refine' ite_nno ?a ?_); (case a => first | decide | exact decide_eq_true rfl | (refine decide_eq_false ?_; simp; done) | exact rfl)) | ((with_reducible refine' ite_nyes ?a ?_); (case a => first | decide | exact decide_eq_true rfl | (refine decide_eq_false ?_; simp; done) | exact rfl)))
local macro_rules | `(tactic| walk_at "sl") => `(tactic| repeat (first | walk_at "s" | walk_at "lit"))

section
variable {X : VX} {K : SV → VEnv → Prop}
theorem is_told_s {kd : Str} {rest : List PV} (h : KR kd rest) (k : K (.sh (.bl true)) [none, none]) : Sc X (f_is_told [.sh (.str kd), .sh (.tup rest)]) K := by
  unfold f_is_told
  refine fDef_s ?_
  show Ss _ (fb_is_told [some (.sh (.str kd)), some (.sh (.tup rest))])
  unfold fb_is_told
  cases h with
  | pm k' hk w hw m h0 h1 =>
    rcases hk with rfl | rfl <;>
    · walk_at "sl"
      refine is_word_s hw ?_
      walk_at "sl"
      refine is_many_s h0 ?_
      walk_at "ss"
      exact k
  | mc k' hk w x hw hx =>
    rcases hk with rfl | rfl <;>
    · walk_at "sl"
      refine is_word_s hw ?_
      walk_at "sl"
      refine is_word_s hx ?_
      walk_at "ss"
      exact k
  | turn w hw =>
    walk_at "sl"
    refine is_word_s hw ?_
    walk_at "ss"
    exact k
  | bind m h0 h1 =>
    walk_at "sl"
    refine is_many_s h0 ?_
    walk_at "ss"
    exact k
  | seen w hw v hv =>
    walk_at "sl"
    refine is_word_s hw ?_
    walk_at "sl"
    refine are_looks_s hv ?_
    walk_at "ss"
    exact k
  | lot v x hv hx =>
    walk_at "sl"
    refine are_words_s hv ?_
    walk_at "sl"
    refine are_names_s hx ?_
    walk_at "ss"
    exact k
theorem is_page_s {p : PV} (h : Pg p) (k : K (.sh (.bl true)) [none]) : Sc X (f_is_page [.sh p]) K := by
  obtain ⟨d, n, kd, rest, rfl, d0, d9, n0, n9, hk⟩ := h
  have hkd := hk.pl.1
  unfold f_is_page
  refine fDef_s ?_
  show Ss _ (fb_is_page [some (.sh (.tup (.int d :: .int n :: .str kd :: rest)))])
  unfold fb_is_page
  walk_at "ss"
  rw [decide_eq_false (by simp; omega)]
  walk_at "ss"
  rw [show pcut (PV.int d :: .int n :: .str kd :: rest) none (some 2) = [.int d, .int n] from pcut_to _ 2]
  refine is_moment_s d0 d9 n0 n9 ?_
  walk_at "ss"
  refine gIx_tup (v := .str kd) atI2 ?_
  walk_at "ss"
  refine gIx_tup (v := .str kd) atI2 ?_
  walk_at "ss"
  refine gIn_strs kds (kds_ok kd hkd) kds_ok ?_
  rw [decide_eq_true hkd]
  walk_at "ss"
  refine gIx_tup (v := .str kd) atI2 ?_
  walk_at "ss"
  rw [show pcut (PV.int d :: .int n :: .str kd :: rest) (some 3) none = rest from pcut_from _ 3]
  refine is_told_s hk ?_
  walk_at "ss"
  exact k
theorem page_moment_s {d n : Int} {r : List PV} (k : K (.sh (.tup [.int d, .int n])) [none]) : Sc X (f_page_moment [.sh (.tup (.int d :: .int n :: r))]) K := by
  unfold f_page_moment
  refine fDef_s ?_
  show Ss _ (fb_page_moment [some (.sh (.tup (.int d :: .int n :: r)))])
  unfold fb_page_moment
  walk_at "ss"
  rw [show pcut (PV.int d :: .int n :: r) none (some 2) = [.int d, .int n] from pcut_to _ 2]
  exact k
theorem standing_s {p : PV} (h : Pg p) (k : K (.sh (stV p)) [none]) : Sc X (f_standing [.sh p]) K := by
  obtain ⟨d, n, kd, rest, rfl, d0, d9, n0, n9, hk⟩ := h
  have hkd := hk.pl.1
  unfold f_standing
  refine fDef_s ?_
  show Ss _ (fb_standing [some (.sh (.tup (.int d :: .int n :: .str kd :: rest)))])
  unfold fb_standing
  walk_at "ss"
  refine gIx_tup (v := .int d) atI0 ?_
  walk_at "ss"
  refine gIx_tup (v := .int n) atI1 ?_
  walk_at "ss"
  refine gIx_tup (v := .str kd) atI2 ?_
  refine kKIx_s (j := kds.idxOf kd) ?_ ?_
  · have : ∀ k ∈ kds, (i_KINDS.findIdx? fun y => decide (y = k)) = some (kds.idxOf k) := by decide
    exact this kd hkd
  walk_at "ss"
  rw [show pcut (PV.int d :: .int n :: .str kd :: rest) (some 3) none = rest from pcut_from _ 3]
  exact k
theorem stands_ahead_s {p q : PV} (hp : Pg p) (hq : Pg q) (k : K (.sh (.bl (ahd p q))) [none, none]) : Sc X (f_stands_ahead [.sh p, .sh q]) K := by
  unfold f_stands_ahead
  refine fDef_s ?_
  show Ss _ (fb_stands_ahead [some (.sh p), some (.sh q)])
  unfold fb_stands_ahead
  walk_at "ss"
  refine standing_s hp ?_
  walk_at "ss"
  refine standing_s hq ?_
  walk_at "ss"
  obtain ⟨_, _, e1, p1⟩ := st_pl hp
  obtain ⟨_, _, e2, p2⟩ := st_pl hq
  have hc := cmp_st hp hq
  unfold ahd at k
  rw [e1] at k p1 hc ⊢
  rw [e2] at k p2 hc ⊢
  refine gLt_tup p1.1 p2.1 (by have := p1.2.2.1; omega) (by have := p2.2.2.1; omega) hc ?_
  walk_at "ss"
  exact k
end

end PL
set_option autoImplicit false
namespace PL
open PySem PySem.Spec L2
open PyProof.Rows hiding St
set_option maxHeartbeats 4000000
local macro_rules | `(tactic| walk_at "env") => `(tactic| first | (dsimp only [back, owOf, owAt, wipeE, mergeE, List.set_cons_zero, List.set_cons_succ, List.getElem?_cons_zero, List.getElem?_cons_succ, Option.join]; exact rfl) | exact rfl)
local macro_rules | `(tactic| walk_at "s") => `(tactic| first
  | (with_reducible refine sSeq_s ?_) | ((with_reducible refine' fVar_s ?a ?_); (case a => rfl)) | (with_reducible refine fC_s ?_) | (with_reducible refine fOp_s ?_) | (with_reducible refine fCons_s ?_) | (with_reducible refine fNil_s ?_)
  | (with_reducible refine sSet_s ?_) | ((with_reducible refine' kSet_e ?a ?b ?_); (case a => rfl); (case b => walk_at "env")) | (with_reducible refine sIf_s ?_) | (with_reducible refine fTest_k ?_) | (with_reducible refine kTest_s ?_) | (with_reducible refine sRet_s ?_) | (with_reducible refine kRet_s ?_) | (with_reducible refine sNext_s ?_)
  | (with_reducible refine kSh_s ?_) | (with_reducible refine kSh_o ?_) | (with_reducible refine gEq_int ?_) | (with_reducible refine gNe_int ?_) | (with_reducible refine gEq_str ?_) | (with_reducible refine gNe_str ?_) | ((with_reducible refine' kMine_e ?a ?b ?_); (case a => rfl); (case b => walk_at "env")) | ((with_reducible refine' kMine_p ?a ?b ?_); (case a => rfl); (case b => walk_at "env"))
  | ((with_reducible refine' kOp_s ?a ?_); (case a => rfl)) | ((with_reducible refine' fVar_a ?a ?_); (case a => rfl))
  | (with_reducible refine fTup_s ?_) | ((with_reducible refine' kTup_s ?a ?b ?_); (case a => rfl); (case b => exact lineB rfl)) | (with_reducible refine lDisp_s ?_) | ((with_reducible refine' kDisp_s ?a ?b ?_); (case a => rfl); (case b => exact lineB rfl)) | (with_reducible refine fNew_s ?_)
  | (with_reducible refine fSh_s ?_) | (with_reducible refine fCall_s ?_) | (with_reducible refine fCallK_s ?_) | ((with_reducible refine' kSetL_e ?a ?b ?_); (case a => rfl); (case b => walk_at "env")) | (with_reducible refine And.intro rfl ?_) | ((with_reducible refine' callR_s ?a ?b ?_); (case a => rfl); (case b => rfl)) | ((with_reducible refine' kBack_s ?a ?_); (case a => walk_at "env"))
  | (with_reducible refine sDrop_s ?_) | (with_reducible refine sRetN_s ?_) | (with_reducible refine sRetL_s ?_) | (with_reducible refine sRetC_s ?_) | (with_reducible refine sSetL_s ?_) | (with_reducible refine sSetC_s ?_) | (with_reducible refine sAsg_s ?_) | ((with_reducible refine' kAsg_s ?a ?_); (case a => rfl)) | (with_reducible refine sAsgL_s ?_) | ((with_reducible refine' kAsgL_s ?a ?_); (case a => rfl)) | (with_reducible refine sPar_s ?_) | ((with_reducible refine' kPar_s ?a ?_); (case a => rfl)) | (with_reducible refine sStL_s ?_) | ((with_reducible refine' kStL_s ?a ?_); (case a => rfl)) | ((with_reducible refine' kStL2_e ?a ?b ?c ?_); (case a => rfl); (case b => rfl); (case c => walk_at "env")) | (with_reducible refine sFor_s ?_)
  | (with_reducible refine fTru_k ?_) | (with_reducible refine kTru_b ?_) | ((with_reducible refine' kTru_s ?a ?_); (case a => rfl)) | (with_reducible refine fAndT_s ?_) | (with_reducible refine fOrT_s ?_) | (with_reducible refine fNotT_s ?_) | (with_reducible refine fYes_s ?_) | (with_reducible refine fAndV_s ?_) | (with_reducible refine fOrV_s ?_) | (with_reducible refine kAnd_s ?_) | (with_reducible refine kOr_s ?_) | (with_reducible refine fNotV_s ?_) | (with_reducible refine kNot_s ?_) | (with_reducible refine fIfE_s ?_) | (with_reducible refine fChain_s ?_) | ((with_reducible refine' kCh_s ?a ?_); (case a => rfl)) | (with_reducible refine kCh2_s ?_)
  | (with_reducible refine oNo_s ?_) | (with_reducible refine oPt_s ?_) | (with_reducible refine kPt_s ?_) | (with_reducible refine fSl_s ?_) | ((with_reducible refine' kSl_s ?a ?_); (case a => rfl)) | ((with_reducible refine' kSl_a ?a ?b ?_); (case a => rfl); (case b => rfl)) | (with_reducible refine fUn_s ?_) | ((with_reducible refine' kUn_s ?a ?_); (case a => rfl))
  | (with_reducible refine fCB_s ?_) | ((with_reducible refine' kCB_s ?a ?b ?_); (case a => rfl); (case b => rfl)) | (with_reducible refine lCB_s ?_) | (with_reducible refine fCBL_s ?_) | ((with_reducible refine' kCBL_s ?a ?_); (case a => rfl)) | (with_reducible refine lCBL_s ?_) | (with_reducible refine lCatEL_s ?_) | (with_reducible refine fEqL_s ?_) | (with_reducible refine fIxL_s ?_) | (with_reducible refine lRepL_s ?_) | (with_reducible refine fJoinL_s ?_) | (with_reducible refine kJoin_s ?_) | (with_reducible refine fKIx_s ?_)
  | ((with_reducible refine' fFrz_s ?a ?_); (case a => rfl)) | ((with_reducible refine' fFrz_e ?a ?b ?_); (case a => rfl); (case b => walk_at "env")) | ((with_reducible refine' fMut_s ?a ?_); (case a => rfl))
  | (with_reducible refine iAnyF_s ?_) | ((with_reducible refine' kItr_s ?a ?_); (case a => rfl)) | (with_reducible refine iNwF_s ?_) | (with_reducible refine iRg1F_s ?_) | (with_reducible refine iRg2F_s ?_) | (with_reducible refine iZpF_s ?_) | ((with_reducible refine' kZip_s ?a ?_); (case a => rfl)) | (with_reducible refine lLc_s ?_)
  | ((with_reducible refine' kOp_a ?a ?b ?_); (case a => rfl); (case b => rfl)) | (with_reducible refine lSrtK_s ?_) | (with_reducible refine ite_t ?_) | (with_reducible refine ite_f ?_) | (with_reducible refine ite_nt ?_) | (with_reducible refine ite_nf ?_))
local macro_rules | `(tactic| walk_at "ss") => `(tactic| repeat walk_at "s")
local macro_rules | `(tactic| walk_at "lit") => `(tactic| first | ((with_reducible refine' ite_no ?a ?_); (case a => first | decide | exact decide_eq_true rfl | (refine decide_eq_false ?_; simp; done) | exact rfl)) | ((with_reducible refine' ite_yes ?a ?_); (case a => first | decide | exact decide_eq_true rfl | (refine decide_eq_false ?_; simp; done) | exact rfl)) | ((with_reducible refine' ite_nno ?a ?_); (case a => first | decide | exact decide_eq_true rfl | (refine decide_eq_false ?_; simp; done) | exact rfl)) | ((with_reducible refine' ite_nyes ?a ?_); (case a => first | decide | exact decide_eq_true rfl | (refine decide_eq_false ?_; simp; done) | exact rfl)))
local macro_rules | `(tactic| walk_at "sl") => `(tactic| repeat (first | walk_at "s" | walk_at "lit"))
noncomputable def fb_up_to : VEnv → Fl :=
  (sRet (fCBL gTupL (lLc (iAnyF (fVar 0)) (.one 2) (fOrT (fTest (fOp (gIs false) (fVar 1) (fC .non))) (fTest (fOp gLe (fSh (fCall 1 f_page_moment (fCons (fVar 2) fNil) [])) (fVar 1)))) (fVar 2) [2])))
noncomputable def f_up_to : List SV → RsC := fDef 3 fb_up_to
noncomputable def fb_in_order : VEnv → Fl :=
  (sSeq (sSetL 1 (lDisp fNil))
  (sSeq (sFor (iNwF (lSrtK f_standing (fVar 0))) (.one 2) (sIf (fOrT (fTest (fEqL false (fVar 1) (lDisp fNil))) (fTest (fOp (gEqN true) (fOp gIx (fVar 1) (fUn gNeg (fC (.int 1)))) (fVar 2)))) (sDrop (fMut true gAppend 1 (fCons (fVar 2) fNil))) sNext))
  (sRet (fCB gTup (fCons (fVar 1) fNil)))))
noncomputable def f_in_order : List SV → RsC := fDef 3 fb_in_order
noncomputable def fb_joined : VEnv → Fl :=
  (sRetC (fCall 1 f_in_order (fCons (fOp gAdd (fVar 0) (fVar 1)) fNil) []))
noncomputable def f_joined : List SV → RsC := fDef 2 fb_joined
noncomputable def fb_is_book : VEnv → Fl :=
  (sSeq (sIf (fOrT (fNotT (fTru (fCB gIsi (fCons (fVar 0) (fCons (fC (.ty "tuple")) fNil))))) (fNotT (fTru (fCBL gAllB (lLc (iAnyF (fVar 0)) (.one 1) fYes (fSh (fCall 1 f_is_page (fCons (fVar 1) fNil) [])) [1]))))) (sRet (fC (.bl false))) sNext)
  (sRet (fCBL gAllB (lLc (iZpF (fVar 0) (fSl (fVar 0) (oPt (fC (.int 1))) oNo)) (.many [1, 2]) fYes (fSh (fCall 2 f_stands_ahead (fCons (fVar 1) (fCons (fVar 2) fNil)) [])) [1, 2]))))
noncomputable def f_is_book : List SV → RsC := fDef 3 fb_is_book
theorem filter_fm {α : Type} (t : α → Bool) : ∀ xs : List α, xs.filterMap (fun o => if t o = true then some o else none) = xs.filter t
  | [] => rfl
  | x :: xs => by
    have ih := filter_fm t xs
    cases h : t x with
    | true => rw [List.filter_cons_of_pos h, List.filterMap_cons_some (b := x) (by simp [h]), ih]
    | false => rw [List.filter_cons_of_neg (by simp [h]), List.filterMap_cons_none (by simp [h]), ih]
section
variable {X : VX} {K : SV → VEnv → Prop}
theorem is_book_s {b : List PV} (hl : b.length ≤ 1000) (hb : ∀ x ∈ b, Pg x) (r : Rises ahd b) (k : K (.sh (.bl true)) [none]) : Sc X (f_is_book [.sh (.tup b)]) K := by
  unfold f_is_book
  refine fDef_s ?_
  show Ss _ (fb_is_book [some (.sh (.tup b)), none, none])
  unfold fb_is_book
  walk_at "ss"
  refine kAll_t (by omega) ?_ ?_
  · intro x T F hx hT
    refine ⟨_, rfl, ?_⟩
    walk_at "ss"
    refine is_page_s (hb x hx) ?_
    walk_at "ss"
    exact hT _ rfl
  walk_at "ss"
  rw [show pcut b (some 1) none = b.drop 1 from pcut_from _ 1]
  refine kAll_t (by rw [List.length_zipWith]; omega) ?_ ?_
  · intro x T F hx hT
    obtain ⟨i, hi⟩ := List.getElem?_of_mem hx
    obtain ⟨y, z, hy, hz, rfl⟩ := zip_at hi
    rw [List.getElem?_drop] at hz
    have hy' := List.mem_of_getElem? hy
    have hz' := List.mem_of_getElem? hz
    have hyz : ahd y z = true := by
      obtain ⟨a1, a2⟩ := List.getElem?_eq_some_iff.mp hy
      obtain ⟨b1, b2⟩ := List.getElem?_eq_some_iff.mp hz
      rw [← a2, ← b2]
      exact List.pairwise_iff_getElem.mp r i (1 + i) a1 b1 (by omega)
    refine ⟨_, rfl, ?_⟩
    walk_at "ss"
    refine stands_ahead_s (hb y hy') (hb z hz') ?_
    walk_at "ss"
    rw [hyz]
    exact hT _ rfl
  walk_at "ss"
  exact k
theorem in_order_s {v : PV} {ps : List PV} (hv : seqOf v = some ps) (hl : ps.length ≤ 100000) (hp : ∀ x ∈ ps, Pg x) (k : ∀ b, IsBook ps b → b.length ≤ ps.length → K (.sh (.tup b)) [none]) : Sc X (f_in_order [.sh v]) K := by
  unfold f_in_order
  refine fDef_s ?_
  show Ss _ (fb_in_order [some (.sh v), none, none])
  unfold fb_in_order
  walk_at "ss"
  refine kSrtK_s stV hv (pls_purs _ (pgs_pl hp).1) (fun x hx => ⟨?_, ?_⟩) (page_keys ps hp) ?_
  · obtain ⟨a, e, h1, h2⟩ := (standing_s (K := fun r _ => r = .sh (stV x)) (hp x hx) rfl).get
    subst h2
    exact ⟨e, h1⟩
  · obtain ⟨_, _, _, z⟩ := st_pl (hp x hx)
    exact pl_pur _ z.1
  obtain ⟨perm, srt⟩ := sort_pages ps hp
  generalize sortK ps (ps.map stV) = S at perm srt ⊢
  have hS : ∀ x ∈ S, Pg x := fun x hx => hp x (perm.mem_iff.mp hx)
  have hSl := perm.length_eq
  refine kFor_i (xs := S) (fun i e => ∃ (z2 : Option SV) (fs : List PV), e = [some (.sh v), some (.ow false fs), z2] ∧ free e 2 = true ∧ Rises ahd fs ∧ (∀ x, x ∈ fs ↔ x ∈ S.take i) ∧ fs.length ≤ i)
    ⟨none, [], rfl, rfl, List.Pairwise.nil, by simp, by simp⟩ ?_ ?_
  · rintro i x e N hx ⟨z2, fs, rfl, f2, r, hm, hfl⟩ hN
    have px := hS x (List.mem_of_getElem? hx)
    have hi := (List.getElem?_eq_some_iff.mp hx).1
    have pf : ∀ f ∈ fs, Pg f := fun f hf => hS f (List.mem_of_mem_take ((hm f).mp hf))
    obtain ⟨f1, f3⟩ := pgs_pl pf
    have gx := pg_pl px
    have et : S.take (i + 1) = S.take i ++ [x] := by rw [List.take_add_one, hx]; rfl
    have hxf : ∀ f ∈ fs, ahd x f = false := fun f hf => by
      obtain ⟨j, hj, ej⟩ := List.getElem_of_mem ((hm f).mp hf)
      have hj2 : j < i := by rw [List.length_take] at hj; omega
      have := List.pairwise_iff_getElem.mp srt j i (by omega) hi hj2
      rw [List.getElem_take] at ej
      rw [ej, (List.getElem?_eq_some_iff.mp hx).2] at this
      exact this
    have add : x ∉ fs → N [some (.sh v), some (.ow false (fs ++ [x])), some (.sh x)] := fun n => by
      refine hN _ ⟨_, fs ++ [x], rfl, rfl, rises_snoc pf px r hxf n, fun y => ?_, by simp; omega⟩
      rw [et, List.mem_append, List.mem_append, hm y]
    have keep : x ∈ fs → N [some (.sh v), some (.ow false fs), some (.sh x)] := fun h => by
      refine hN _ ⟨_, fs, rfl, rfl, r, fun y => ?_, by omega⟩
      rw [et, List.mem_append, ← hm y, List.mem_singleton]
      exact ⟨.inl, fun h' => h'.elim id fun e => e ▸ h⟩
    refine ⟨[some (.sh v), some (.ow false fs), some (.sh x)], by unfold setT; dsimp only; rw [if_pos f2]; rfl, ?_⟩
    walk_at "ss"
    refine kEqL_v (xs := fs) rfl f1 (by rw [pls]) (by omega) (by rw [dpts]; omega) ?_
    walk_at "ss"
    rcases List.eq_nil_or_concat fs with h0 | ⟨gs, z, h0⟩
    · have : eqP (.tup fs) (.tup []) = true := eqP_iff.mpr (by rw [h0])
      rw [this]
      walk_at "sl"
      exact gApp_s (xs := fs) rfl (by omega) (add (by rw [h0]; simp))
    · rw [List.concat_eq_append] at h0
      have : eqP (.tup fs) (.tup []) = false := by
        cases e : eqP (.tup fs) (.tup []) with
        | false => rfl
        | true => have := PV.tup.inj (eqP_iff.mp e); rw [h0] at this; simp at this
      rw [this]
      walk_at "sl"
      have hz : Pg z := pf z (by rw [h0]; simp)
      have gz := pg_pl hz
      refine kOp_a (g := gIx) (xs := fs) (z := z) rfl (by show atI fs (-1) = some z; rw [h0]; exact atI_last) ?_
      walk_at "ss"
      refine gNe_pl gz.1 gx.1 (by have := gz.2.2.1; omega) (by have := gx.2.2.1; omega) ?_
      walk_at "ss"
      refine ite_i (fun hb => ?_) fun hb => ?_
      · have hne : ¬ z = x := fun e => by
          have : eqP z x = true := eqP_iff.mpr e
          rw [this] at hb; cases hb
        walk_at "ss"
        refine gApp_s (xs := fs) rfl (by omega) (add fun hxm => ?_)
        rw [h0] at hxm r hxf
        rcases List.mem_append.mp hxm with h | h
        · have := rises_last r h
          rw [hxf z (by simp)] at this; cases this
        · rw [List.mem_singleton] at h; exact hne h.symm
      · have he : z = x := eqP_iff.mp (by simpa using hb)
        walk_at "ss"
        exact keep (by rw [h0, ← he]; simp)
  rintro e ⟨z2, fs, rfl, f2, r, hm, hfl⟩
  walk_at "ss"
  refine k fs ⟨r, fun x => ?_⟩ (by omega)
  rw [hm x, List.take_of_length_le (Nat.le_refl _)]
  exact perm.mem_iff
theorem joined_s {b c : List PV} (hb : ∀ x ∈ b, Pg x) (hc : ∀ x ∈ c, Pg x) (hl : b.length + c.length ≤ 1000) (k : ∀ d, IsBook (b ++ c) d → d.length ≤ b.length + c.length → K (.sh (.tup d)) [none, none]) : Sc X (f_joined [.sh (.tup b), .sh (.tup c)]) K := by
  unfold f_joined
  refine fDef_s ?_
  show Ss _ (fb_joined [some (.sh (.tup b)), some (.sh (.tup c))])
  unfold fb_joined
  walk_at "ss"
  refine gAdd_tup (line6 (by omega)) ?_
  walk_at "ss"
  refine in_order_s (ps := b ++ c) rfl (by rw [List.length_append]; omega) (fun x hx => (List.mem_append.mp hx).elim (hb x) (hc x)) fun d hd hdl => ?_
  walk_at "ss"
  exact k d hd (by rw [List.length_append] at hdl; exact hdl)
theorem up_to_none {b : List PV} (hl : b.length ≤ 1000) (k : K (.sh (.tup b)) [none, none]) : Sc X (f_up_to [.sh (.tup b), .sh .non]) K := by
  unfold f_up_to
  refine fDef_s ?_
  show Ss _ (fb_up_to [some (.sh (.tup b)), some (.sh .non), none])
  unfold fb_up_to
  walk_at "ss"
  refine kLc_p (fun o => some o) (by omega) ?_ ?_
  · intro o T F ho hT hF
    refine ⟨_, rfl, ?_⟩
    walk_at "ss"
    exact hT _ _ rfl rfl
  rw [show b.filterMap (fun o => some o) = b from List.filterMap_some]
  walk_at "ss"
  exact k
theorem up_to_s {b : List PV} {d n : Int} (hl : b.length ≤ 1000) (hb : ∀ x ∈ b, Pg x) (k : K (.sh (.tup (b.filter (isBy d n)))) [none, none]) : Sc X (f_up_to [.sh (.tup b), .sh (.tup [.int d, .int n])]) K := by
  unfold f_up_to
  refine fDef_s ?_
  show Ss _ (fb_up_to [some (.sh (.tup b)), some (.sh (.tup [.int d, .int n])), none])
  unfold fb_up_to
  walk_at "ss"
  refine kLc_p (fun o => if isBy d n o = true then some o else none) (by omega) ?_ ?_
  · intro o T F ho hT hF
    obtain ⟨d', n', k', r', rfl, _⟩ := hb o ho
    have ei : isBy d n (.tup (.int d' :: .int n' :: .str k' :: r')) = decide (d' < d ∨ (d' = d ∧ n' ≤ n)) := rfl
    refine ⟨_, rfl, ?_⟩
    walk_at "sl"
    refine page_moment_s ?_
    walk_at "ss"
    refine ite_i (fun h => ?_) fun h => ?_
    · walk_at "ss"
      exact hT _ _ (by rw [ei, h]; rfl) rfl
    · exact hF _ (by rw [ei, h]; rfl) rfl
  rw [filter_fm]
  walk_at "ss"
  exact k
end

end PL
set_option autoImplicit false
namespace PL
open PySem PySem.Spec L2
open PyProof.Rows hiding St
set_option maxHeartbeats 4000000
local macro_rules | `(tactic| walk_at "env") => `(tactic| first | (dsimp only [back, owOf, owAt, wipeE, mergeE, List.set_cons_zero, List.set_cons_succ, List.getElem?_cons_zero, List.getElem?_cons_succ, Option.join]; exact rfl) | exact rfl)
local macro_rules | `(tactic| walk_at "s") => `(tactic| first
  | (with_reducible refine sSeq_s ?_) | ((with_reducible refine' fVar_s ?a ?_); (case a => rfl)) | (with_reducible refine fC_s ?_) | (with_reducible refine fOp_s ?_) | (with_reducible refine fCons_s ?_) | (with_reducible refine fNil_s ?_)
  | (with_reducible refine sSet_s ?_) | ((with_reducible refine' kSet_e ?a ?b ?_); (case a => rfl); (case b => walk_at "env")) | (with_reducible refine sIf_s ?_) | (with_reducible refine fTest_k ?_) | (with_reducible refine kTest_s ?_) | (with_reducible refine sRet_s ?_) | (with_reducible refine kRet_s ?_) | (with_reducible refine sNext_s ?_)
  | (with_reducible refine kSh_s ?_) | (with_reducible refine kSh_o ?_) | (with_reducible refine gEq_int ?_) | (with_reducible refine gNe_int ?_) | (with_reducible refine gEq_str ?_) | (with_reducible refine gNe_str ?_) | ((with_reducible refine' kMine_e ?a ?b ?_); (case a => rfl); (case b => walk_at "env")) | ((with_reducible refine' kMine_p ?a ?b ?_); (case a => rfl); (case b => walk_at "env"))
  | ((with_reducible refine' kOp_s ?a ?_); (case a => rfl)) | ((with_reducible refine' fVar_a ?a ?_); (case a => rfl))
  | (with_reducible refine fTup_s ?_) | ((with_reducible refine' kTup_s ?a ?b ?_); (case a => rfl); (case b => exact lineB rfl)) | (with_reducible refine lDisp_s ?_) | ((with_reducible refine' kDisp_s ?a ?b ?_); (case a => rfl); (case b => exact lineB rfl)) | (with_reducible refine fNew_s ?_)
  | (with_reducible refine fSh_s ?_) | (with_reducible refine fCall_s ?_) | (with_reducible refine fCallK_s ?_) | ((with_reducible refine' kSetL_e ?a ?b ?_); (case a => rfl); (case b => walk_at "env")) | (with_reducible refine And.intro rfl ?_) | ((with_reducible refine' callR_s ?a ?b ?_); (case a => rfl); (case b => rfl)) | ((with_reducible refine' kBack_s ?a ?_); (case a => walk_at "env"))
  | (with_reducible refine sDrop_s ?_) | (with_reducible refine sRetN_s ?_) | (with_reducible refine sRetL_s ?_) | (with_reducible refine sRetC_s ?_) | (with_reducible refine sSetL_s ?_) | (with_reducible refine sSetC_s ?_) | (with_reducible refine sAsg_s ?_) | ((with_reducible refine' kAsg_s ?a ?_); (case a => rfl)) | (with_reducible refine sAsgL_s ?_) | ((with_reducible refine' kAsgL_s ?a ?_); (case a => rfl)) | (with_reducible refine sPar_s ?_) | ((with_reducible refine' kPar_s ?a ?_); (case a => rfl)) | (with_reducible refine sStL_s ?_) | ((with_reducible refine' kStL_s ?a ?_); (case a => rfl)) | ((with_reducible refine' kStL2_e ?a ?b ?c ?_); (case a => rfl); (case b => rfl); (case c => walk_at "env")) | (with_reducible refine sFor_s ?_)
  | (with_reducible refine fTru_k ?_) | (with_reducible refine kTru_b ?_) | ((with_reducible refine' kTru_s ?a ?_); (case a => rfl)) | (with_reducible refine fAndT_s ?_) | (with_reducible refine fOrT_s ?_) | (with_reducible refine fNotT_s ?_) | (with_reducible refine fYes_s ?_) | (with_reducible refine fAndV_s ?_) | (with_reducible refine fOrV_s ?_) | (with_reducible refine kAnd_s ?_) | (with_reducible refine kOr_s ?_) | (with_reducible refine fNotV_s ?_) | (with_reducible refine kNot_s ?_) | (with_reducible refine fIfE_s ?_) | (with_reducible refine fChain_s ?_) | ((with_reducible refine' kCh_s ?a ?_); (case a => rfl)) | (with_reducible refine kCh2_s ?_)
  | (with_reducible refine oNo_s ?_) | (with_reducible refine oPt_s ?_) | (with_reducible refine kPt_s ?_) | (with_reducible refine fSl_s ?_) | ((with_reducible refine' kSl_s ?a ?_); (case a => rfl)) | ((with_reducible refine' kSl_a ?a ?b ?_); (case a => rfl); (case b => rfl)) | (with_reducible refine fUn_s ?_) | ((with_reducible refine' kUn_s ?a ?_); (case a => rfl))
  | (with_reducible refine fCB_s ?_) | ((with_reducible refine' kCB_s ?a ?b ?_); (case a => rfl); (case b => rfl)) | (with_reducible refine lCB_s ?_) | (with_reducible refine fCBL_s ?_) | ((with_reducible refine' kCBL_s ?a ?_); (case a => rfl)) | (with_reducible refine lCBL_s ?_) | (with_reducible refine lCatEL_s ?_) | (with_reducible refine fEqL_s ?_) | (with_reducible refine fIxL_s ?_) | (with_reducible refine lRepL_s ?_) | (with_reducible refine fJoinL_s ?_) | (with_reducible refine kJoin_s ?_) | (with_reducible refine fKIx_s ?_)
  | ((with_reducible refine' fFrz_s ?a ?_); (case a => rfl)) | ((with_reducible refine' fFrz_e ?a ?b ?_); (case a => rfl); (case b => walk_at "env")) | ((with_reducible refine' fMut_s ?a ?_); (case a => rfl))
  | (with_reducible refine iAnyF_s ?_) | ((with_reducible refine' kItr_s ?a ?_); (case a => rfl)) | (with_reducible refine iNwF_s ?_) | (with_reducible refine iRg1F_s ?_) | (with_reducible refine iRg2F_s ?_) | (with_reducible refine iZpF_s ?_) | ((with_reducible refine' kZip_s ?a ?_); (case a => rfl)) | (with_reducible refine lLc_s ?_)
  | ((with_reducible refine' kOp_a ?a ?b ?_); (case a => rfl); (case b => rfl)) | (with_reducible refine lSrtK_s ?_) | (with_reducible refine ite_t ?_) | (with_reducible refine ite_f ?_) | (with_reducible refine ite_nt ?_) | (with_reducible refine ite_nf ?_))
local macro_rules | `(tactic| walk_at "ss") => `(tactic| repeat walk_at "s")
local macro_rules | `(tactic| walk_at "lit") => `(tactic| first | ((with_reducible refine' ite_no ?a ?_); (case a => first | decide | exact decide_eq_true rfl | (refine decide_eq_false ?_; simp; done) | exact rfl)) | ((with_reducible refine' ite_yes ?a ?_); (case a => first | decide | exact decide_eq_true rfl | (refine decide_eq_false ?_; simp; done) | exact rfl)) | ((with_reducible refine' ite_nno ?a ?_); (case a => first | decide | exact decide_eq_true rfl | (refine decide_eq_false ?_; simp; done) | exact rfl)) | ((with_reducible refine' ite_nyes ?a ?_); (case a => first | decide | exact decide_eq_true rfl | (refine decide_eq_false ?_; simp; done) | exact rfl)))
local macro_rules | `(tactic| walk_at "sl") => `(tactic| repeat (first | walk_at "s" | walk_at "lit"))
noncomputable def fb_law : VEnv → Fl :=
  (sSeq (sSet 2 (fSh (fCall 1 f__law_words (fCons (fVar 1) fNil) [])))
  (sSeq (sSet 3 (fNew (lLc (iRg1F (fIxL (lDisp (fCons (fC (.int 6)) (fCons (fC (.int 4)) (fCons (fC (.int 10)) (fCons (fC (.int 1)) (fCons (fC (.int 2)) (fCons (fC (.int 0)) (fCons (fC (.int 8)) (fCons (fC (.int 9)) fNil))))))))) (fSh (fCall 2 f__law_draw (fCons (fVar 1) (fCons (fC (.int 8)) fNil)) [])))) (.one 13) fYes (fSh (fCall 2 f__law_page (fCons (fVar 1) (fCons (fVar 2) fNil)) [])) [13])))
  (sSeq (sAsgL (fNew (lLc (iRg1F (fC (.int 3))) (.one 14) fYes (fSh (fCall 1 f_in_order (fCons (fNew (lLc (iAnyF (fVar 3)) (.one 15) (fTest (fOp (gEqN false) (fSh (fCall 2 f__law_draw (fCons (fVar 1) (fCons (fC (.int 2)) fNil)) [])) (fC (.int 0)))) (fVar 15) [15])) fNil) [])) [14])) [4, 5, 6])
  (sSeq (sSet 7 (fSh (fCall 2 f_joined (fCons (fSh (fCall 2 f_joined (fCons (fVar 4) (fCons (fVar 5) fNil)) [])) (fCons (fVar 6) fNil)) [])))
  (sSeq (sFor (iAnyF (fTup (fCons (fSh (fCall 2 f_joined (fCons (fVar 4) (fCons (fSh (fCall 2 f_joined (fCons (fVar 5) (fCons (fVar 6) fNil)) [])) fNil)) [])) (fCons (fSh (fCall 2 f_joined (fCons (fSh (fCall 2 f_joined (fCons (fVar 6) (fCons (fVar 4) fNil)) [])) (fCons (fVar 5) fNil)) [])) (fCons (fSh (fCall 2 f_joined (fCons (fSh (fCall 2 f_joined (fCons (fVar 5) (fCons (fVar 5) fNil)) [])) (fCons (fSh (fCall 2 f_joined (fCons (fVar 6) (fCons (fVar 4) fNil)) [])) fNil)) [])) fNil))))) (.one 8) (sIf (fTest (fOp (gEqN true) (fVar 8) (fVar 7))) (sRet (fC (.bl false))) sNext))
  (sSeq (sIf (fOrT (fTest (fOp (gIs true) (fSh (fCall 1 f_is_book (fCons (fVar 7) fNil) [])) (fC (.bl true)))) (fOrT (fTest (fOp (gEqN true) (fSh (fCall 2 f_joined (fCons (fVar 7) (fCons (fVar 4) fNil)) [])) (fVar 7))) (fTest (fOp (gEqN true) (fSh (fCall 2 f_joined (fCons (fTup fNil) (fCons (fVar 7) fNil)) [])) (fVar 7))))) (sRet (fC (.bl false))) sNext)
  (sSeq (sSet 9 (fNew (lCatEL (fNew (lLc (iAnyF (fSl (fVar 7) oNo (oPt (fC (.int 5))))) (.one 15) fYes (fSl (fVar 15) oNo (oPt (fC (.int 2)))) [15])) (lDisp (fCons (fTup (fCons (fSh (fCall 2 f__law_draw (fCons (fVar 1) (fCons (fC (.int 100000)) fNil)) [])) (fCons (fSh (fCall 2 f__law_draw (fCons (fVar 1) (fCons (fC (.int 1000)) fNil)) [])) fNil))) (fCons (fC .non) fNil))))))
  (sSeq (sFor (iAnyF (fVar 9)) (.one 10) (sSeq (sIf (fTest (fOp (gEqN true) (fSh (fCall 2 f_up_to (fCons (fVar 7) (fCons (fVar 10) fNil)) [])) (fSh (fCall 2 f_joined (fCons (fSh (fCall 2 f_joined (fCons (fSh (fCall 2 f_up_to (fCons (fVar 4) (fCons (fVar 10) fNil)) [])) (fCons (fSh (fCall 2 f_up_to (fCons (fVar 5) (fCons (fVar 10) fNil)) [])) fNil)) [])) (fCons (fSh (fCall 2 f_up_to (fCons (fVar 6) (fCons (fVar 10) fNil)) [])) fNil)) [])))) (sRet (fC (.bl false))) sNext)
  (sFor (iAnyF (fVar 9)) (.one 11) (sSeq (sSet 12 (fIfE (fTest (fOp (gIs false) (fVar 10) (fC .non))) (fVar 11) (fIfE (fTest (fOp (gIs false) (fVar 11) (fC .non))) (fVar 10) (fCB gMinX (fCons (fVar 10) (fCons (fVar 11) fNil))))))
  (sIf (fTest (fOp (gEqN true) (fSh (fCall 2 f_up_to (fCons (fSh (fCall 2 f_up_to (fCons (fVar 7) (fCons (fVar 10) fNil)) [])) (fCons (fVar 11) fNil)) [])) (fSh (fCall 2 f_up_to (fCons (fVar 7) (fCons (fVar 12) fNil)) [])))) (sRet (fC (.bl false))) sNext)))))
  (sRet (fC (.bl true)))))))))))
/-! ## books joined thrice -/
/-- a moment, or none -/
def IsM (m : PV) : Prop := m = .non ∨ ∃ d n : Int, m = .tup [.int d, .int n]
def byP (m : PV) : PV → Bool := match m with
  | .tup [.int d, .int n] => isBy d n
  | _ => fun _ => true
def momP (x : PV) : Option PV := match x with
  | .tup (.int d :: .int n :: _) => some (.tup [.int d, .int n])
  | _ => none
section
variable {X : VX} {K : SV → VEnv → Prop} {c : Nat} {fd : List PV}
theorem IsBook.cong {ps qs b : List PV} (h : IsBook ps b) (e : ∀ x, x ∈ ps ↔ x ∈ qs) : IsBook qs b := ⟨h.1, fun x => (h.2 x).trans (e x)⟩
theorem up_to_m {b : List PV} {m : PV} (hm : IsM m) (hl : b.length ≤ 1000) (hb : ∀ x ∈ b, Pg x) (k : K (.sh (.tup (b.filter (byP m)))) [none, none]) : Sc X (f_up_to [.sh (.tup b), .sh m]) K := by
  rcases hm with rfl | ⟨d, n, rfl⟩
  · have : b.filter (byP .non) = b := List.filter_eq_self.mpr fun _ _ => rfl
    rw [this] at k
    exact up_to_none hl k
  · exact up_to_s hl hb k
theorem by_min {a b c d : Int} {x : PV} (hx : Pg x) : (byP (.tup [.int c, .int d]) x && byP (.tup [.int a, .int b]) x) = byP (if c < a ∨ (c = a ∧ d < b) then .tup [.int c, .int d] else .tup [.int a, .int b]) x := by
  obtain ⟨e, n, k, r, rfl, _⟩ := hx
  by_cases h : c < a ∨ (c = a ∧ d < b)
  · rw [if_pos h]
    show (decide _ && decide _) = decide _
    rw [Bool.eq_iff_iff, Bool.and_eq_true, decide_eq_true_iff, decide_eq_true_iff]
    omega
  · rw [if_neg h]
    show (decide _ && decide _) = decide _
    rw [Bool.eq_iff_iff, Bool.and_eq_true, decide_eq_true_iff, decide_eq_true_iff]
    omega
theorem law_true : ∀ ns : List Int, ns.length ≤ 63 → (∀ z ∈ ns, Builtin.Int.intBits z ≤ 1048576) → ∃ e', fb_law ((List.replicate 16 none).set 1 (some (.ow false (feed0 ns)))) = .rt (.sh (.bl true)) e' := by
  intro ns hns _
  refine law_end ?_
  have F0 := feed0_ok hns
  show Ss _ (fb_law [none, some (.ow false (feed0 ns)), none, none, none, none, none, none, none, none, none, none, none, none, none, none])
  generalize feed0 ns = fd at F0
  unfold fb_law
  walk_at "ss"
  refine words_s F0 (by omega) fun ws fd1 W F1 => ?_
  walk_at "ss"
  refine draw_s F1 (by omega) (by omega) (by omega) fun d0 fd2 d00 d01 F2 => ?_
  walk_at "ss"
  obtain ⟨m, em, m0, m12⟩ : ∃ m : Int, atI [PV.int 6, .int 4, .int 10, .int 1, .int 2, .int 0, .int 8, .int 9] d0 = some (.int m) ∧ 0 ≤ m ∧ m ≤ 10 := by
    obtain ⟨p, e, hp⟩ := atI_in (xs := [PV.int 6, .int 4, .int 10, .int 1, .int 2, .int 0, .int 8, .int 9]) d00 (by simpa using d01)
    simp only [List.mem_cons, List.not_mem_nil, or_false] at hp
    rcases hp with rfl | rfl | rfl | rfl | rfl | rfl | rfl | rfl
    all_goals exact ⟨_, e, by omega, by omega⟩
  refine kIxL_s em ?_
  refine kRg1_s (by omega) ?_
  refine kLc_i (fun i acc e => ∃ fd' : List PV, e = [none, some (.ow false fd'), some (.sh (.bx .lst (ws.map PV.str))), none, none, none, none, none, none, none, none, none, none, none, none, none] ∧ FeedOk (25 + 130 * i) fd' ∧ acc.length = i ∧ ∀ p ∈ acc, PgS p) (by simp; omega)
    ⟨fd2, rfl, F2, rfl, nofun⟩ (by rintro i acc e ⟨_, _, _, hl, _⟩; omega) ?_ ?_
  · rintro i x acc e T N hx ⟨fd3, rfl, F3, hl, hp⟩ hT -
    have hi : i < 10 := by
      have := (List.getElem?_eq_some_iff.mp hx).1
      simp at this; omega
    refine ⟨_, rfl, ?_⟩
    walk_at "ss"
    refine page_s F3 (by omega) W fun v fd4 hv F4 => ?_
    walk_at "ss"
    exact hT _ _ ⟨fd4, rfl, F4.up (by omega), by simp [hl], fun q hq => (List.mem_append.mp hq).elim (hp q) fun h => by rw [List.mem_singleton] at h; subst h; exact hv⟩
  intro ps e he
  obtain ⟨fd3, he, F3, hl, hps⟩ := he
  subst he
  have hl12 : ps.length ≤ 10 := by simp at hl; omega
  replace F3 := F3.up (d := 2000) (by simp; omega)
  have hp : ∀ p ∈ ps, Pg p := fun p h => (hps p h).pg
  walk_at "ss"
  refine kRg1_s (by omega) ?_
  refine kLc_i (fun i acc e => ∃ fd' : List PV, e = [none, some (.ow false fd'), some (.sh (.bx .lst (ws.map PV.str))), some (.sh (.bx .lst ps)), none, none, none, none, none, none, none, none, none, none, none, none] ∧ FeedOk (2000 + 10 * i) fd' ∧ acc.length = i ∧ ∀ q ∈ acc, ∃ b : List PV, q = .tup b ∧ Rises ahd b ∧ (∀ x ∈ b, x ∈ ps) ∧ b.length ≤ 10) (by simp)
    ⟨fd3, rfl, F3, rfl, nofun⟩ (by rintro i acc e ⟨_, _, _, hl, _⟩; omega) ?_ ?_
  · rintro i x acc e T N hx ⟨fd4, rfl, F4, hl, hq⟩ hT -
    have hi : i < 3 := by
      have := (List.getElem?_eq_some_iff.mp hx).1
      simpa using this
    refine ⟨[none, some (.ow false fd4), some (.sh (.bx .lst (ws.map PV.str))), some (.sh (.bx .lst ps)), none, none, none, none, none, none, none, none, none, none, some (.sh x), none], rfl, ?_⟩
    walk_at "ss"
    refine kLc_i (xs := ps) (fun j acc e => ∃ fd' : List PV, e = [none, some (.ow false fd'), some (.sh (.bx .lst (ws.map PV.str))), some (.sh (.bx .lst ps)), none, none, none, none, none, none, none, none, none, none, some (.sh x), none] ∧ FeedOk (2000 + 10 * i + j) fd' ∧ acc.length ≤ j ∧ ∀ q ∈ acc, q ∈ ps) (by omega)
      ⟨fd4, rfl, F4, by simp, nofun⟩ (by rintro i acc e ⟨_, _, _, hl, _⟩; exact hl) ?_ ?_
    · rintro j y acc' e T' N' hy ⟨fd5, rfl, F5, hl', hq'⟩ hT' hN'
      have hj := (List.getElem?_eq_some_iff.mp hy).1
      refine ⟨_, rfl, ?_⟩
      walk_at "ss"
      refine draw_s F5 (by omega) (by omega) (by omega) fun r fd6 r0 r1 F6 => ?_
      walk_at "ss"
      refine ite_i (fun _ => ?_) fun _ => ?_
      · walk_at "ss"
        exact hT' _ _ ⟨fd6, rfl, F6, by simp; omega, fun q hq => (List.mem_append.mp hq).elim (hq' q) fun h => by rw [List.mem_singleton] at h; subst h; exact List.mem_of_getElem? hy⟩
      · exact hN' _ ⟨fd6, rfl, F6, by omega, hq'⟩
    intro acc' e he
    obtain ⟨fd5, he, F5, hl', hq'⟩ := he
    subst he
    walk_at "ss"
    refine in_order_s (ps := acc') rfl (by omega) (fun x hx => hp x (hq' x hx)) fun b hb hbl => ?_
    walk_at "ss"
    exact hT _ _ ⟨fd5, rfl, F5.up (by omega), by simp [hl], fun q h => (List.mem_append.mp h).elim (hq q) fun h => by rw [List.mem_singleton] at h; subst h; exact ⟨b, rfl, hb.1, fun x hx => hq' x ((hb.2 x).mp hx), by omega⟩⟩
  intro acc e he
  obtain ⟨fd4, he, F4, hl3, hq⟩ := he
  subst he
  replace F4 := F4.up (d := 2100) (by simp)
  obtain ⟨x, y, z, rfl⟩ : ∃ x y z, acc = [x, y, z] := by
    match acc, hl3 with
    | [x, y, z], _ => exact ⟨x, y, z, rfl⟩
  obtain ⟨a, rfl, ra, ma, la⟩ := hq x (by simp)
  obtain ⟨b, rfl, rb, mb, lb⟩ := hq y (by simp)
  obtain ⟨c, rfl, rc, mc, lc⟩ := hq z (by simp)
  have pa : ∀ x ∈ a, Pg x := fun x h => hp x (ma x h)
  have pb : ∀ x ∈ b, Pg x := fun x h => hp x (mb x h)
  have pc : ∀ x ∈ c, Pg x := fun x h => hp x (mc x h)
  clear hq
  walk_at "ss"
  refine joined_s pa pb (by omega) fun ab hab lab => ?_
  have pab : ∀ x ∈ ab, Pg x := fun x h => (List.mem_append.mp ((hab.2 x).mp h)).elim (pa x) (pb x)
  walk_at "ss"
  refine joined_s pab pc (by omega) fun w hw lw => ?_
  have mw : ∀ x, x ∈ w ↔ x ∈ a ∨ x ∈ b ∨ x ∈ c := fun x => by rw [hw.2 x, List.mem_append, hab.2 x, List.mem_append, or_assoc]
  have pw : ∀ x ∈ w, Pg x := fun x h => ((mw x).mp h).elim (pa x) fun h => h.elim (pb x) (pc x)
  have rw' : Rises ahd w := hw.1
  have again : ∀ {ds : List PV}, (∀ x, x ∈ ds ↔ x ∈ a ∨ x ∈ b ∨ x ∈ c) → ∀ {cs : List PV}, IsBook ds cs → w = cs := fun h _ hc => (IsBook.eq pw (hc.cong fun x => (h x).trans (mw x).symm) ⟨rw', fun _ => Iff.rfl⟩).symm
  have self : ∀ {x : PV}, eqP x x = true := eqP_iff.mpr rfl
  have plT : ∀ {v : List PV}, (∀ x ∈ v, Pg x) → pl (.tup v) = true ∧ dpt (.tup v) ≤ 64 := fun h => by
    obtain ⟨g1, g2⟩ := pgs_pl h
    exact ⟨by rw [pl]; exact g1, by rw [dpt]; omega⟩
  replace lw : w.length ≤ 40 := by omega
  clear hw hab lab pab
  walk_at "ss"
  refine joined_s pb pc (by omega) fun o1 h1 l1 => ?_
  have p1 : ∀ x ∈ o1, Pg x := fun x h => (List.mem_append.mp ((h1.2 x).mp h)).elim (pb x) (pc x)
  walk_at "ss"
  refine joined_s pa p1 (by omega) fun o2 h2 _ => ?_
  obtain rfl := again (fun x => by rw [List.mem_append, h1.2 x, List.mem_append]) h2
  walk_at "ss"
  refine joined_s pc pa (by omega) fun o3 h3 l3 => ?_
  have p3 : ∀ x ∈ o3, Pg x := fun x h => (List.mem_append.mp ((h3.2 x).mp h)).elim (pc x) (pa x)
  walk_at "ss"
  refine joined_s p3 pb (by omega) fun o4 h4 _ => ?_
  obtain rfl := again (fun x => by
    rw [List.mem_append, h3.2 x, List.mem_append]
    constructor
    · rintro ((h | h) | h)
      · exact .inr (.inr h)
      · exact .inl h
      · exact .inr (.inl h)
    · rintro (h | h | h)
      · exact .inl (.inr h)
      · exact .inr h
      · exact .inl (.inl h)) h4
  walk_at "ss"
  refine joined_s pb pb (by omega) fun o5 h5 l5 => ?_
  have p5 : ∀ x ∈ o5, Pg x := fun x h => (List.mem_append.mp ((h5.2 x).mp h)).elim (pb x) (pb x)
  walk_at "ss"
  refine joined_s pc pa (by omega) fun o6 h6 l6 => ?_
  have p6 : ∀ x ∈ o6, Pg x := fun x h => (List.mem_append.mp ((h6.2 x).mp h)).elim (pc x) (pa x)
  walk_at "ss"
  refine joined_s p5 p6 (by omega) fun o7 h7 _ => ?_
  obtain rfl := again (fun x => by
    rw [List.mem_append, h5.2 x, h6.2 x, List.mem_append, List.mem_append]
    constructor
    · rintro ((h | h) | (h | h))
      · exact .inr (.inl h)
      · exact .inr (.inl h)
      · exact .inr (.inr h)
      · exact .inl h
    · rintro (h | h | h)
      · exact .inr (.inr h)
      · exact .inl (.inl h)
      · exact .inr (.inl h)) h7
  have plw := plT pw
  walk_at "ss"
  refine kFor_i (xs := [.tup w, .tup w, .tup w]) (fun i e => ∃ z8 : Option SV, e = [none, some (.ow false fd4), some (.sh (.bx .lst (ws.map PV.str))), some (.sh (.bx .lst ps)), some (.sh (.tup a)), some (.sh (.tup b)), some (.sh (.tup c)), some (.sh (.tup w)), z8, none, none, none, none, none, none, none] ∧ free e 8 = true)
    ⟨_, rfl, rfl⟩ ?_ ?_
  · rintro i x e N hx ⟨z8, rfl, f8⟩ hN
    have ex : x = .tup w := by
      have := List.mem_of_getElem? hx
      simpa using this
    subst ex
    refine ⟨[none, some (.ow false fd4), some (.sh (.bx .lst (ws.map PV.str))), some (.sh (.bx .lst ps)), some (.sh (.tup a)), some (.sh (.tup b)), some (.sh (.tup c)), some (.sh (.tup w)), some (.sh (.tup w)), none, none, none, none, none, none, none], by unfold setT; dsimp only; rw [if_pos f8]; rfl, ?_⟩
    walk_at "ss"
    refine gNe_pl plw.1 plw.1 plw.2 plw.2 ?_
    rw [self]
    walk_at "ss"
    exact hN _ ⟨_, rfl, rfl⟩
  intro e he
  obtain ⟨z8, he, f8⟩ := he
  subst he
  walk_at "ss"
  refine is_book_s (by omega) pw rw' ?_
  walk_at "sl"
  refine joined_s pw pa (by omega) fun o8 h8 _ => ?_
  obtain rfl := again (fun x => by rw [List.mem_append, mw x]; exact ⟨fun h => h.elim id .inl, .inl⟩) h8
  walk_at "ss"
  refine gNe_pl plw.1 plw.1 plw.2 plw.2 ?_
  rw [self]
  walk_at "ss"
  refine joined_s (b := []) nofun pw (by simp; omega) fun o9 h9 _ => ?_
  obtain rfl := again (fun x => by rw [List.nil_append, mw x]) h9
  walk_at "ss"
  refine gNe_pl plw.1 plw.1 plw.2 plw.2 ?_
  rw [self]
  walk_at "ss"
  rw [show pcut w none (some 5) = w.take 5 from pcut_to _ 5]
  refine kLc_p momP (by rw [List.length_take]; omega) ?_ ?_
  · intro x T F hx hT hF
    obtain ⟨d, n, k, r, rfl, _⟩ := pw x (List.mem_of_mem_take hx)
    refine ⟨_, rfl, ?_⟩
    walk_at "ss"
    rw [show pcut (PV.int d :: .int n :: .str k :: r) none (some 2) = [.int d, .int n] from pcut_to _ 2]
    exact hT _ _ rfl rfl
  walk_at "ss"
  refine draw_s F4 (by omega) (by omega) (by omega) fun x1 fd5 _ _ F5 => ?_
  walk_at "ss"
  refine draw_s F5 (by omega) (by omega) (by omega) fun x2 fd6 _ _ F6 => ?_
  walk_at "ss"
  have lm : ((w.take 5).filterMap momP).length ≤ 5 := Nat.le_trans (List.length_filterMap_le _ _) (by rw [List.length_take]; omega)
  refine kCat_s (line6 (by simp; omega)) ?_
  have hM : ∀ m ∈ (w.take 5).filterMap momP ++ [PV.tup [.int x1, .int x2], .non], IsM m := fun m hm => by
    rcases List.mem_append.mp hm with h | h
    · obtain ⟨x, hx, e⟩ := List.mem_filterMap.mp h
      obtain ⟨d, n, k, r, rfl, _⟩ := pw x (List.mem_of_mem_take hx)
      cases e
      exact .inr ⟨d, n, rfl⟩
    · simp only [List.mem_cons, List.not_mem_nil, or_false] at h
      rcases h with rfl | rfl
      · exact .inr ⟨_, _, rfl⟩
      · exact .inl rfl
  have lM : ((w.take 5).filterMap momP ++ [PV.tup [.int x1, .int x2], .non]).length ≤ 7 := by simp; omega
  generalize (w.take 5).filterMap momP ++ [PV.tup [.int x1, .int x2], .non] = ms at hM lM ⊢
  walk_at "ss"
  have pf : ∀ (v : List PV) (m : PV), (∀ x ∈ v, Pg x) → ∀ x ∈ v.filter (byP m), Pg x := fun v m h x hx => h x (List.mem_filter.mp hx).1
  have lf : ∀ (v : List PV) (m : PV), (v.filter (byP m)).length ≤ v.length := fun v m => List.length_filter_le _ _
  have wf : ∀ (m : PV) {ds : List PV}, (∀ x, x ∈ ds ↔ (x ∈ a ∨ x ∈ b ∨ x ∈ c) ∧ byP m x = true) → ∀ {cs : List PV}, IsBook ds cs → w.filter (byP m) = cs := fun m ds h cs hc => by
    refine (IsBook.eq (pf w m pw) (hc.cong fun x => ?_) ⟨List.Pairwise.sublist List.filter_sublist rw', fun _ => Iff.rfl⟩).symm
    rw [h x, List.mem_filter, mw x]
  refine kFor_i (xs := ms) (fun i e => ∃ z10 z11 z12 : Option SV, e = [none, some (.ow false fd6), some (.sh (.bx .lst (ws.map PV.str))), some (.sh (.bx .lst ps)), some (.sh (.tup a)), some (.sh (.tup b)), some (.sh (.tup c)), some (.sh (.tup w)), z8, some (.sh (.bx .lst ms)), z10, z11, z12, none, none, none] ∧ free e 10 = true ∧ free e 11 = true ∧ free e 12 = true)
    ⟨_, _, _, rfl, rfl, rfl, rfl⟩ ?_ ?_
  · rintro i u e N hx ⟨z10, z11, z12, rfl, f10, f11, f12⟩ hN
    have hu := hM u (List.mem_of_getElem? hx)
    refine ⟨[none, some (.ow false fd6), some (.sh (.bx .lst (ws.map PV.str))), some (.sh (.bx .lst ps)), some (.sh (.tup a)), some (.sh (.tup b)), some (.sh (.tup c)), some (.sh (.tup w)), z8, some (.sh (.bx .lst ms)), some (.sh u), z11, z12, none, none, none], by unfold setT; dsimp only; rw [if_pos f10]; rfl, ?_⟩
    walk_at "ss"
    refine up_to_m hu (by omega) pw ?_
    walk_at "ss"
    refine up_to_m hu (by omega) pa ?_
    walk_at "ss"
    refine up_to_m hu (by omega) pb ?_
    walk_at "ss"
    have la' := lf a u
    have lb' := lf b u
    have lc' := lf c u
    refine joined_s (pf a u pa) (pf b u pb) (by omega) fun q1 k1 m1 => ?_
    have pq1 : ∀ x ∈ q1, Pg x := fun x h => (List.mem_append.mp ((k1.2 x).mp h)).elim (pf a u pa x) (pf b u pb x)
    walk_at "ss"
    refine up_to_m hu (by omega) pc ?_
    walk_at "ss"
    refine joined_s pq1 (pf c u pc) (by omega) fun q2 k2 _ => ?_
    have e2 := wf u (fun x => by
      rw [List.mem_append, k1.2 x, List.mem_append, List.mem_filter, List.mem_filter, List.mem_filter]
      constructor
      · rintro ((h | h) | h)
        · exact ⟨.inl h.1, h.2⟩
        · exact ⟨.inr (.inl h.1), h.2⟩
        · exact ⟨.inr (.inr h.1), h.2⟩
      · rintro ⟨h | h | h, g⟩
        · exact .inl (.inl ⟨h, g⟩)
        · exact .inl (.inr ⟨h, g⟩)
        · exact .inr ⟨h, g⟩) k2
    subst e2
    have plf := plT (pf w u pw)
    walk_at "ss"
    refine gNe_pl plf.1 plf.1 plf.2 plf.2 ?_
    rw [self]
    walk_at "ss"
    refine kFor_i (xs := ms) (fun i e => ∃ z11 z12 : Option SV, e = [none, some (.ow false fd6), some (.sh (.bx .lst (ws.map PV.str))), some (.sh (.bx .lst ps)), some (.sh (.tup a)), some (.sh (.tup b)), some (.sh (.tup c)), some (.sh (.tup w)), z8, some (.sh (.bx .lst ms)), some (.sh u), z11, z12, none, none, none] ∧ free e 11 = true ∧ free e 12 = true)
      ⟨_, _, rfl, f11, f12⟩ ?_ ?_
    · rintro i l e N' hx ⟨z11, z12, rfl, f11, f12⟩ hN'
      have hl' := hM l (List.mem_of_getElem? hx)
      have rest : ∀ v : PV, IsM v → (w.filter (byP u)).filter (byP l) = w.filter (byP v) → ∀ (K : FK), (∀ e', (∃ z11 z12 : Option SV, e' = [none, some (.ow false fd6), some (.sh (.bx .lst (ws.map PV.str))), some (.sh (.bx .lst ps)), some (.sh (.tup a)), some (.sh (.tup b)), some (.sh (.tup c)), some (.sh (.tup w)), z8, some (.sh (.bx .lst ms)), some (.sh u), z11, z12, none, none, none] ∧ free e' 11 = true ∧ free e' 12 = true) → K.nx e') →
          Ss K (sIf (fTest (fOp (gEqN true) (fSh (fCall 2 f_up_to (fCons (fSh (fCall 2 f_up_to (fCons (fVar 7) (fCons (fVar 10) fNil)) [])) (fCons (fVar 11) fNil)) [])) (fSh (fCall 2 f_up_to (fCons (fVar 7) (fCons (fVar 12) fNil)) [])))) (sRet (fC (.bl false))) sNext [none, some (.ow false fd6), some (.sh (.bx .lst (ws.map PV.str))), some (.sh (.bx .lst ps)), some (.sh (.tup a)), some (.sh (.tup b)), some (.sh (.tup c)), some (.sh (.tup w)), z8, some (.sh (.bx .lst ms)), some (.sh u), some (.sh l), some (.sh v), none, none, none]) := by
        intro v hv ev K hK
        walk_at "ss"
        refine up_to_m hu (by omega) pw ?_
        walk_at "ss"
        refine up_to_m hl' (by have := lf w u; omega) (pf w u pw) ?_
        walk_at "ss"
        refine up_to_m hv (by omega) pw ?_
        rw [ev]
        have plv := plT (pf w v pw)
        walk_at "ss"
        refine gNe_pl plv.1 plv.1 plv.2 plv.2 ?_
        rw [self]
        walk_at "ss"
        exact hK _ ⟨_, _, rfl, rfl, rfl⟩
      refine ⟨[none, some (.ow false fd6), some (.sh (.bx .lst (ws.map PV.str))), some (.sh (.bx .lst ps)), some (.sh (.tup a)), some (.sh (.tup b)), some (.sh (.tup c)), some (.sh (.tup w)), z8, some (.sh (.bx .lst ms)), some (.sh u), some (.sh l), z12, none, none, none], by unfold setT; dsimp only; rw [if_pos f11]; rfl, ?_⟩
      have nof : ∀ v : List PV, v.filter (byP .non) = v := fun v => List.filter_eq_self.mpr fun _ _ => rfl
      rcases hu with rfl | ⟨d, n, rfl⟩
      · walk_at "sl"
        refine kSet_s (by exact f12) ?_
        exact rest l hl' (by rw [nof]) _ fun e' h => hN' e' h
      · rcases hl' with rfl | ⟨d', n', rfl⟩
        · walk_at "sl"
          refine kSet_s (by exact f12) ?_
          exact rest _ (.inr ⟨d, n, rfl⟩) (by rw [nof]) _ fun e' h => hN' e' h
        · walk_at "sl"
          refine gMin_pair ?_
          refine kSet_s (by exact f12) ?_
          refine rest _ (by split; exact .inr ⟨_, _, rfl⟩; exact .inr ⟨_, _, rfl⟩) ?_ _ fun e' h => hN' e' h
          rw [List.filter_filter]
          exact List.filter_congr fun x hx => by_min (pw x hx)
    rintro e' ⟨z11, z12, rfl, f11, f12⟩
    exact hN _ ⟨_, _, _, rfl, rfl, f11, f12⟩
  intro e he
  obtain ⟨z10, z11, z12, he, -⟩ := he
  subst he
  walk_at "ss"
  rfl
end

end PL
set_option autoImplicit false
namespace PL
open PySem PySem.Spec L2
open PyProof.Rows hiding St
def topS (i : Nat) : Stmt := PySem.Challenge.pw_cancelleaves_k13_whole_joined_thrice.main.body.getD i (.Pass ⟨0, 0, 0, 0⟩)
abbrev st_is_number : Stmt := topS 3
abbrev N_is_number : List Str := ["thing"]
theorem sc_is_number : FnScope N_is_number ["thing"] (defScope st_is_number) := ⟨rfl, rfl, rfl, by decide +kernel, rfl, by decide +kernel, by decide +kernel⟩
abbrev st_is_word : Stmt := topS 4
abbrev N_is_word : List Str := ["thing", "sign"]
theorem sc_is_word : FnScope N_is_word ["thing"] (defScope st_is_word) := ⟨rfl, rfl, rfl, by decide +kernel, rfl, by decide +kernel, by decide +kernel⟩
abbrev st_rises : Stmt := topS 5
abbrev N_rises : List Str := ["some", "one", "other"]
theorem sc_rises : FnScope N_rises ["some"] (defScope st_rises) := ⟨rfl, rfl, rfl, by decide +kernel, rfl, by decide +kernel, by decide +kernel⟩
abbrev st_are_words : Stmt := topS 6
abbrev N_are_words : List Str := ["thing", "one"]
theorem sc_are_words : FnScope N_are_words ["thing"] (defScope st_are_words) := ⟨rfl, rfl, rfl, by decide +kernel, rfl, by decide +kernel, by decide +kernel⟩
abbrev st_is_moment : Stmt := topS 11
abbrev N_is_moment : List Str := ["thing"]
theorem sc_is_moment : FnScope N_is_moment ["thing"] (defScope st_is_moment) := ⟨rfl, rfl, rfl, by decide +kernel, rfl, by decide +kernel, by decide +kernel⟩
abbrev st_is_many : Stmt := topS 12
abbrev N_is_many : List Str := ["thing"]
theorem sc_is_many : FnScope N_is_many ["thing"] (defScope st_is_many) := ⟨rfl, rfl, rfl, by decide +kernel, rfl, by decide +kernel, by decide +kernel⟩
abbrev st_is_cut : Stmt := topS 13
abbrev N_is_cut : List Str := ["thing"]
theorem sc_is_cut : FnScope N_is_cut ["thing"] (defScope st_is_cut) := ⟨rfl, rfl, rfl, by decide +kernel, rfl, by decide +kernel, by decide +kernel⟩
abbrev st_are_looks : Stmt := topS 14
abbrev N_are_looks : List Str := ["thing", "look", "part"]
theorem sc_are_looks : FnScope N_are_looks ["thing"] (defScope st_are_looks) := ⟨rfl, rfl, rfl, by decide +kernel, rfl, by decide +kernel, by decide +kernel⟩
abbrev st_are_names : Stmt := topS 15
abbrev N_are_names : List Str := ["thing", "one"]
theorem sc_are_names : FnScope N_are_names ["thing"] (defScope st_are_names) := ⟨rfl, rfl, rfl, by decide +kernel, rfl, by decide +kernel, by decide +kernel⟩
abbrev st_is_told : Stmt := topS 16
abbrev N_is_told : List Str := ["kind", "rest"]
theorem sc_is_told : FnScope N_is_told ["kind", "rest"] (defScope st_is_told) := ⟨rfl, rfl, rfl, by decide +kernel, rfl, by decide +kernel, by decide +kernel⟩
abbrev st_is_page : Stmt := topS 17
abbrev N_is_page : List Str := ["thing"]
theorem sc_is_page : FnScope N_is_page ["thing"] (defScope st_is_page) := ⟨rfl, rfl, rfl, by decide +kernel, rfl, by decide +kernel, by decide +kernel⟩
abbrev st_page_moment : Stmt := topS 18
abbrev N_page_moment : List Str := ["page"]
theorem sc_page_moment : FnScope N_page_moment ["page"] (defScope st_page_moment) := ⟨rfl, rfl, rfl, by decide +kernel, rfl, by decide +kernel, by decide +kernel⟩
abbrev st_standing : Stmt := topS 19
abbrev N_standing : List Str := ["page"]
theorem sc_standing : FnScope N_standing ["page"] (defScope st_standing) := ⟨rfl, rfl, rfl, by decide +kernel, rfl, by decide +kernel, by decide +kernel⟩
abbrev st_stands_ahead : Stmt := topS 20
abbrev N_stands_ahead : List Str := ["one", "other"]
theorem sc_stands_ahead : FnScope N_stands_ahead ["one", "other"] (defScope st_stands_ahead) := ⟨rfl, rfl, rfl, by decide +kernel, rfl, by decide +kernel, by decide +kernel⟩
abbrev st_is_book : Stmt := topS 22
abbrev N_is_book : List Str := ["thing", "one", "other"]
theorem sc_is_book : FnScope N_is_book ["thing"] (defScope st_is_book) := ⟨rfl, rfl, rfl, by decide +kernel, rfl, by decide +kernel, by decide +kernel⟩
abbrev st_in_order : Stmt := topS 23
abbrev N_in_order : List Str := ["pages", "found", "page"]
theorem sc_in_order : FnScope N_in_order ["pages"] (defScope st_in_order) := ⟨rfl, rfl, rfl, by decide +kernel, rfl, by decide +kernel, by decide +kernel⟩
abbrev st_joined : Stmt := topS 24
abbrev N_joined : List Str := ["one", "other"]
theorem sc_joined : FnScope N_joined ["one", "other"] (defScope st_joined) := ⟨rfl, rfl, rfl, by decide +kernel, rfl, by decide +kernel, by decide +kernel⟩
abbrev st_up_to : Stmt := topS 25
abbrev N_up_to : List Str := ["book", "until", "page"]
theorem sc_up_to : FnScope N_up_to ["book", "until"] (defScope st_up_to) := ⟨rfl, rfl, rfl, by decide +kernel, rfl, by decide +kernel, by decide +kernel⟩
abbrev st__law_feed : Stmt := topS 27
abbrev N__law_feed : List Str := ["script"]
theorem sc__law_feed : FnScope N__law_feed ["script"] (defScope st__law_feed) := ⟨rfl, rfl, rfl, by decide +kernel, rfl, by decide +kernel, by decide +kernel⟩
abbrev st__law_draw : Stmt := topS 28
abbrev N__law_draw : List Str := ["feed", "many", "found", "cell", "mixed"]
theorem sc__law_draw : FnScope N__law_draw ["feed", "many"] (defScope st__law_draw) := ⟨rfl, rfl, rfl, by decide +kernel, rfl, by decide +kernel, by decide +kernel⟩
abbrev st__law_names : Stmt := topS 29
abbrev N__law_names : List Str := ["feed", "many", "letters", "k", "shapes", "pool", "head", "one"]
theorem sc__law_names : FnScope N__law_names ["feed", "many"] (defScope st__law_names) := ⟨rfl, rfl, rfl, by decide +kernel, rfl, by decide +kernel, by decide +kernel⟩
abbrev st__law_words : Stmt := topS 30
abbrev N__law_words : List Str := ["feed"]
theorem sc__law_words : FnScope N__law_words ["feed"] (defScope st__law_words) := ⟨rfl, rfl, rfl, by decide +kernel, rfl, by decide +kernel, by decide +kernel⟩
abbrev st__law_some : Stmt := topS 31
abbrev N__law_some : List Str := ["feed", "words", "most", "word"]
theorem sc__law_some : FnScope N__law_some ["feed", "words", "most"] (defScope st__law_some) := ⟨rfl, rfl, rfl, by decide +kernel, rfl, by decide +kernel, by decide +kernel⟩
abbrev st__law_seen : Stmt := topS 32
abbrev N__law_seen : List Str := ["feed", "words", "found", "k", "look", "j"]
theorem sc__law_seen : FnScope N__law_seen ["feed", "words"] (defScope st__law_seen) := ⟨rfl, rfl, rfl, by decide +kernel, rfl, by decide +kernel, by decide +kernel⟩
abbrev st__law_page : Stmt := topS 33
abbrev N__law_page : List Str := ["feed", "words", "day", "number", "kind", "one", "other", "many", "stock", "marked", "k"]
theorem sc__law_page : FnScope N__law_page ["feed", "words"] (defScope st__law_page) := ⟨rfl, rfl, rfl, by decide +kernel, rfl, by decide +kernel, by decide +kernel⟩
abbrev st_law : Stmt := topS 34
abbrev N_law : List Str := ["script", "feed", "words", "pages", "a", "b", "c", "whole", "other", "moments", "until", "late", "less", "k", "turn", "page"]
theorem sc_law : FnScope N_law ["script"] (defScope st_law) := ⟨rfl, rfl, rfl, by decide +kernel, rfl, by decide +kernel, by decide +kernel⟩
structure Facts (K : Fg) (mg : Str → Option Value) where
  a_is_number : Addr
  d_is_number : FuncData
  F_is_number : Fun K "is_number" "is_number" st_is_number a_is_number d_is_number
  g_is_number : mg "is_number" = some (.ref a_is_number)
  b_is_number : Binds K d_is_number ["thing"] []
  a_is_word : Addr
  d_is_word : FuncData
  F_is_word : Fun K "is_word" "is_word" st_is_word a_is_word d_is_word
  g_is_word : mg "is_word" = some (.ref a_is_word)
  b_is_word : Binds K d_is_word ["thing"] []
  a_rises : Addr
  d_rises : FuncData
  F_rises : Fun K "rises" "rises" st_rises a_rises d_rises
  g_rises : mg "rises" = some (.ref a_rises)
  b_rises : Binds K d_rises ["some"] []
  a_are_words : Addr
  d_are_words : FuncData
  F_are_words : Fun K "are_words" "are_words" st_are_words a_are_words d_are_words
  g_are_words : mg "are_words" = some (.ref a_are_words)
  b_are_words : Binds K d_are_words ["thing"] []
  a_is_moment : Addr
  d_is_moment : FuncData
  F_is_moment : Fun K "is_moment" "is_moment" st_is_moment a_is_moment d_is_moment
  g_is_moment : mg "is_moment" = some (.ref a_is_moment)
  b_is_moment : Binds K d_is_moment ["thing"] []
  a_is_many : Addr
  d_is_many : FuncData
  F_is_many : Fun K "is_many" "is_many" st_is_many a_is_many d_is_many
  g_is_many : mg "is_many" = some (.ref a_is_many)
  b_is_many : Binds K d_is_many ["thing"] []
  a_is_cut : Addr
  d_is_cut : FuncData
  F_is_cut : Fun K "is_cut" "is_cut" st_is_cut a_is_cut d_is_cut
  g_is_cut : mg "is_cut" = some (.ref a_is_cut)
  b_is_cut : Binds K d_is_cut ["thing"] []
  a_are_looks : Addr
  d_are_looks : FuncData
  F_are_looks : Fun K "are_looks" "are_looks" st_are_looks a_are_looks d_are_looks
  g_are_looks : mg "are_looks" = some (.ref a_are_looks)
  b_are_looks : Binds K d_are_looks ["thing"] []
  a_are_names : Addr
  d_are_names : FuncData
  F_are_names : Fun K "are_names" "are_names" st_are_names a_are_names d_are_names
  g_are_names : mg "are_names" = some (.ref a_are_names)
  b_are_names : Binds K d_are_names ["thing"] []
  a_is_told : Addr
  d_is_told : FuncData
  F_is_told : Fun K "is_told" "is_told" st_is_told a_is_told d_is_told
  g_is_told : mg "is_told" = some (.ref a_is_told)
  b_is_told : Binds K d_is_told ["kind", "rest"] []
  a_is_page : Addr
  d_is_page : FuncData
  F_is_page : Fun K "is_page" "is_page" st_is_page a_is_page d_is_page
  g_is_page : mg "is_page" = some (.ref a_is_page)
  b_is_page : Binds K d_is_page ["thing"] []
  a_page_moment : Addr
  d_page_moment : FuncData
  F_page_moment : Fun K "page_moment" "page_moment" st_page_moment a_page_moment d_page_moment
  g_page_moment : mg "page_moment" = some (.ref a_page_moment)
  b_page_moment : Binds K d_page_moment ["page"] []
  a_standing : Addr
  d_standing : FuncData
  F_standing : Fun K "standing" "standing" st_standing a_standing d_standing
  g_standing : mg "standing" = some (.ref a_standing)
  b_standing : Binds K d_standing ["page"] []
  a_stands_ahead : Addr
  d_stands_ahead : FuncData
  F_stands_ahead : Fun K "stands_ahead" "stands_ahead" st_stands_ahead a_stands_ahead d_stands_ahead
  g_stands_ahead : mg "stands_ahead" = some (.ref a_stands_ahead)
  b_stands_ahead : Binds K d_stands_ahead ["one", "other"] []
  a_is_book : Addr
  d_is_book : FuncData
  F_is_book : Fun K "is_book" "is_book" st_is_book a_is_book d_is_book
  g_is_book : mg "is_book" = some (.ref a_is_book)
  b_is_book : Binds K d_is_book ["thing"] []
  a_in_order : Addr
  d_in_order : FuncData
  F_in_order : Fun K "in_order" "in_order" st_in_order a_in_order d_in_order
  g_in_order : mg "in_order" = some (.ref a_in_order)
  b_in_order : Binds K d_in_order ["pages"] []
  a_joined : Addr
  d_joined : FuncData
  F_joined : Fun K "joined" "joined" st_joined a_joined d_joined
  g_joined : mg "joined" = some (.ref a_joined)
  b_joined : Binds K d_joined ["one", "other"] []
  a_up_to : Addr
  d_up_to : FuncData
  F_up_to : FunD K "up_to" "up_to" (defArgs st_up_to) (defBody st_up_to) (defScope st_up_to) [V.non] [] a_up_to d_up_to
  g_up_to : mg "up_to" = some (.ref a_up_to)
  b_up_to : Binds K d_up_to ["book", "until"] []
  a__law_feed : Addr
  d__law_feed : FuncData
  F__law_feed : Fun K "_law_feed" "_law_feed" st__law_feed a__law_feed d__law_feed
  g__law_feed : mg "_law_feed" = some (.ref a__law_feed)
  b__law_feed : Binds K d__law_feed ["script"] []
  a__law_draw : Addr
  d__law_draw : FuncData
  F__law_draw : Fun K "_law_draw" "_law_draw" st__law_draw a__law_draw d__law_draw
  g__law_draw : mg "_law_draw" = some (.ref a__law_draw)
  b__law_draw : Binds K d__law_draw ["feed", "many"] []
  a__law_names : Addr
  d__law_names : FuncData
  F__law_names : Fun K "_law_names" "_law_names" st__law_names a__law_names d__law_names
  g__law_names : mg "_law_names" = some (.ref a__law_names)
  b__law_names : Binds K d__law_names ["feed", "many"] []
  a__law_words : Addr
  d__law_words : FuncData
  F__law_words : Fun K "_law_words" "_law_words" st__law_words a__law_words d__law_words
  g__law_words : mg "_law_words" = some (.ref a__law_words)
  b__law_words : Binds K d__law_words ["feed"] []
  a__law_some : Addr
  d__law_some : FuncData
  F__law_some : Fun K "_law_some" "_law_some" st__law_some a__law_some d__law_some
  g__law_some : mg "_law_some" = some (.ref a__law_some)
  b__law_some : Binds K d__law_some ["feed", "words", "most"] []
  a__law_seen : Addr
  d__law_seen : FuncData
  F__law_seen : Fun K "_law_seen" "_law_seen" st__law_seen a__law_seen d__law_seen
  g__law_seen : mg "_law_seen" = some (.ref a__law_seen)
  b__law_seen : Binds K d__law_seen ["feed", "words"] []
  a__law_page : Addr
  d__law_page : FuncData
  F__law_page : Fun K "_law_page" "_law_page" st__law_page a__law_page d__law_page
  g__law_page : mg "_law_page" = some (.ref a__law_page)
  b__law_page : Binds K d__law_page ["feed", "words"] []
  a_law : Addr
  d_law : FuncData
  F_law : Fun K "law" "law" st_law a_law d_law
  g_law : mg "law" = some (.ref a_law)
  b_law : Binds K d_law ["script"] []
  u_KINDS : Value
  v_KINDS : V
  g_KINDS : mg "KINDS" = some u_KINDS
  r_KINDS : RelV v_KINDS u_KINDS
  kr_KINDS : ∀ H, Rep K H PL.k_KINDS v_KINDS
  u_LAST_DAY : Value
  v_LAST_DAY : V
  g_LAST_DAY : mg "LAST_DAY" = some u_LAST_DAY
  r_LAST_DAY : RelV v_LAST_DAY u_LAST_DAY
  kr_LAST_DAY : ∀ H, Rep K H PL.k_LAST_DAY v_LAST_DAY
  u_LAST_NUMBER : Value
  v_LAST_NUMBER : V
  g_LAST_NUMBER : mg "LAST_NUMBER" = some u_LAST_NUMBER
  r_LAST_NUMBER : RelV v_LAST_NUMBER u_LAST_NUMBER
  kr_LAST_NUMBER : ∀ H, Rep K H PL.k_LAST_NUMBER v_LAST_NUMBER
  u_LETTERS : Value
  v_LETTERS : V
  g_LETTERS : mg "LETTERS" = some u_LETTERS
  r_LETTERS : RelV v_LETTERS u_LETTERS
  kr_LETTERS : ∀ H, Rep K H PL.k_LETTERS v_LETTERS
  u_MOST_LETTERS : Value
  v_MOST_LETTERS : V
  g_MOST_LETTERS : mg "MOST_LETTERS" = some u_MOST_LETTERS
  r_MOST_LETTERS : RelV v_MOST_LETTERS u_MOST_LETTERS
  kr_MOST_LETTERS : ∀ H, Rep K H PL.k_MOST_LETTERS v_MOST_LETTERS
  x_KINDS : KIx K mg "KINDS" i_KINDS
  z_all : mg "all" = none
  z_bool : mg "bool" = none
  z_int : mg "int" = none
  z_isinstance : mg "isinstance" = none
  z_len : mg "len" = none
  z_list : mg "list" = none
  z_min : mg "min" = none
  z_range : mg "range" = none
  z_set : mg "set" = none
  z_sorted : mg "sorted" = none
  z_str : mg "str" = none
  z_tuple : mg "tuple" = none
  z_zip : mg "zip" = none
section
variable {P : Program} {w : World} {K : Fg} {mg : Str → Option Value} {base : Heap}
theorem fn_is_number {cm : Nat → Addr} (T : Facts K mg) : FnG P w K mg base 1 T.a_is_number T.d_is_number ["thing"] (pV cm 1 f_is_number) := by
  refine fnG_ok (k := 0) (wb := wS cm fb_is_number) T.F_is_number sc_is_number pV_mono (fun cdv A outer s H E hr hgd => ?_) (fun args M Q E hn h => spec_V (N := 1) hn h)
  exact (vb_one (vs_ret (ve_and (ve_of (ee_cb call_isi lift_isi mono_isi T.z_isinstance (by decide +kernel) (va_cons (ve_var 0) (va_cons (ve_blt (n := "int") (v := .ty "int") (u := .type "int") T.z_int (by decide +kernel) rfl (fun _ => by rw [Rep])) va_nil))) (v_cb cg_isi)) (ve_one (ve_not (ve_of (ee_cb call_isi lift_isi mono_isi T.z_isinstance (by decide +kernel) (va_cons (ve_var 0) (va_cons (ve_blt (n := "bool") (v := .ty "bool") (u := .type "bool") T.z_bool (by decide +kernel) rfl (fun _ => by rw [Rep])) va_nil))) (v_cb cg_isi)))))))
theorem fn_is_word {cm : Nat → Addr} (T : Facts K mg) : FnG P w K mg base 1 T.a_is_word T.d_is_word ["thing"] (pV cm 1 f_is_word) := by
  refine fnG_ok (k := 0) (wb := wS cm fb_is_word) T.F_is_word sc_is_word pV_mono (fun cdv A outer s H E hr hgd => ?_) (fun args M Q E hn h => spec_V (N := 2) hn h)
  exact (vb_cons (vs_if (vt_w (vw_or (vt_not (vt_tru (ve_of (ee_cb call_isi lift_isi mono_isi T.z_isinstance (by decide +kernel) (va_cons (ve_var 0) (va_cons (ve_blt (n := "str") (v := .ty "str") (u := .type "str") T.z_str (by decide +kernel) rfl (fun _ => by rw [Rep])) va_nil))) (v_cb cg_isi)))) (vw_or1 (vt_not (vt_chain opg_le (op_leX (hu64 hr)) lift_leX mono_leX opg_le (op_leX (hu64 hr)) lift_leX mono_leX ve_int (ve_of (ee_cb call_len' lift_len mono_len T.z_len (by decide +kernel) (va_cons (ve_var 0) va_nil)) (v_cb cg_len)) (ve_glob T.g_MOST_LETTERS T.r_MOST_LETTERS T.kr_MOST_LETTERS (fun _ _ => repF_self kp_MOST_LETTERS))))))) (vb_one (vs_ret ve_bl)) vb_nil)
  (vb_one (vs_ret (ve_of (ee_cbl (cr_all rfl) lift_allL mono_allL T.z_all (by decide +kernel) (vl_lc (own := [("sign", 1)]) rfl sc_is_word.nd (vi_any (ve_var 0)) (blkOk_by (N := N_is_word) (sc := defScope st_is_word) (by decide +kernel)) (fun _ _ _ _ _ => ec_one 1 sc_is_word.nd) (fun _ _ _ _ _ => vts_nil) (fun _ _ _ _ _ => (ve_cmp opg_in (op_in' (hu65 hr)) lift_in mono_in (ve_var 1) (ve_glob T.g_LETTERS T.r_LETTERS T.kr_LETTERS (fun _ _ => repF_self kp_LETTERS)) rfl)))) (v_lcb lg_all)))))
theorem fn_rises {cm : Nat → Addr} (T : Facts K mg) : FnG P w K mg base 1 T.a_rises T.d_rises ["some"] (pV cm 1 f_rises) := by
  refine fnG_ok (k := 0) (wb := wS cm fb_rises) T.F_rises sc_rises pV_mono (fun cdv A outer s H E hr hgd => ?_) (fun args M Q E hn h => spec_V (N := 3) hn h)
  exact (vb_one (vs_ret (ve_of (ee_cbl (cr_all rfl) lift_allL mono_allL T.z_all (by decide +kernel) (vl_lc (own := [("one", 1), ("other", 2)]) rfl sc_rises.nd (vi_zip (ei_zip T.z_zip (ea_cons (ve_var 0) (ea_cons (ve_sl (ve_var 0) (vo_pt ve_int) vo_no) ea_nil)))) (blkOk_by (N := N_rises) (sc := defScope st_rises) (by decide +kernel)) (fun _ _ _ _ _ => ec_many rfl (ecs_cons 1 sc_rises.nd (ecs_cons 2 sc_rises.nd ecs_nil))) (fun _ _ _ _ _ => vts_nil) (fun _ _ _ _ _ => (ve_cmp opg_lt (op_ltX (hu64 hr)) lift_ltX mono_ltX (ve_var 1) (ve_var 2) (nomark _))))) (v_lcb lg_all))))
theorem fn_is_cut {cm : Nat → Addr} (T : Facts K mg) : FnG P w K mg base 1 T.a_is_cut T.d_is_cut ["thing"] (pV cm 1 f_is_cut) := by
  refine fnG_ok (k := 0) (wb := wS cm fb_is_cut) T.F_is_cut sc_is_cut pV_mono (fun cdv A outer s H E hr hgd => ?_) (fun args M Q E hn h => spec_V (N := 1) hn h)
  exact (vb_one (vs_ret (ve_and (ve_of (ee_cb call_isi lift_isi mono_isi T.z_isinstance (by decide +kernel) (va_cons (ve_var 0) (va_cons (ve_blt (n := "tuple") (v := .ty "tuple") (u := .type "tuple") T.z_tuple (by decide +kernel) rfl (fun _ => by rw [Rep])) va_nil))) (v_cb cg_isi)) (ve_one (ve_cmp opg_eq (op_eq' (hu64 hr)) lift_eq mono_eq (ve_var 0) (ve_tup (va_cons ve_str va_nil)) (nomark _))))))
theorem fn_page_moment {cm : Nat → Addr} (T : Facts K mg) : FnG P w K mg base 1 T.a_page_moment T.d_page_moment ["page"] (pV cm 1 f_page_moment) := by
  refine fnG_ok (k := 0) (wb := wS cm fb_page_moment) T.F_page_moment sc_page_moment pV_mono (fun cdv A outer s H E hr hgd => ?_) (fun args M Q E hn h => spec_V (N := 1) hn h)
  exact (vb_one (vs_ret (ve_sl (ve_var 0) vo_no (vo_pt ve_int))))
theorem fn_standing {cm : Nat → Addr} (T : Facts K mg) : FnG P w K mg base 1 T.a_standing T.d_standing ["page"] (pV cm 1 f_standing) := by
  refine fnG_ok (k := 0) (wb := wS cm fb_standing) T.F_standing sc_standing pV_mono (fun cdv A outer s H E hr hgd => ?_) (fun args M Q E hn h => spec_V (N := 1) hn h)
  exact (vb_one (vs_ret (ve_tup (va_cons (ve_ix (ve_var 0) ve_int) (va_cons (ve_ix (ve_var 0) ve_int) (va_cons (ve_of (ee_kidx T.x_KINDS (ve_ix (ve_var 0) ve_int)) v_kix) (va_cons (ve_sl (ve_var 0) (vo_pt ve_int) vo_no) va_nil)))))))
theorem fn__law_feed (T : Facts K mg) : FnG P w K mg base 1 T.a__law_feed T.d__law_feed ["script"] p_feed := by
  refine fnG_ok (k := 0) (wb := w_feed) T.F__law_feed sc__law_feed mono_feed (fun cdv A outer s H E hr hgd => ?_) spec_feed
  exact (eb_one (es_ret (ee_new (el_disp (ea_cons (ee_sl (ee_var 0) eo_none (eo_some ee_int)) (ea_cons ee_int (ea_cons ee_int (ea_cons ee_int ea_nil))))))))
theorem fn__law_draw {cm : Nat → Addr} (T : Facts K mg) : FnG P w K mg base 1 T.a__law_draw T.d__law_draw ["feed", "many"] (pV cm 2 f__law_draw) := by
  refine fnG_ok (k := 0) (wb := wS cm fb__law_draw) T.F__law_draw sc__law_draw pV_mono (fun cdv A outer s H E hr hgd => ?_) (fun args M Q E hn h => spec_V (N := 5) hn h)
  exact (vb_cons (vs_of (es_stL (ee_var 0) ve_int (ve_op opg_add op_add' lift_add mono_add (ve_ix (ve_var 0) ve_int) ve_int)) v_stL)
  (vb_cons (vs_if (vt_cmp opg_gt op_gt lift_gt mono_int (ve_ix (ve_var 0) ve_int) ve_int (nomark _)) (vb_cons (vs_set (i := 2) sc__law_draw.nd (ve_op opg_mod op_modN lift_mod mono_int (ve_ix (ve_var 0) ve_int) (ve_var 1)))
  (vb_cons (vs_of (es_stL (ee_var 0) ve_int (ve_op opg_fdiv op_fdivN lift_fdiv mono_int (ve_ix (ve_var 0) ve_int) (ve_var 1))) v_stL)
  (vb_one (vs_ret (ve_var 2))))) vb_nil)
  (vb_cons (vs_set (i := 3) sc__law_draw.nd ve_int)
  (vb_cons (vs_if (vt_neL (hu64 hr) (ve_ix (ve_var 0) ve_int) (vl_disp va_nil)) (vb_one (vs_set (i := 3) sc__law_draw.nd (ve_ix (ve_ix (ve_var 0) ve_int) (ve_op opg_mod op_modN lift_mod mono_int (ve_ix (ve_var 0) ve_int) (ve_of (ee_cb call_len' lift_len mono_len T.z_len (by decide +kernel) (va_cons (ve_ix (ve_var 0) ve_int) va_nil)) (v_cb cg_len)))))) vb_nil)
  (vb_cons (vs_of (es_stL (ee_var 0) ve_int (ve_op opg_add op_add' lift_add mono_add (ve_ix (ve_var 0) ve_int) ve_int)) v_stL)
  (vb_cons (vs_if (vt_w (vw_and (vt_cmp opg_ge op_ge lift_ge mono_int (ve_var 3) (ve_op opg_pow op_pow lift_pow mono_int ve_int ve_int) (nomark _)) (vw_and1 (vt_cmp opg_le (op_leX (hu64 hr)) lift_leX mono_leX (ve_ix (ve_var 0) ve_int) (ve_of (ee_cb call_len' lift_len mono_len T.z_len (by decide +kernel) (va_cons (ve_ix (ve_var 0) ve_int) va_nil)) (v_cb cg_len)) (nomark _))))) (vb_cons (vs_of (es_stL (ee_var 0) ve_int (ve_op opg_fdiv op_fdivN lift_fdiv mono_int (ve_var 3) (ve_var 1))) v_stL)
  (vb_one (vs_ret (ve_op opg_mod op_modN lift_mod mono_int (ve_var 3) (ve_var 1))))) vb_nil)
  (vb_cons (vs_set (i := 4) sc__law_draw.nd (ve_op opg_mod op_modN lift_mod mono_int (ve_op opg_pow op_pow lift_pow mono_int (ve_op opg_add op_add' lift_add mono_add (ve_op opg_add op_add' lift_add mono_add (ve_op opg_mod op_modN lift_mod mono_int (ve_var 3) ve_int) (ve_op opg_mul op_mul' lift_mul mono_mul ve_int (ve_ix (ve_var 0) ve_int))) ve_int) ve_int) ve_int))
  (vb_one (vs_ret (ve_op opg_mod op_modN lift_mod mono_int (ve_op opg_fdiv op_fdivN lift_fdiv mono_int (ve_op opg_mod op_modN lift_mod mono_int (ve_op opg_pow op_pow lift_pow mono_int (ve_op opg_add op_add' lift_add mono_add (ve_var 4) (ve_op opg_mul op_mul' lift_mul mono_mul ve_int (ve_ix (ve_var 0) ve_int))) ve_int) ve_int) ve_int) (ve_var 1)))))))))))
theorem fn_are_words {cm : Nat → Addr} (T : Facts K mg) : FnG P w K mg base 2 T.a_are_words T.d_are_words ["thing"] (pV cm 1 f_are_words) := by
  refine fnG_ok (k := 1) (wb := wS cm fb_are_words) T.F_are_words sc_are_words pV_mono (fun cdv A outer s H E hr hgd => ?_) (fun args M Q E hn h => spec_V (N := 2) hn h)
  exact (vb_one (vs_ret (ve_and (ve_of (ee_cb call_isi lift_isi mono_isi T.z_isinstance (by decide +kernel) (va_cons (ve_var 0) (va_cons (ve_blt (n := "tuple") (v := .ty "tuple") (u := .type "tuple") T.z_tuple (by decide +kernel) rfl (fun _ => by rw [Rep])) va_nil))) (v_cb cg_isi)) (ve_and (ve_of (ee_cbl (cr_all rfl) lift_allL mono_allL T.z_all (by decide +kernel) (vl_lc (own := [("one", 1)]) rfl sc_are_words.nd (vi_any (ve_var 0)) (blkOk_by (N := N_are_words) (sc := defScope st_are_words) (by decide +kernel)) (fun _ _ _ _ _ => ec_one 1 sc_are_words.nd) (fun _ _ _ _ _ => vts_nil) (fun _ _ _ _ _ => (ve_c_of (vc_of (ee_call (fn_is_word (cm := cm) T) pV_len (hr.mono (by decide)) hgd takes0 T.g_is_word T.F_is_word.kp T.b_is_word .nil (fun _ => .nil) (va_cons (ve_var 1) va_nil)) (v_call rfl)))))) (v_lcb lg_all)) (ve_one (ve_c_of (vc_of (ee_call (fn_rises (cm := cm) T) pV_len (hr.mono (by decide)) hgd (takes_of rfl rfl rfl rfl) T.g_rises T.F_rises.kp T.b_rises .nil (fun _ => .nil) (va_cons (ve_var 0) va_nil)) (v_call rfl))))))))
theorem fn_is_moment {cm : Nat → Addr} (T : Facts K mg) : FnG P w K mg base 2 T.a_is_moment T.d_is_moment ["thing"] (pV cm 1 f_is_moment) := by
  refine fnG_ok (k := 1) (wb := wS cm fb_is_moment) T.F_is_moment sc_is_moment pV_mono (fun cdv A outer s H E hr hgd => ?_) (fun args M Q E hn h => spec_V (N := 1) hn h)
  exact (vb_cons (vs_if (vt_w (vw_or (vt_not (vt_tru (ve_of (ee_cb call_isi lift_isi mono_isi T.z_isinstance (by decide +kernel) (va_cons (ve_var 0) (va_cons (ve_blt (n := "tuple") (v := .ty "tuple") (u := .type "tuple") T.z_tuple (by decide +kernel) rfl (fun _ => by rw [Rep])) va_nil))) (v_cb cg_isi)))) (vw_or (vt_cmp opg_ne (op_ne' (hu64 hr)) lift_ne mono_ne (ve_of (ee_cb call_len' lift_len mono_len T.z_len (by decide +kernel) (va_cons (ve_var 0) va_nil)) (v_cb cg_len)) ve_int (nomark _)) (vw_or (vt_not (vt_tru (ve_c_of (vc_of (ee_call (fn_is_number (cm := cm) T) pV_len (hr.mono (by decide)) hgd (takes_of rfl rfl rfl rfl) T.g_is_number T.F_is_number.kp T.b_is_number .nil (fun _ => .nil) (va_cons (ve_ix (ve_var 0) ve_int) va_nil)) (v_call rfl))))) (vw_or1 (vt_not (vt_tru (ve_c_of (vc_of (ee_call (fn_is_number (cm := cm) T) pV_len (hr.mono (by decide)) hgd (takes_of rfl rfl rfl rfl) T.g_is_number T.F_is_number.kp T.b_is_number .nil (fun _ => .nil) (va_cons (ve_ix (ve_var 0) ve_int) va_nil)) (v_call rfl)))))))))) (vb_one (vs_ret ve_bl)) vb_nil)
  (vb_one (vs_ret (ve_and (ve_chain opg_le (op_leX (hu64 hr)) lift_leX mono_leX opg_le (op_leX (hu64 hr)) lift_leX mono_leX ve_int (ve_ix (ve_var 0) ve_int) (ve_glob T.g_LAST_DAY T.r_LAST_DAY T.kr_LAST_DAY (fun _ _ => repF_self kp_LAST_DAY))) (ve_one (ve_chain opg_le (op_leX (hu64 hr)) lift_leX mono_leX opg_le (op_leX (hu64 hr)) lift_leX mono_leX ve_int (ve_ix (ve_var 0) ve_int) (ve_glob T.g_LAST_NUMBER T.r_LAST_NUMBER T.kr_LAST_NUMBER (fun _ _ => repF_self kp_LAST_NUMBER))))))))
theorem fn_is_many {cm : Nat → Addr} (T : Facts K mg) : FnG P w K mg base 2 T.a_is_many T.d_is_many ["thing"] (pV cm 1 f_is_many) := by
  refine fnG_ok (k := 1) (wb := wS cm fb_is_many) T.F_is_many sc_is_many pV_mono (fun cdv A outer s H E hr hgd => ?_) (fun args M Q E hn h => spec_V (N := 1) hn h)
  exact (vb_one (vs_ret (ve_and (ve_c_of (vc_of (ee_call (fn_is_number (cm := cm) T) pV_len (hr.mono (by decide)) hgd (takes_of rfl rfl rfl rfl) T.g_is_number T.F_is_number.kp T.b_is_number .nil (fun _ => .nil) (va_cons (ve_var 0) va_nil)) (v_call rfl))) (ve_one (ve_cmp opg_ge op_ge lift_ge mono_int (ve_var 0) ve_int (nomark _))))))
theorem fn_are_names {cm : Nat → Addr} (T : Facts K mg) : FnG P w K mg base 2 T.a_are_names T.d_are_names ["thing"] (pV cm 1 f_are_names) := by
  refine fnG_ok (k := 1) (wb := wS cm fb_are_names) T.F_are_names sc_are_names pV_mono (fun cdv A outer s H E hr hgd => ?_) (fun args M Q E hn h => spec_V (N := 2) hn h)
  exact (vb_cons (vs_if (vt_w (vw_or (vt_not (vt_tru (ve_of (ee_cb call_isi lift_isi mono_isi T.z_isinstance (by decide +kernel) (va_cons (ve_var 0) (va_cons (ve_blt (n := "tuple") (v := .ty "tuple") (u := .type "tuple") T.z_tuple (by decide +kernel) rfl (fun _ => by rw [Rep])) va_nil))) (v_cb cg_isi)))) (vw_or (vt_cmp opg_eq (op_eq' (hu64 hr)) lift_eq mono_eq (ve_of (ee_cb call_len' lift_len mono_len T.z_len (by decide +kernel) (va_cons (ve_var 0) va_nil)) (v_cb cg_len)) ve_int (nomark _)) (vw_or1 (vt_not (vt_tru (ve_of (ee_cbl (cr_all rfl) lift_allL mono_allL T.z_all (by decide +kernel) (vl_lc (own := [("one", 1)]) rfl sc_are_names.nd (vi_any (ve_var 0)) (blkOk_by (N := N_are_names) (sc := defScope st_are_names) (by decide +kernel)) (fun _ _ _ _ _ => ec_one 1 sc_are_names.nd) (fun _ _ _ _ _ => vts_nil) (fun _ _ _ _ _ => (ve_c_of (vc_of (ee_call (fn_is_word (cm := cm) T) pV_len (hr.mono (by decide)) hgd takes0 T.g_is_word T.F_is_word.kp T.b_is_word .nil (fun _ => .nil) (va_cons (ve_var 1) va_nil)) (v_call rfl)))))) (v_lcb lg_all)))))))) (vb_one (vs_ret ve_bl)) vb_nil)
  (vb_one (vs_ret (ve_cmp opg_eq (op_eq' (hu64 hr)) lift_eq mono_eq (ve_lenSet rfl T.z_len T.z_set (ve_var 0)) (ve_of (ee_cb call_len' lift_len mono_len T.z_len (by decide +kernel) (va_cons (ve_var 0) va_nil)) (v_cb cg_len)) (nomark _)))))
theorem fn_stands_ahead {cm : Nat → Addr} (T : Facts K mg) : FnG P w K mg base 2 T.a_stands_ahead T.d_stands_ahead ["one", "other"] (pV cm 2 f_stands_ahead) := by
  refine fnG_ok (k := 1) (wb := wS cm fb_stands_ahead) T.F_stands_ahead sc_stands_ahead pV_mono (fun cdv A outer s H E hr hgd => ?_) (fun args M Q E hn h => spec_V (N := 2) hn h)
  exact (vb_one (vs_ret (ve_cmp opg_lt (op_ltX (hu64 hr)) lift_ltX mono_ltX (ve_c_of (vc_of (ee_call (fn_standing (cm := cm) T) pV_len (hr.mono (by decide)) hgd (takes_of rfl rfl rfl rfl) T.g_standing T.F_standing.kp T.b_standing .nil (fun _ => .nil) (va_cons (ve_var 0) va_nil)) (v_call rfl))) (ve_c_of (vc_of (ee_call (fn_standing (cm := cm) T) pV_len (hr.mono (by decide)) hgd (takes_of rfl rfl rfl rfl) T.g_standing T.F_standing.kp T.b_standing .nil (fun _ => .nil) (va_cons (ve_var 1) va_nil)) (v_call rfl))) (nomark _))))
theorem fn_up_to {cm : Nat → Addr} (T : Facts K mg) : FnG P w K mg base 2 T.a_up_to T.d_up_to ["book", "until"] (pV cm 2 f_up_to) := by
  refine fnG_okD (k := 1) (wb := wS cm fb_up_to) T.F_up_to sc_up_to pV_mono (fun cdv A outer s H E hr hgd => ?_) (fun args M Q E hn h => spec_V (N := 3) hn h)
  exact (vb_one (vs_ret (ve_of (ee_ctl call_tuple_of lift_tupL mono_tupL T.z_tuple (by decide +kernel) (vl_lc (own := [("page", 2)]) rfl sc_up_to.nd (vi_any (ve_var 0)) (blkOk_by (N := N_up_to) (sc := defScope st_up_to) (by decide +kernel)) (fun _ _ _ _ _ => ec_one 2 sc_up_to.nd) (fun _ _ _ _ _ => vts_one (vt_w (vw_or (vt_cmp opg_is op_isX lift_isX mono_isX (ve_var 1) ve_non (nomark _)) (vw_or1 (vt_cmp opg_le (op_leX (hu64 hr)) lift_leX mono_leX (ve_c_of (vc_of (ee_call (fn_page_moment (cm := cm) T) pV_len (hr.mono (by decide)) hgd takes0 T.g_page_moment T.F_page_moment.kp T.b_page_moment .nil (fun _ => .nil) (va_cons (ve_var 2) va_nil)) (v_call rfl))) (ve_var 1) (nomark _)))))) (fun _ _ _ _ _ => (ve_var 2)))) (v_lcb lg_tup))))
theorem fn__law_names {cm : Nat → Addr} (T : Facts K mg) : FnG P w K mg base 2 T.a__law_names T.d__law_names ["feed", "many"] (pV cm 2 f__law_names) := by
  refine fnG_ok (k := 1) (wb := wS cm fb__law_names) T.F__law_names sc__law_names pV_mono (fun cdv A outer s H E hr hgd => ?_) (fun args M Q E hn h => spec_V (N := 8) hn h)
  exact (vb_cons (vs_set (i := 2) sc__law_names.nd ve_str)
  (vb_cons (vs_setLc (D0 := false) (i := 4) (own := [("k", 3)]) rfl sc__law_names.nd (vi_range1 T.z_range ve_int) (blkOk_by (N := N__law_names) (sc := defScope st__law_names) (by decide +kernel)) (fun _ _ _ _ _ => ec_one 3 sc__law_names.nd) (fun _ _ _ _ _ => vts_nil) (fun _ _ _ _ _ => (ve_c_of (vc_of (ee_call (fn__law_draw (cm := cm) T) pV_len (hr.mono (by decide)) hgd takes0 T.g__law_draw T.F__law_draw.kp T.b__law_draw .nil (fun _ => .nil) (va_cons (ve_var 0) (va_cons ve_int va_nil))) (v_call rfl)))) (es_setLc (i := 4) (own := [("k", 3)]) rfl sc__law_names.nd (vi_range1 T.z_range ve_int) (blkOk_by (N := N__law_names) (sc := defScope st__law_names) (by decide +kernel)) (fun _ _ _ _ _ => ec_one 3 sc__law_names.nd) (fun _ _ _ _ _ => vts_nil) (fun _ _ _ _ _ => (ve_c_of (vc_of (ee_call (fn__law_draw (cm := cm) T) pV_len (hr.mono (by decide)) hgd takes0 T.g__law_draw T.F__law_draw.kp T.b__law_draw .nil (fun _ => .nil) (va_cons (ve_var 0) (va_cons ve_int va_nil))) (v_call rfl)))) (sw_true rfl rfl rfl (by decide +kernel))))
  (vb_cons (vs_setL (i := 5) sc__law_names.nd (vl_disp va_nil))
  (vb_cons (vs_for (g := (.one 3)) (passes_of rfl) rfl (vi_range1 T.z_range ve_int) (eg_name 3 sc__law_names.nd) (vb_cons (vs_set (i := 6) sc__law_names.nd (ve_joinL ve_str (vl_lc (own := [("one", 7)]) rfl sc__law_names.nd (vi_any (ve_sl (ve_var 4) vo_no (vo_pt (ve_var 3)))) (blkOk_by (N := N__law_names) (sc := defScope st__law_names) (by decide +kernel)) (fun _ _ _ _ _ => ec_one 7 sc__law_names.nd) (fun _ _ _ _ _ => vts_nil) (fun _ _ _ _ _ => (ve_ix (ve_var 2) (ve_var 7))))))
  (vb_one (vs_setL (i := 5) sc__law_names.nd (vl_catEL (ve_var 5) (vl_disp (va_cons (ve_op opg_add op_add' lift_add mono_add (ve_var 6) (ve_ix (ve_var 2) (ve_ix (ve_var 4) (ve_var 3)))) (va_cons (ve_op opg_add op_add' lift_add mono_add (ve_var 6) (ve_ix (ve_var 2) (ve_op opg_mod op_modN lift_mod mono_int (ve_op opg_add op_add' lift_add mono_add (ve_ix (ve_var 4) (ve_var 3)) ve_int) ve_int))) va_nil))))))))
  (vb_one (vs_ret (ve_of (ee_ctl call_tuple_of lift_tupL mono_tupL T.z_tuple (by decide +kernel) (vl_of (el_cbl (call_sorted' (hu100 hr)) lift_sortedL mono_sortedL T.z_sorted (by decide +kernel) (vl_lc (own := [("k", 3)]) rfl sc__law_names.nd (vi_range1 T.z_range (ve_var 1)) (blkOk_by (N := N__law_names) (sc := defScope st__law_names) (by decide +kernel)) (fun _ _ _ _ _ => ec_one 3 sc__law_names.nd) (fun _ _ _ _ _ => vts_nil) (fun _ _ _ _ _ => (ve_of (ee_bm PySem.F.plainAttrs_list PySem.F.slot_list_pop PySem.F.type_list_pop mt_popAt lift_popAt mono_popAt (ee_var 5) (va_cons (ve_c_of (vc_of (ee_call (fn__law_draw (cm := cm) T) pV_len (hr.mono (by decide)) hgd takes0 T.g__law_draw T.F__law_draw.kp T.b__law_draw .nil (fun _ => .nil) (va_cons (ve_var 0) (va_cons (ve_of (ee_cb call_len' lift_len mono_len T.z_len (by decide +kernel) (va_cons (ve_var 5) va_nil)) (v_cb cg_len)) va_nil))) (v_call rfl))) va_nil)) (v_mut (keep := false) mutg_popAt))))) (v_lcbl llg_sorted))) (v_lcb lg_tup))))))))
theorem fn__law_some {cm : Nat → Addr} (T : Facts K mg) : FnG P w K mg base 2 T.a__law_some T.d__law_some ["feed", "words", "most"] (pV cm 3 f__law_some) := by
  refine fnG_ok (k := 1) (wb := wS cm fb__law_some) T.F__law_some sc__law_some pV_mono (fun cdv A outer s H E hr hgd => ?_) (fun args M Q E hn h => spec_V (N := 4) hn h)
  exact (vb_one (vs_ret (ve_of (ee_ct call_tuple_of lift_tup mono_tup T.z_tuple (by decide +kernel) (va_cons (ve_sl (ve_new (vl_lc (own := [("word", 3)]) rfl sc__law_some.nd (vi_any (ve_var 1)) (blkOk_by (N := N__law_some) (sc := defScope st__law_some) (by decide +kernel)) (fun _ _ _ _ _ => ec_one 3 sc__law_some.nd) (fun _ _ _ _ _ => vts_one (vt_cmp opg_eq (op_eq' (hu64 hr)) lift_eq mono_eq (ve_c_of (vc_of (ee_call (fn__law_draw (cm := cm) T) pV_len (hr.mono (by decide)) hgd takes0 T.g__law_draw T.F__law_draw.kp T.b__law_draw .nil (fun _ => .nil) (va_cons (ve_var 0) (va_cons ve_int va_nil))) (v_call rfl))) ve_int (nomark _))) (fun _ _ _ _ _ => (ve_var 3)))) vo_no (vo_pt (ve_var 2))) va_nil)) (v_cb cg_tup))))
theorem fn_are_looks {cm : Nat → Addr} (T : Facts K mg) : FnG P w K mg base 3 T.a_are_looks T.d_are_looks ["thing"] (pV cm 1 f_are_looks) := by
  refine fnG_ok (k := 2) (wb := wS cm fb_are_looks) T.F_are_looks sc_are_looks pV_mono (fun cdv A outer s H E hr hgd => ?_) (fun args M Q E hn h => spec_V (N := 3) hn h)
  exact (vb_cons (vs_if (vt_w (vw_or (vt_not (vt_tru (ve_of (ee_cb call_isi lift_isi mono_isi T.z_isinstance (by decide +kernel) (va_cons (ve_var 0) (va_cons (ve_blt (n := "tuple") (v := .ty "tuple") (u := .type "tuple") T.z_tuple (by decide +kernel) rfl (fun _ => by rw [Rep])) va_nil))) (v_cb cg_isi)))) (vw_or1 (vt_not (vt_tru (ve_of (ee_cbl (cr_all rfl) lift_allL mono_allL T.z_all (by decide +kernel) (vl_lc (own := [("look", 1)]) rfl sc_are_looks.nd (vi_any (ve_var 0)) (blkOk_by (N := N_are_looks) (sc := defScope st_are_looks) (by decide +kernel)) (fun _ _ _ _ _ => ec_one 1 sc_are_looks.nd) (fun _ _ _ _ _ => vts_nil) (fun _ _ _ _ _ => (ve_of (ee_cb call_isi lift_isi mono_isi T.z_isinstance (by decide +kernel) (va_cons (ve_var 1) (va_cons (ve_blt (n := "tuple") (v := .ty "tuple") (u := .type "tuple") T.z_tuple (by decide +kernel) rfl (fun _ => by rw [Rep])) va_nil))) (v_cb cg_isi))))) (v_lcb lg_all))))))) (vb_one (vs_ret ve_bl)) vb_nil)
  (vb_cons (vs_for (g := (.one 1)) (passes_of rfl) rfl (vi_any (ve_var 0)) (eg_name 1 sc_are_looks.nd) (vb_one (vs_if (vt_not (vt_tru (ve_of (ee_cbl (cr_all rfl) lift_allL mono_allL T.z_all (by decide +kernel) (vl_lc (own := [("part", 2)]) rfl sc_are_looks.nd (vi_any (ve_var 1)) (blkOk_by (N := N_are_looks) (sc := defScope st_are_looks) (by decide +kernel)) (fun _ _ _ _ _ => ec_one 2 sc_are_looks.nd) (fun _ _ _ _ _ => vts_nil) (fun _ _ _ _ _ => (ve_or (ve_c_of (vc_of (ee_call (fn_is_cut (cm := cm) T) pV_len (hr.mono (by decide)) hgd takes0 T.g_is_cut T.F_is_cut.kp T.b_is_cut .nil (fun _ => .nil) (va_cons (ve_var 2) va_nil)) (v_call rfl))) (ve_one (ve_c_of (vc_of (ee_call (fn_are_words (cm := cm) T) pV_len (hr.mono (by decide)) hgd takes0 T.g_are_words T.F_are_words.kp T.b_are_words .nil (fun _ => .nil) (va_cons (ve_var 2) va_nil)) (v_call rfl)))))))) (v_lcb lg_all)))) (vb_one (vs_ret ve_bl)) vb_nil)))
  (vb_one (vs_ret ve_bl))))
theorem fn_in_order {cm : Nat → Addr} (T : Facts K mg) : FnG P w K mg base 3 T.a_in_order T.d_in_order ["pages"] (pV cm 1 f_in_order) := by
  refine fnG_ok (k := 2) (wb := wS cm fb_in_order) T.F_in_order sc_in_order pV_mono (fun cdv A outer s H E hr hgd => ?_) (fun args M Q E hn h => spec_V (N := 3) hn h)
  exact (vb_cons (vs_setL (i := 1) sc_in_order.nd (vl_disp va_nil))
  (vb_cons (vs_for (g := (.one 2)) (passes_of rfl) rfl (vi_new (vl_of (el_srtK (fn_standing (cm := cm) T) (hr.mono (by decide)) hgd T.b_standing T.g_standing T.z_sorted (ve_var 0)) v_srtK)) (eg_name 2 sc_in_order.nd) (vb_one (vs_if (vt_w (vw_or (vt_eqL (hu64 hr) (ve_var 1) (vl_disp va_nil)) (vw_or1 (vt_cmp opg_ne (op_ne' (hu64 hr)) lift_ne mono_ne (ve_ix (ve_var 1) (ve_neg ve_int)) (ve_var 2) (nomark _))))) (vb_one (vs_expr (ve_of (ee_bm PySem.F.plainAttrs_list PySem.F.slot_list_append PySem.F.type_list_append mt_append lift_append mono_append (ee_var 1) (va_cons (ve_var 2) va_nil)) (v_mut (keep := true) mutk_append)))) vb_nil)))
  (vb_one (vs_ret (ve_of (ee_ct call_tuple_of lift_tup mono_tup T.z_tuple (by decide +kernel) (va_cons (ve_var 1) va_nil)) (v_cb cg_tup))))))
theorem fn__law_words {cm : Nat → Addr} (T : Facts K mg) : FnG P w K mg base 3 T.a__law_words T.d__law_words ["feed"] (pV cm 1 f__law_words) := by
  refine fnG_ok (k := 2) (wb := wS cm fb__law_words) T.F__law_words sc__law_words pV_mono (fun cdv A outer s H E hr hgd => ?_) (fun args M Q E hn h => spec_V (N := 1) hn h)
  exact (vb_one (vs_retL (vl_of (el_ct call_list_of lift_list mono_list T.z_list (by decide +kernel) (va_cons (ve_c_of (vc_of (ee_call (fn__law_names (cm := cm) T) pV_len (hr.mono (by decide)) hgd (takes_of rfl rfl rfl rfl) T.g__law_names T.F__law_names.kp T.b__law_names .nil (fun _ => .nil) (va_cons (ve_var 0) (va_cons ve_int va_nil))) (v_call rfl))) va_nil)) (v_cbl clg_list))))
theorem fn__law_seen {cm : Nat → Addr} (T : Facts K mg) : FnG P w K mg base 3 T.a__law_seen T.d__law_seen ["feed", "words"] (pV cm 2 f__law_seen) := by
  refine fnG_ok (k := 2) (wb := wS cm fb__law_seen) T.F__law_seen sc__law_seen pV_mono (fun cdv A outer s H E hr hgd => ?_) (fun args M Q E hn h => spec_V (N := 6) hn h)
  exact (vb_cons (vs_setL (i := 2) sc__law_seen.nd (vl_disp va_nil))
  (vb_cons (vs_for (g := (.one 3)) (passes_of rfl) rfl (vi_range1 T.z_range (ve_c_of (vc_of (ee_call (fn__law_draw (cm := cm) T) pV_len (hr.mono (by decide)) hgd (takes_of rfl rfl rfl rfl) T.g__law_draw T.F__law_draw.kp T.b__law_draw .nil (fun _ => .nil) (va_cons (ve_var 0) (va_cons ve_int va_nil))) (v_call rfl)))) (eg_name 3 sc__law_seen.nd) (vb_cons (vs_setLc (D0 := false) (i := 4) (own := [("j", 5)]) rfl sc__law_seen.nd (vi_range1 T.z_range (ve_c_of (vc_of (ee_call (fn__law_draw (cm := cm) T) pV_len (hr.mono (by decide)) hgd (takes_of rfl rfl rfl rfl) T.g__law_draw T.F__law_draw.kp T.b__law_draw .nil (fun _ => .nil) (va_cons (ve_var 0) (va_cons ve_int va_nil))) (v_call rfl)))) (blkOk_by (N := N__law_seen) (sc := defScope st__law_seen) (by decide +kernel)) (fun _ _ _ _ _ => ec_one 5 sc__law_seen.nd) (fun _ _ _ _ _ => vts_nil) (fun _ _ _ _ _ => (ve_ixL (vl_disp (va_cons (ve_tup (va_cons ve_str va_nil)) (va_cons (ve_c_of (vc_of (ee_call (fn__law_some (cm := cm) T) pV_len (hr.mono (by decide)) hgd takes0 T.g__law_some T.F__law_some.kp T.b__law_some .nil (fun _ => .nil) (va_cons (ve_var 0) (va_cons (ve_var 1) (va_cons ve_int va_nil)))) (v_call rfl))) va_nil))) (ve_c_of (vc_of (ee_call (fn__law_draw (cm := cm) T) pV_len (hr.mono (by decide)) hgd takes0 T.g__law_draw T.F__law_draw.kp T.b__law_draw .nil (fun _ => .nil) (va_cons (ve_var 0) (va_cons ve_int va_nil))) (v_call rfl))))) (es_setLc (i := 4) (own := [("j", 5)]) rfl sc__law_seen.nd (vi_range1 T.z_range (ve_c_of (vc_of (ee_call (fn__law_draw (cm := cm) T) pV_len (hr.mono (by decide)) hgd (takes_of rfl rfl rfl rfl) T.g__law_draw T.F__law_draw.kp T.b__law_draw .nil (fun _ => .nil) (va_cons (ve_var 0) (va_cons ve_int va_nil))) (v_call rfl)))) (blkOk_by (N := N__law_seen) (sc := defScope st__law_seen) (by decide +kernel)) (fun _ _ _ _ _ => ec_one 5 sc__law_seen.nd) (fun _ _ _ _ _ => vts_nil) (fun _ _ _ _ _ => (ve_ixL (vl_disp (va_cons (ve_tup (va_cons ve_str va_nil)) (va_cons (ve_c_of (vc_of (ee_call (fn__law_some (cm := cm) T) pV_len (hr.mono (by decide)) hgd takes0 T.g__law_some T.F__law_some.kp T.b__law_some .nil (fun _ => .nil) (va_cons (ve_var 0) (va_cons (ve_var 1) (va_cons ve_int va_nil)))) (v_call rfl))) va_nil))) (ve_c_of (vc_of (ee_call (fn__law_draw (cm := cm) T) pV_len (hr.mono (by decide)) hgd takes0 T.g__law_draw T.F__law_draw.kp T.b__law_draw .nil (fun _ => .nil) (va_cons (ve_var 0) (va_cons ve_int va_nil))) (v_call rfl))))) (sw_true rfl rfl rfl (by decide +kernel))))
  (vb_one (vs_expr (ve_of (ee_bm PySem.F.plainAttrs_list PySem.F.slot_list_append PySem.F.type_list_append mt_append lift_append mono_append (ee_var 2) (va_cons (ve_of (ee_ct call_tuple_of lift_tup mono_tup T.z_tuple (by decide +kernel) (va_cons (ve_var 4) va_nil)) (v_cb cg_tup)) va_nil)) (v_mut (keep := true) mutk_append))))))
  (vb_one (vs_ret (ve_of (ee_ct call_tuple_of lift_tup mono_tup T.z_tuple (by decide +kernel) (va_cons (ve_var 2) va_nil)) (v_cb cg_tup))))))
theorem fn_is_told {cm : Nat → Addr} (T : Facts K mg) : FnG P w K mg base 4 T.a_is_told T.d_is_told ["kind", "rest"] (pV cm 2 f_is_told) := by
  refine fnG_ok (k := 3) (wb := wS cm fb_is_told) T.F_is_told sc_is_told pV_mono (fun cdv A outer s H E hr hgd => ?_) (fun args M Q E hn h => spec_V (N := 2) hn h)
  exact (vb_cons (vs_if (vt_w (vw_or (vt_cmp opg_eq (op_eq' (hu64 hr)) lift_eq mono_eq (ve_var 0) ve_str (nomark _)) (vw_or1 (vt_cmp opg_eq (op_eq' (hu64 hr)) lift_eq mono_eq (ve_var 0) ve_str (nomark _))))) (vb_one (vs_ret (ve_and (ve_cmp opg_eq (op_eq' (hu64 hr)) lift_eq mono_eq (ve_of (ee_cb call_len' lift_len mono_len T.z_len (by decide +kernel) (va_cons (ve_var 1) va_nil)) (v_cb cg_len)) ve_int (nomark _)) (ve_one (ve_if (vt_cmp opg_eq (op_eq' (hu64 hr)) lift_eq mono_eq (ve_var 0) ve_str (nomark _)) (ve_c_of (vc_of (ee_call (fn_is_word (cm := cm) T) pV_len (hr.mono (by decide)) hgd (takes_of rfl rfl rfl rfl) T.g_is_word T.F_is_word.kp T.b_is_word .nil (fun _ => .nil) (va_cons (ve_ix (ve_var 1) ve_int) va_nil)) (v_call rfl))) (ve_c_of (vc_of (ee_call (fn_is_many (cm := cm) T) pV_len (hr.mono (by decide)) hgd (takes_of rfl rfl rfl rfl) T.g_is_many T.F_is_many.kp T.b_is_many .nil (fun _ => .nil) (va_cons (ve_ix (ve_var 1) ve_int) va_nil)) (v_call rfl)))))))) vb_nil)
  (vb_cons (vs_if (vt_cmp opg_ne (op_ne' (hu64 hr)) lift_ne mono_ne (ve_of (ee_cb call_len' lift_len mono_len T.z_len (by decide +kernel) (va_cons (ve_var 1) va_nil)) (v_cb cg_len)) ve_int (nomark _)) (vb_one (vs_ret ve_bl)) vb_nil)
  (vb_cons (vs_if (vt_w (vw_or (vt_cmp opg_eq (op_eq' (hu64 hr)) lift_eq mono_eq (ve_var 0) ve_str (nomark _)) (vw_or1 (vt_cmp opg_eq (op_eq' (hu64 hr)) lift_eq mono_eq (ve_var 0) ve_str (nomark _))))) (vb_one (vs_ret (ve_and (ve_c_of (vc_of (ee_call (fn_is_word (cm := cm) T) pV_len (hr.mono (by decide)) hgd (takes_of rfl rfl rfl rfl) T.g_is_word T.F_is_word.kp T.b_is_word .nil (fun _ => .nil) (va_cons (ve_ix (ve_var 1) ve_int) va_nil)) (v_call rfl))) (ve_one (ve_c_of (vc_of (ee_call (fn_is_many (cm := cm) T) pV_len (hr.mono (by decide)) hgd (takes_of rfl rfl rfl rfl) T.g_is_many T.F_is_many.kp T.b_is_many .nil (fun _ => .nil) (va_cons (ve_ix (ve_var 1) ve_int) va_nil)) (v_call rfl))))))) vb_nil)
  (vb_cons (vs_if (vt_w (vw_or (vt_cmp opg_eq (op_eq' (hu64 hr)) lift_eq mono_eq (ve_var 0) ve_str (nomark _)) (vw_or1 (vt_cmp opg_eq (op_eq' (hu64 hr)) lift_eq mono_eq (ve_var 0) ve_str (nomark _))))) (vb_one (vs_ret (ve_and (ve_c_of (vc_of (ee_call (fn_is_word (cm := cm) T) pV_len (hr.mono (by decide)) hgd (takes_of rfl rfl rfl rfl) T.g_is_word T.F_is_word.kp T.b_is_word .nil (fun _ => .nil) (va_cons (ve_ix (ve_var 1) ve_int) va_nil)) (v_call rfl))) (ve_one (ve_c_of (vc_of (ee_call (fn_is_word (cm := cm) T) pV_len (hr.mono (by decide)) hgd (takes_of rfl rfl rfl rfl) T.g_is_word T.F_is_word.kp T.b_is_word .nil (fun _ => .nil) (va_cons (ve_ix (ve_var 1) ve_int) va_nil)) (v_call rfl))))))) vb_nil)
  (vb_cons (vs_if (vt_cmp opg_eq (op_eq' (hu64 hr)) lift_eq mono_eq (ve_var 0) ve_str (nomark _)) (vb_one (vs_ret (ve_and (ve_c_of (vc_of (ee_call (fn_is_word (cm := cm) T) pV_len (hr.mono (by decide)) hgd (takes_of rfl rfl rfl rfl) T.g_is_word T.F_is_word.kp T.b_is_word .nil (fun _ => .nil) (va_cons (ve_ix (ve_var 1) ve_int) va_nil)) (v_call rfl))) (ve_one (ve_c_of (vc_of (ee_call (fn_are_looks (cm := cm) T) pV_len (hr.mono (by decide)) hgd (takes_of rfl rfl rfl rfl) T.g_are_looks T.F_are_looks.kp T.b_are_looks .nil (fun _ => .nil) (va_cons (ve_ix (ve_var 1) ve_int) va_nil)) (v_call rfl))))))) vb_nil)
  (vb_one (vs_ret (ve_and (ve_c_of (vc_of (ee_call (fn_are_words (cm := cm) T) pV_len (hr.mono (by decide)) hgd (takes_of rfl rfl rfl rfl) T.g_are_words T.F_are_words.kp T.b_are_words .nil (fun _ => .nil) (va_cons (ve_ix (ve_var 1) ve_int) va_nil)) (v_call rfl))) (ve_one (ve_c_of (vc_of (ee_call (fn_are_names (cm := cm) T) pV_len (hr.mono (by decide)) hgd (takes_of rfl rfl rfl rfl) T.g_are_names T.F_are_names.kp T.b_are_names .nil (fun _ => .nil) (va_cons (ve_ix (ve_var 1) ve_int) va_nil)) (v_call rfl))))))))))))
theorem fn_joined {cm : Nat → Addr} (T : Facts K mg) : FnG P w K mg base 4 T.a_joined T.d_joined ["one", "other"] (pV cm 2 f_joined) := by
  refine fnG_ok (k := 3) (wb := wS cm fb_joined) T.F_joined sc_joined pV_mono (fun cdv A outer s H E hr hgd => ?_) (fun args M Q E hn h => spec_V (N := 2) hn h)
  exact (vb_one (vs_retC (vc_of (ee_call (fn_in_order (cm := cm) T) pV_len (hr.mono (by decide)) hgd (takes_of rfl rfl rfl rfl) T.g_in_order T.F_in_order.kp T.b_in_order .nil (fun _ => .nil) (va_cons (ve_op opg_add op_add' lift_add mono_add (ve_var 0) (ve_var 1)) va_nil)) (v_call rfl))))
theorem fn__law_page {cm : Nat → Addr} (T : Facts K mg) : FnG P w K mg base 4 T.a__law_page T.d__law_page ["feed", "words"] (pV cm 2 f__law_page) := by
  refine fnG_ok (k := 3) (wb := wS cm fb__law_page) T.F__law_page sc__law_page pV_mono (fun cdv A outer s H E hr hgd => ?_) (fun args M Q E hn h => spec_V (N := 11) hn h)
  exact (vb_cons (vs_set (i := 2) sc__law_page.nd (ve_ixL (vl_disp (va_cons (ve_c_of (vc_of (ee_call (fn__law_draw (cm := cm) T) pV_len (hr.mono (by decide)) hgd (takes_of rfl rfl rfl rfl) T.g__law_draw T.F__law_draw.kp T.b__law_draw .nil (fun _ => .nil) (va_cons (ve_var 0) (va_cons ve_int va_nil))) (v_call rfl))) (va_cons ve_int (va_cons ve_int (va_cons (ve_c_of (vc_of (ee_call (fn__law_draw (cm := cm) T) pV_len (hr.mono (by decide)) hgd (takes_of rfl rfl rfl rfl) T.g__law_draw T.F__law_draw.kp T.b__law_draw .nil (fun _ => .nil) (va_cons (ve_var 0) (va_cons ve_int va_nil))) (v_call rfl))) va_nil))))) (ve_c_of (vc_of (ee_call (fn__law_draw (cm := cm) T) pV_len (hr.mono (by decide)) hgd (takes_of rfl rfl rfl rfl) T.g__law_draw T.F__law_draw.kp T.b__law_draw .nil (fun _ => .nil) (va_cons (ve_var 0) (va_cons ve_int va_nil))) (v_call rfl)))))
  (vb_cons (vs_set (i := 3) sc__law_page.nd (ve_ixL (vl_disp (va_cons (ve_c_of (vc_of (ee_call (fn__law_draw (cm := cm) T) pV_len (hr.mono (by decide)) hgd (takes_of rfl rfl rfl rfl) T.g__law_draw T.F__law_draw.kp T.b__law_draw .nil (fun _ => .nil) (va_cons (ve_var 0) (va_cons ve_int va_nil))) (v_call rfl))) (va_cons ve_int (va_cons ve_int (va_cons (ve_c_of (vc_of (ee_call (fn__law_draw (cm := cm) T) pV_len (hr.mono (by decide)) hgd (takes_of rfl rfl rfl rfl) T.g__law_draw T.F__law_draw.kp T.b__law_draw .nil (fun _ => .nil) (va_cons (ve_var 0) (va_cons ve_int va_nil))) (v_call rfl))) va_nil))))) (ve_c_of (vc_of (ee_call (fn__law_draw (cm := cm) T) pV_len (hr.mono (by decide)) hgd (takes_of rfl rfl rfl rfl) T.g__law_draw T.F__law_draw.kp T.b__law_draw .nil (fun _ => .nil) (va_cons (ve_var 0) (va_cons ve_int va_nil))) (v_call rfl)))))
  (vb_cons (vs_set (i := 4) sc__law_page.nd (ve_ixL (vl_disp (va_cons ve_str (va_cons ve_str (va_cons ve_str (va_cons ve_str (va_cons ve_str (va_cons ve_str (va_cons ve_str (va_cons ve_str va_nil))))))))) (ve_c_of (vc_of (ee_call (fn__law_draw (cm := cm) T) pV_len (hr.mono (by decide)) hgd (takes_of rfl rfl rfl rfl) T.g__law_draw T.F__law_draw.kp T.b__law_draw .nil (fun _ => .nil) (va_cons (ve_var 0) (va_cons ve_int va_nil))) (v_call rfl)))))
  (vb_cons (vs_of (es_par (i := 5) (j := 6) rfl sc__law_page.nd (va_cons (ve_ix (ve_var 1) (ve_c_of (vc_of (ee_call (fn__law_draw (cm := cm) T) pV_len (hr.mono (by decide)) hgd (takes_of rfl rfl rfl rfl) T.g__law_draw T.F__law_draw.kp T.b__law_draw .nil (fun _ => .nil) (va_cons (ve_var 0) (va_cons ve_int va_nil))) (v_call rfl)))) (va_cons (ve_ix (ve_var 1) (ve_c_of (vc_of (ee_call (fn__law_draw (cm := cm) T) pV_len (hr.mono (by decide)) hgd (takes_of rfl rfl rfl rfl) T.g__law_draw T.F__law_draw.kp T.b__law_draw .nil (fun _ => .nil) (va_cons (ve_var 0) (va_cons ve_int va_nil))) (v_call rfl)))) va_nil))) v_par)
  (vb_cons (vs_set (i := 7) sc__law_page.nd (ve_ixL (vl_disp (va_cons ve_int (va_cons ve_int (va_cons ve_int (va_cons ve_int (va_cons ve_int (va_cons (ve_op opg_pow op_pow lift_pow mono_int ve_int ve_int) va_nil))))))) (ve_c_of (vc_of (ee_call (fn__law_draw (cm := cm) T) pV_len (hr.mono (by decide)) hgd (takes_of rfl rfl rfl rfl) T.g__law_draw T.F__law_draw.kp T.b__law_draw .nil (fun _ => .nil) (va_cons (ve_var 0) (va_cons ve_int va_nil))) (v_call rfl)))))
  (vb_cons (vs_if (vt_cmp opg_in (op_in' (hu65 hr)) lift_in mono_in (ve_var 4) (ve_tup (va_cons ve_str (va_cons ve_str va_nil))) rfl) (vb_one (vs_ret (ve_tup (va_cons (ve_var 2) (va_cons (ve_var 3) (va_cons (ve_var 4) (va_cons (ve_var 5) (va_cons (ve_var 7) va_nil)))))))) vb_nil)
  (vb_cons (vs_if (vt_cmp opg_in (op_in' (hu65 hr)) lift_in mono_in (ve_var 4) (ve_tup (va_cons ve_str (va_cons ve_str va_nil))) rfl) (vb_one (vs_ret (ve_tup (va_cons (ve_var 2) (va_cons (ve_var 3) (va_cons (ve_var 4) (va_cons (ve_var 5) (va_cons (ve_var 6) va_nil)))))))) vb_nil)
  (vb_cons (vs_if (vt_cmp opg_in (op_in' (hu65 hr)) lift_in mono_in (ve_var 4) (ve_tup (va_cons ve_str (va_cons ve_str va_nil))) rfl) (vb_one (vs_ret (ve_tup (va_cons (ve_var 2) (va_cons (ve_var 3) (va_cons (ve_var 4) (va_cons (ve_if (vt_cmp opg_eq (op_eq' (hu64 hr)) lift_eq mono_eq (ve_var 4) ve_str (nomark _)) (ve_var 5) (ve_var 7)) va_nil))))))) vb_nil)
  (vb_cons (vs_if (vt_cmp opg_eq (op_eq' (hu64 hr)) lift_eq mono_eq (ve_var 4) ve_str (nomark _)) (vb_one (vs_ret (ve_tup (va_cons (ve_var 2) (va_cons (ve_var 3) (va_cons (ve_var 4) (va_cons (ve_var 5) (va_cons (ve_c_of (vc_of (ee_call (fn__law_seen (cm := cm) T) pV_len (hr.mono (by decide)) hgd (takes_of rfl rfl rfl rfl) T.g__law_seen T.F__law_seen.kp T.b__law_seen .nil (fun _ => .nil) (va_cons (ve_var 0) (va_cons (ve_var 1) va_nil))) (v_call rfl))) va_nil)))))))) vb_nil)
  (vb_cons (vs_setL (i := 8) sc__law_page.nd (vl_of (el_ct call_list_of lift_list mono_list T.z_list (by decide +kernel) (va_cons (ve_var 1) va_nil)) (v_cbl clg_list)))
  (vb_cons (vs_setLc (D0 := false) (i := 9) (own := [("k", 10)]) rfl sc__law_page.nd (vi_range1 T.z_range (ve_op opg_add op_add' lift_add mono_add ve_int (ve_c_of (vc_of (ee_call (fn__law_draw (cm := cm) T) pV_len (hr.mono (by decide)) hgd (takes_of rfl rfl rfl rfl) T.g__law_draw T.F__law_draw.kp T.b__law_draw .nil (fun _ => .nil) (va_cons (ve_var 0) (va_cons ve_int va_nil))) (v_call rfl))))) (blkOk_by (N := N__law_page) (sc := defScope st__law_page) (by decide +kernel)) (fun _ _ _ _ _ => ec_one 10 sc__law_page.nd) (fun _ _ _ _ _ => vts_nil) (fun _ _ _ _ _ => (ve_of (ee_bm PySem.F.plainAttrs_list PySem.F.slot_list_pop PySem.F.type_list_pop mt_popAt lift_popAt mono_popAt (ee_var 8) (va_cons (ve_c_of (vc_of (ee_call (fn__law_draw (cm := cm) T) pV_len (hr.mono (by decide)) hgd takes0 T.g__law_draw T.F__law_draw.kp T.b__law_draw .nil (fun _ => .nil) (va_cons (ve_var 0) (va_cons (ve_of (ee_cb call_len' lift_len mono_len T.z_len (by decide +kernel) (va_cons (ve_var 8) va_nil)) (v_cb cg_len)) va_nil))) (v_call rfl))) va_nil)) (v_mut (keep := false) mutg_popAt))) (es_setLc (i := 9) (own := [("k", 10)]) rfl sc__law_page.nd (vi_range1 T.z_range (ve_op opg_add op_add' lift_add mono_add ve_int (ve_c_of (vc_of (ee_call (fn__law_draw (cm := cm) T) pV_len (hr.mono (by decide)) hgd (takes_of rfl rfl rfl rfl) T.g__law_draw T.F__law_draw.kp T.b__law_draw .nil (fun _ => .nil) (va_cons (ve_var 0) (va_cons ve_int va_nil))) (v_call rfl))))) (blkOk_by (N := N__law_page) (sc := defScope st__law_page) (by decide +kernel)) (fun _ _ _ _ _ => ec_one 10 sc__law_page.nd) (fun _ _ _ _ _ => vts_nil) (fun _ _ _ _ _ => (ve_of (ee_bm PySem.F.plainAttrs_list PySem.F.slot_list_pop PySem.F.type_list_pop mt_popAt lift_popAt mono_popAt (ee_var 8) (va_cons (ve_c_of (vc_of (ee_call (fn__law_draw (cm := cm) T) pV_len (hr.mono (by decide)) hgd takes0 T.g__law_draw T.F__law_draw.kp T.b__law_draw .nil (fun _ => .nil) (va_cons (ve_var 0) (va_cons (ve_of (ee_cb call_len' lift_len mono_len T.z_len (by decide +kernel) (va_cons (ve_var 8) va_nil)) (v_cb cg_len)) va_nil))) (v_call rfl))) va_nil)) (v_mut (keep := false) mutg_popAt))) (sw_true rfl rfl rfl (by decide +kernel))))
  (vb_one (vs_ret (ve_tup (va_cons (ve_var 2) (va_cons (ve_var 3) (va_cons (ve_var 4) (va_cons (ve_c_of (vc_of (ee_call (fn__law_some (cm := cm) T) pV_len (hr.mono (by decide)) hgd (takes_of rfl rfl rfl rfl) T.g__law_some T.F__law_some.kp T.b__law_some .nil (fun _ => .nil) (va_cons (ve_var 0) (va_cons (ve_var 1) (va_cons ve_int va_nil)))) (v_call rfl))) (va_cons (ve_of (ee_ct call_tuple_of lift_tup mono_tup T.z_tuple (by decide +kernel) (va_cons (ve_var 9) va_nil)) (v_cb cg_tup)) va_nil)))))))))))))))))))
theorem fn_is_page {cm : Nat → Addr} (T : Facts K mg) : FnG P w K mg base 5 T.a_is_page T.d_is_page ["thing"] (pV cm 1 f_is_page) := by
  refine fnG_ok (k := 4) (wb := wS cm fb_is_page) T.F_is_page sc_is_page pV_mono (fun cdv A outer s H E hr hgd => ?_) (fun args M Q E hn h => spec_V (N := 1) hn h)
  exact (vb_cons (vs_if (vt_w (vw_or (vt_not (vt_tru (ve_of (ee_cb call_isi lift_isi mono_isi T.z_isinstance (by decide +kernel) (va_cons (ve_var 0) (va_cons (ve_blt (n := "tuple") (v := .ty "tuple") (u := .type "tuple") T.z_tuple (by decide +kernel) rfl (fun _ => by rw [Rep])) va_nil))) (v_cb cg_isi)))) (vw_or (vt_cmp opg_lt (op_ltX (hu64 hr)) lift_ltX mono_ltX (ve_of (ee_cb call_len' lift_len mono_len T.z_len (by decide +kernel) (va_cons (ve_var 0) va_nil)) (v_cb cg_len)) ve_int (nomark _)) (vw_or1 (vt_not (vt_tru (ve_c_of (vc_of (ee_call (fn_is_moment (cm := cm) T) pV_len (hr.mono (by decide)) hgd (takes_of rfl rfl rfl rfl) T.g_is_moment T.F_is_moment.kp T.b_is_moment .nil (fun _ => .nil) (va_cons (ve_sl (ve_var 0) vo_no (vo_pt ve_int)) va_nil)) (v_call rfl))))))))) (vb_one (vs_ret ve_bl)) vb_nil)
  (vb_one (vs_ret (ve_and (ve_of (ee_cb call_isi lift_isi mono_isi T.z_isinstance (by decide +kernel) (va_cons (ve_ix (ve_var 0) ve_int) (va_cons (ve_blt (n := "str") (v := .ty "str") (u := .type "str") T.z_str (by decide +kernel) rfl (fun _ => by rw [Rep])) va_nil))) (v_cb cg_isi)) (ve_and (ve_cmp opg_in (op_in' (hu65 hr)) lift_in mono_in (ve_ix (ve_var 0) ve_int) (ve_glob T.g_KINDS T.r_KINDS T.kr_KINDS (fun _ _ => repF_self kp_KINDS)) rfl) (ve_one (ve_c_of (vc_of (ee_call (fn_is_told (cm := cm) T) pV_len (hr.mono (by decide)) hgd (takes_of rfl rfl rfl rfl) T.g_is_told T.F_is_told.kp T.b_is_told .nil (fun _ => .nil) (va_cons (ve_ix (ve_var 0) ve_int) (va_cons (ve_sl (ve_var 0) (vo_pt ve_int) vo_no) va_nil))) (v_call rfl)))))))))
theorem fn_is_book {cm : Nat → Addr} (T : Facts K mg) : FnG P w K mg base 6 T.a_is_book T.d_is_book ["thing"] (pV cm 1 f_is_book) := by
  refine fnG_ok (k := 5) (wb := wS cm fb_is_book) T.F_is_book sc_is_book pV_mono (fun cdv A outer s H E hr hgd => ?_) (fun args M Q E hn h => spec_V (N := 3) hn h)
  exact (vb_cons (vs_if (vt_w (vw_or (vt_not (vt_tru (ve_of (ee_cb call_isi lift_isi mono_isi T.z_isinstance (by decide +kernel) (va_cons (ve_var 0) (va_cons (ve_blt (n := "tuple") (v := .ty "tuple") (u := .type "tuple") T.z_tuple (by decide +kernel) rfl (fun _ => by rw [Rep])) va_nil))) (v_cb cg_isi)))) (vw_or1 (vt_not (vt_tru (ve_of (ee_cbl (cr_all rfl) lift_allL mono_allL T.z_all (by decide +kernel) (vl_lc (own := [("one", 1)]) rfl sc_is_book.nd (vi_any (ve_var 0)) (blkOk_by (N := N_is_book) (sc := defScope st_is_book) (by decide +kernel)) (fun _ _ _ _ _ => ec_one 1 sc_is_book.nd) (fun _ _ _ _ _ => vts_nil) (fun _ _ _ _ _ => (ve_c_of (vc_of (ee_call (fn_is_page (cm := cm) T) pV_len (hr.mono (by decide)) hgd takes0 T.g_is_page T.F_is_page.kp T.b_is_page .nil (fun _ => .nil) (va_cons (ve_var 1) va_nil)) (v_call rfl)))))) (v_lcb lg_all))))))) (vb_one (vs_ret ve_bl)) vb_nil)
  (vb_one (vs_ret (ve_of (ee_cbl (cr_all rfl) lift_allL mono_allL T.z_all (by decide +kernel) (vl_lc (own := [("one", 1), ("other", 2)]) rfl sc_is_book.nd (vi_zip (ei_zip T.z_zip (ea_cons (ve_var 0) (ea_cons (ve_sl (ve_var 0) (vo_pt ve_int) vo_no) ea_nil)))) (blkOk_by (N := N_is_book) (sc := defScope st_is_book) (by decide +kernel)) (fun _ _ _ _ _ => ec_many rfl (ecs_cons 1 sc_is_book.nd (ecs_cons 2 sc_is_book.nd ecs_nil))) (fun _ _ _ _ _ => vts_nil) (fun _ _ _ _ _ => (ve_c_of (vc_of (ee_call (fn_stands_ahead (cm := cm) T) pV_len (hr.mono (by decide)) hgd takes0 T.g_stands_ahead T.F_stands_ahead.kp T.b_stands_ahead .nil (fun _ => .nil) (va_cons (ve_var 1) (va_cons (ve_var 2) va_nil))) (v_call rfl)))))) (v_lcb lg_all)))))
abbrev p_law : PSp := LawP fun z => Builtin.Int.intBits z ≤ 1048576
theorem fn_law (T : Facts K mg) : FnG P w K mg base 7 T.a_law T.d_law ["script"] p_law := by
  refine fnG_ok (k := 6) (wb := wSeq (wSet 1 (wCall p_feed (wCons (wVar 0) wNil) [])) (wS (fun _ => 0) fb_law)) T.F_law sc_law mono_law (fun cdv A outer s H E hr hgd => ?_) (law_V (N := 16) (by decide) law_true)
  let cm : Nat → Addr := fun _ => 0
  exact (eb_cons (es_set (i := 1) sc_law.nd (ee_call (fn__law_feed T) len_feed (hr.mono (by decide)) hgd (takes_of rfl rfl rfl rfl) T.g__law_feed T.F__law_feed.kp T.b__law_feed .nil (fun _ => .nil) (ea_cons (ee_var 0) ea_nil)))
  (vb_cons (vs_set (i := 2) sc_law.nd (ve_c_of (vc_of (ee_call (fn__law_words (cm := cm) T) pV_len (hr.mono (by decide)) hgd (takes_of rfl rfl rfl rfl) T.g__law_words T.F__law_words.kp T.b__law_words .nil (fun _ => .nil) (va_cons (ve_var 1) va_nil)) (v_call rfl))))
  (vb_cons (vs_set (i := 3) sc_law.nd (ve_new (vl_lc (own := [("k", 13)]) rfl sc_law.nd (vi_range1 T.z_range (ve_ixL (vl_disp (va_cons ve_int (va_cons ve_int (va_cons ve_int (va_cons ve_int (va_cons ve_int (va_cons ve_int (va_cons ve_int (va_cons ve_int va_nil))))))))) (ve_c_of (vc_of (ee_call (fn__law_draw (cm := cm) T) pV_len (hr.mono (by decide)) hgd (takes_of rfl rfl rfl rfl) T.g__law_draw T.F__law_draw.kp T.b__law_draw .nil (fun _ => .nil) (va_cons (ve_var 1) (va_cons ve_int va_nil))) (v_call rfl))))) (blkOk_by (N := N_law) (sc := defScope st_law) (by decide +kernel)) (fun _ _ _ _ _ => ec_one 13 sc_law.nd) (fun _ _ _ _ _ => vts_nil) (fun _ _ _ _ _ => (ve_c_of (vc_of (ee_call (fn__law_page (cm := cm) T) pV_len (hr.mono (by decide)) hgd takes0 T.g__law_page T.F__law_page.kp T.b__law_page .nil (fun _ => .nil) (va_cons (ve_var 1) (va_cons (ve_var 2) va_nil))) (v_call rfl)))))))
  (vb_cons (vs_asgL (is := [4, 5, 6]) (ve_new (vl_lc (own := [("turn", 14)]) rfl sc_law.nd (vi_range1 T.z_range ve_int) (blkOk_by (N := N_law) (sc := defScope st_law) (by decide +kernel)) (fun _ _ _ _ _ => ec_one 14 sc_law.nd) (fun _ _ _ _ _ => vts_nil) (fun _ _ _ _ _ => (ve_c_of (vc_of (ee_call (fn_in_order (cm := cm) T) pV_len (hr.mono (by decide)) hgd takes0 T.g_in_order T.F_in_order.kp T.b_in_order .nil (fun _ => .nil) (va_cons (ve_new (vl_lcB (own := [("page", 15)]) rfl sc_law.nd (vi_any (ve_var 3)) (blkOk_by (N := N_law) (by decide +kernel)) (fun _ _ _ _ _ => ec_one 15 sc_law.nd) (fun _ _ _ _ _ => vts_one (vt_cmp opg_eq (op_eq' (hu64 hr)) lift_eq mono_eq (ve_c_of (vc_of (ee_call (fn__law_draw (cm := cm) T) pV_len (hr.mono (by decide)) hgd takes0 T.g__law_draw T.F__law_draw.kp T.b__law_draw .nil (fun _ => .nil) (va_cons (ve_var 1) (va_cons ve_int va_nil))) (v_call rfl))) ve_int (nomark _))) (fun _ _ _ _ _ => (ve_var 15)))) va_nil)) (v_call rfl)))))) (eg_lst rfl (egs_cons (eg_name 4 sc_law.nd) (egs_cons (eg_name 5 sc_law.nd) (egs_cons (eg_name 6 sc_law.nd) egs_nil))) rfl rfl gl3))
  (vb_cons (vs_set (i := 7) sc_law.nd (ve_c_of (vc_of (ee_call (fn_joined (cm := cm) T) pV_len (hr.mono (by decide)) hgd (takes_of rfl rfl rfl rfl) T.g_joined T.F_joined.kp T.b_joined .nil (fun _ => .nil) (va_cons (ve_c_of (vc_of (ee_call (fn_joined (cm := cm) T) pV_len (hr.mono (by decide)) hgd (takes_of rfl rfl rfl rfl) T.g_joined T.F_joined.kp T.b_joined .nil (fun _ => .nil) (va_cons (ve_var 4) (va_cons (ve_var 5) va_nil))) (v_call rfl))) (va_cons (ve_var 6) va_nil))) (v_call rfl))))
  (vb_cons (vs_for (g := (.one 8)) (passes_of rfl) rfl (vi_any (ve_tup (va_cons (ve_c_of (vc_of (ee_call (fn_joined (cm := cm) T) pV_len (hr.mono (by decide)) hgd (takes_of rfl rfl rfl rfl) T.g_joined T.F_joined.kp T.b_joined .nil (fun _ => .nil) (va_cons (ve_var 4) (va_cons (ve_c_of (vc_of (ee_call (fn_joined (cm := cm) T) pV_len (hr.mono (by decide)) hgd (takes_of rfl rfl rfl rfl) T.g_joined T.F_joined.kp T.b_joined .nil (fun _ => .nil) (va_cons (ve_var 5) (va_cons (ve_var 6) va_nil))) (v_call rfl))) va_nil))) (v_call rfl))) (va_cons (ve_c_of (vc_of (ee_call (fn_joined (cm := cm) T) pV_len (hr.mono (by decide)) hgd (takes_of rfl rfl rfl rfl) T.g_joined T.F_joined.kp T.b_joined .nil (fun _ => .nil) (va_cons (ve_c_of (vc_of (ee_call (fn_joined (cm := cm) T) pV_len (hr.mono (by decide)) hgd (takes_of rfl rfl rfl rfl) T.g_joined T.F_joined.kp T.b_joined .nil (fun _ => .nil) (va_cons (ve_var 6) (va_cons (ve_var 4) va_nil))) (v_call rfl))) (va_cons (ve_var 5) va_nil))) (v_call rfl))) (va_cons (ve_c_of (vc_of (ee_call (fn_joined (cm := cm) T) pV_len (hr.mono (by decide)) hgd (takes_of rfl rfl rfl rfl) T.g_joined T.F_joined.kp T.b_joined .nil (fun _ => .nil) (va_cons (ve_c_of (vc_of (ee_call (fn_joined (cm := cm) T) pV_len (hr.mono (by decide)) hgd (takes_of rfl rfl rfl rfl) T.g_joined T.F_joined.kp T.b_joined .nil (fun _ => .nil) (va_cons (ve_var 5) (va_cons (ve_var 5) va_nil))) (v_call rfl))) (va_cons (ve_c_of (vc_of (ee_call (fn_joined (cm := cm) T) pV_len (hr.mono (by decide)) hgd (takes_of rfl rfl rfl rfl) T.g_joined T.F_joined.kp T.b_joined .nil (fun _ => .nil) (va_cons (ve_var 6) (va_cons (ve_var 4) va_nil))) (v_call rfl))) va_nil))) (v_call rfl))) va_nil))))) (eg_name 8 sc_law.nd) (vb_one (vs_if (vt_cmp opg_ne (op_ne' (hu64 hr)) lift_ne mono_ne (ve_var 8) (ve_var 7) (nomark _)) (vb_one (vs_ret ve_bl)) vb_nil)))
  (vb_cons (vs_if (vt_w (vw_or (vt_cmp opg_is op_isnotX lift_isnotX mono_isX (ve_c_of (vc_of (ee_call (fn_is_book (cm := cm) T) pV_len (hr.mono (by decide)) hgd (takes_of rfl rfl rfl rfl) T.g_is_book T.F_is_book.kp T.b_is_book .nil (fun _ => .nil) (va_cons (ve_var 7) va_nil)) (v_call rfl))) ve_bl (nomark _)) (vw_or (vt_cmp opg_ne (op_ne' (hu64 hr)) lift_ne mono_ne (ve_c_of (vc_of (ee_call (fn_joined (cm := cm) T) pV_len (hr.mono (by decide)) hgd (takes_of rfl rfl rfl rfl) T.g_joined T.F_joined.kp T.b_joined .nil (fun _ => .nil) (va_cons (ve_var 7) (va_cons (ve_var 4) va_nil))) (v_call rfl))) (ve_var 7) (nomark _)) (vw_or1 (vt_cmp opg_ne (op_ne' (hu64 hr)) lift_ne mono_ne (ve_c_of (vc_of (ee_call (fn_joined (cm := cm) T) pV_len (hr.mono (by decide)) hgd (takes_of rfl rfl rfl rfl) T.g_joined T.F_joined.kp T.b_joined .nil (fun _ => .nil) (va_cons (ve_tup va_nil) (va_cons (ve_var 7) va_nil))) (v_call rfl))) (ve_var 7) (nomark _)))))) (vb_one (vs_ret ve_bl)) vb_nil)
  (vb_cons (vs_set (i := 9) sc_law.nd (ve_new (vl_catEL (ve_new (vl_lc (own := [("page", 15)]) rfl sc_law.nd (vi_any (ve_sl (ve_var 7) vo_no (vo_pt ve_int))) (blkOk_by (N := N_law) (sc := defScope st_law) (by decide +kernel)) (fun _ _ _ _ _ => ec_one 15 sc_law.nd) (fun _ _ _ _ _ => vts_nil) (fun _ _ _ _ _ => (ve_sl (ve_var 15) vo_no (vo_pt ve_int))))) (vl_disp (va_cons (ve_tup (va_cons (ve_c_of (vc_of (ee_call (fn__law_draw (cm := cm) T) pV_len (hr.mono (by decide)) hgd (takes_of rfl rfl rfl rfl) T.g__law_draw T.F__law_draw.kp T.b__law_draw .nil (fun _ => .nil) (va_cons (ve_var 1) (va_cons ve_int va_nil))) (v_call rfl))) (va_cons (ve_c_of (vc_of (ee_call (fn__law_draw (cm := cm) T) pV_len (hr.mono (by decide)) hgd (takes_of rfl rfl rfl rfl) T.g__law_draw T.F__law_draw.kp T.b__law_draw .nil (fun _ => .nil) (va_cons (ve_var 1) (va_cons ve_int va_nil))) (v_call rfl))) va_nil))) (va_cons ve_non va_nil))))))
  (vb_cons (vs_for (g := (.one 10)) (passes_of rfl) rfl (vi_any (ve_var 9)) (eg_name 10 sc_law.nd) (vb_cons (vs_if (vt_cmp opg_ne (op_ne' (hu64 hr)) lift_ne mono_ne (ve_c_of (vc_of (ee_call (fn_up_to (cm := cm) T) pV_len (hr.mono (by decide)) hgd (takes_of rfl rfl rfl rfl) T.g_up_to T.F_up_to.kp T.b_up_to .nil (fun _ => .nil) (va_cons (ve_var 7) (va_cons (ve_var 10) va_nil))) (v_call rfl))) (ve_c_of (vc_of (ee_call (fn_joined (cm := cm) T) pV_len (hr.mono (by decide)) hgd (takes_of rfl rfl rfl rfl) T.g_joined T.F_joined.kp T.b_joined .nil (fun _ => .nil) (va_cons (ve_c_of (vc_of (ee_call (fn_joined (cm := cm) T) pV_len (hr.mono (by decide)) hgd (takes_of rfl rfl rfl rfl) T.g_joined T.F_joined.kp T.b_joined .nil (fun _ => .nil) (va_cons (ve_c_of (vc_of (ee_call (fn_up_to (cm := cm) T) pV_len (hr.mono (by decide)) hgd (takes_of rfl rfl rfl rfl) T.g_up_to T.F_up_to.kp T.b_up_to .nil (fun _ => .nil) (va_cons (ve_var 4) (va_cons (ve_var 10) va_nil))) (v_call rfl))) (va_cons (ve_c_of (vc_of (ee_call (fn_up_to (cm := cm) T) pV_len (hr.mono (by decide)) hgd (takes_of rfl rfl rfl rfl) T.g_up_to T.F_up_to.kp T.b_up_to .nil (fun _ => .nil) (va_cons (ve_var 5) (va_cons (ve_var 10) va_nil))) (v_call rfl))) va_nil))) (v_call rfl))) (va_cons (ve_c_of (vc_of (ee_call (fn_up_to (cm := cm) T) pV_len (hr.mono (by decide)) hgd (takes_of rfl rfl rfl rfl) T.g_up_to T.F_up_to.kp T.b_up_to .nil (fun _ => .nil) (va_cons (ve_var 6) (va_cons (ve_var 10) va_nil))) (v_call rfl))) va_nil))) (v_call rfl))) (nomark _)) (vb_one (vs_ret ve_bl)) vb_nil)
  (vb_one (vs_for (g := (.one 11)) (passes_of rfl) rfl (vi_any (ve_var 9)) (eg_name 11 sc_law.nd) (vb_cons (vs_set (i := 12) sc_law.nd (ve_if (vt_cmp opg_is op_isX lift_isX mono_isX (ve_var 10) ve_non (nomark _)) (ve_var 11) (ve_if (vt_cmp opg_is op_isX lift_isX mono_isX (ve_var 11) ve_non (nomark _)) (ve_var 10) (ve_of (ee_cb (call_minX rfl (hu65 hr)) lift_minX mono_minX T.z_min (by decide +kernel) (va_cons (ve_var 10) (va_cons (ve_var 11) va_nil))) (v_cb cg_minX)))))
  (vb_one (vs_if (vt_cmp opg_ne (op_ne' (hu64 hr)) lift_ne mono_ne (ve_c_of (vc_of (ee_call (fn_up_to (cm := cm) T) pV_len (hr.mono (by decide)) hgd (takes_of rfl rfl rfl rfl) T.g_up_to T.F_up_to.kp T.b_up_to .nil (fun _ => .nil) (va_cons (ve_c_of (vc_of (ee_call (fn_up_to (cm := cm) T) pV_len (hr.mono (by decide)) hgd (takes_of rfl rfl rfl rfl) T.g_up_to T.F_up_to.kp T.b_up_to .nil (fun _ => .nil) (va_cons (ve_var 7) (va_cons (ve_var 10) va_nil))) (v_call rfl))) (va_cons (ve_var 11) va_nil))) (v_call rfl))) (ve_c_of (vc_of (ee_call (fn_up_to (cm := cm) T) pV_len (hr.mono (by decide)) hgd (takes_of rfl rfl rfl rfl) T.g_up_to T.F_up_to.kp T.b_up_to .nil (fun _ => .nil) (va_cons (ve_var 7) (va_cons (ve_var 12) va_nil))) (v_call rfl))) (nomark _)) (vb_one (vs_ret ve_bl)) vb_nil)))))))
  (vb_one (vs_ret ve_bl)))))))))))
end
theorem all_mk {P : Program} {w : World} {K : Fg} {h : Heap} {mg : Str → Option Value} {fa f1 f2 f3 f4 f5 f6 f7 f8 f9 f10 f11 f12 f13 f14 f15 f16 f17 f18 f19 f20 f21 f22 f23 f24 f25 f26 : Addr} (X : K.In h) (G : h.Ns mainGlobals mg) (hfa : mg "law" = some (.ref fa))
    {od1 an1 od2 an2 od3 an3 od4 an4 od5 an5 od6 an6 od7 an7 od8 an8 od9 an9 od10 an10 od11 an11 od12 an12 od13 an13 od14 an14 od15 an15 od16 an16 od17 an17 od18 an18 od19 an19 od20 an20 od21 an21 od22 an22 od23 an23 od24 an24 od25 an25 od26 an26 : Option Addr} {sl1 sl2 sl3 sl4 sl5 sl6 sl7 sl8 sl9 sl10 sl11 sl12 sl13 sl14 sl15 sl16 sl17 sl18 sl19 sl20 sl21 sl22 sl23 sl24 sl25 sl26 : Array (Option Value)} {oc1 kV1 dc1 pm1 cd1 ct1 oc2 kV2 dc2 pm2 cd2 ct2 oc3 kV3 dc3 pm3 cd3 ct3 oc4 kV4 dc4 pm4 cd4 ct4 oc5 kV5 dc5 pm5 cd5 ct5 oc6 kV6 dc6 pm6 cd6 ct6 oc7 kV7 dc7 pm7 cd7 ct7 oc8 kV8 dc8 pm8 cd8 ct8 oc9 kV9 dc9 pm9 cd9 ct9 oc10 kV10 dc10 pm10 cd10 ct10 oc11 kV11 dc11 pm11 cd11 ct11 oc12 kV12 dc12 pm12 cd12 ct12 oc13 kV13 dc13 pm13 cd13 ct13 oc14 kV14 dc14 pm14 cd14 ct14 oc15 kV15 dc15 pm15 cd15 ct15 oc16 kV16 dc16 pm16 cd16 ct16 oc17 kV17 dc17 pm17 cd17 ct17 oc18 kV18 dc18 pm18 cd18 ct18 oc19 kV19 dc19 pm19 cd19 ct19 oc20 kV20 dc20 pm20 cd20 ct20 oc21 kV21 dc21 pm21 cd21 ct21 oc22 kV22 dc22 pm22 cd22 ct22 oc23 kV23 dc23 pm23 cd23 ct23 oc24 kV24 dc24 pm24 cd24 ct24 oc25 kV25 dc25 pm25 cd25 ct25 oc26 kV26 dc26 pm26 cd26 ct26 : Value}
    (a1 : PySem.W.nsIn K mainGlobals "is_number" = some (some (.ref f1))) (l1 : K.lookup f1 = some ⟨oc1, od1, .func (PySem.W.fnOf "is_number" "is_number" (defArgs st_is_number) (defBody st_is_number) (defScope st_is_number) .none kV1 dc1 pm1 an1 cd1 ct1), sl1⟩) (c1 : PySem.W.codeIn K cd1 "is_number" = true) (k1 : PySem.W.keepIn K (.ref f1) = true)
    (a2 : PySem.W.nsIn K mainGlobals "is_word" = some (some (.ref f2))) (l2 : K.lookup f2 = some ⟨oc2, od2, .func (PySem.W.fnOf "is_word" "is_word" (defArgs st_is_word) (defBody st_is_word) (defScope st_is_word) .none kV2 dc2 pm2 an2 cd2 ct2), sl2⟩) (c2 : PySem.W.codeIn K cd2 "is_word" = true) (k2 : PySem.W.keepIn K (.ref f2) = true)
    (a3 : PySem.W.nsIn K mainGlobals "rises" = some (some (.ref f3))) (l3 : K.lookup f3 = some ⟨oc3, od3, .func (PySem.W.fnOf "rises" "rises" (defArgs st_rises) (defBody st_rises) (defScope st_rises) .none kV3 dc3 pm3 an3 cd3 ct3), sl3⟩) (c3 : PySem.W.codeIn K cd3 "rises" = true) (k3 : PySem.W.keepIn K (.ref f3) = true)
    (a4 : PySem.W.nsIn K mainGlobals "are_words" = some (some (.ref f4))) (l4 : K.lookup f4 = some ⟨oc4, od4, .func (PySem.W.fnOf "are_words" "are_words" (defArgs st_are_words) (defBody st_are_words) (defScope st_are_words) .none kV4 dc4 pm4 an4 cd4 ct4), sl4⟩) (c4 : PySem.W.codeIn K cd4 "are_words" = true) (k4 : PySem.W.keepIn K (.ref f4) = true)
    (a5 : PySem.W.nsIn K mainGlobals "is_moment" = some (some (.ref f5))) (l5 : K.lookup f5 = some ⟨oc5, od5, .func (PySem.W.fnOf "is_moment" "is_moment" (defArgs st_is_moment) (defBody st_is_moment) (defScope st_is_moment) .none kV5 dc5 pm5 an5 cd5 ct5), sl5⟩) (c5 : PySem.W.codeIn K cd5 "is_moment" = true) (k5 : PySem.W.keepIn K (.ref f5) = true)
    (a6 : PySem.W.nsIn K mainGlobals "is_many" = some (some (.ref f6))) (l6 : K.lookup f6 = some ⟨oc6, od6, .func (PySem.W.fnOf "is_many" "is_many" (defArgs st_is_many) (defBody st_is_many) (defScope st_is_many) .none kV6 dc6 pm6 an6 cd6 ct6), sl6⟩) (c6 : PySem.W.codeIn K cd6 "is_many" = true) (k6 : PySem.W.keepIn K (.ref f6) = true)
    (a7 : PySem.W.nsIn K mainGlobals "is_cut" = some (some (.ref f7))) (l7 : K.lookup f7 = some ⟨oc7, od7, .func (PySem.W.fnOf "is_cut" "is_cut" (defArgs st_is_cut) (defBody st_is_cut) (defScope st_is_cut) .none kV7 dc7 pm7 an7 cd7 ct7), sl7⟩) (c7 : PySem.W.codeIn K cd7 "is_cut" = true) (k7 : PySem.W.keepIn K (.ref f7) = true)
    (a8 : PySem.W.nsIn K mainGlobals "are_looks" = some (some (.ref f8))) (l8 : K.lookup f8 = some ⟨oc8, od8, .func (PySem.W.fnOf "are_looks" "are_looks" (defArgs st_are_looks) (defBody st_are_looks) (defScope st_are_looks) .none kV8 dc8 pm8 an8 cd8 ct8), sl8⟩) (c8 : PySem.W.codeIn K cd8 "are_looks" = true) (k8 : PySem.W.keepIn K (.ref f8) = true)
    (a9 : PySem.W.nsIn K mainGlobals "are_names" = some (some (.ref f9))) (l9 : K.lookup f9 = some ⟨oc9, od9, .func (PySem.W.fnOf "are_names" "are_names" (defArgs st_are_names) (defBody st_are_names) (defScope st_are_names) .none kV9 dc9 pm9 an9 cd9 ct9), sl9⟩) (c9 : PySem.W.codeIn K cd9 "are_names" = true) (k9 : PySem.W.keepIn K (.ref f9) = true)
    (a10 : PySem.W.nsIn K mainGlobals "is_told" = some (some (.ref f10))) (l10 : K.lookup f10 = some ⟨oc10, od10, .func (PySem.W.fnOf "is_told" "is_told" (defArgs st_is_told) (defBody st_is_told) (defScope st_is_told) .none kV10 dc10 pm10 an10 cd10 ct10), sl10⟩) (c10 : PySem.W.codeIn K cd10 "is_told" = true) (k10 : PySem.W.keepIn K (.ref f10) = true)
    (a11 : PySem.W.nsIn K mainGlobals "is_page" = some (some (.ref f11))) (l11 : K.lookup f11 = some ⟨oc11, od11, .func (PySem.W.fnOf "is_page" "is_page" (defArgs st_is_page) (defBody st_is_page) (defScope st_is_page) .none kV11 dc11 pm11 an11 cd11 ct11), sl11⟩) (c11 : PySem.W.codeIn K cd11 "is_page" = true) (k11 : PySem.W.keepIn K (.ref f11) = true)
    (a12 : PySem.W.nsIn K mainGlobals "page_moment" = some (some (.ref f12))) (l12 : K.lookup f12 = some ⟨oc12, od12, .func (PySem.W.fnOf "page_moment" "page_moment" (defArgs st_page_moment) (defBody st_page_moment) (defScope st_page_moment) .none kV12 dc12 pm12 an12 cd12 ct12), sl12⟩) (c12 : PySem.W.codeIn K cd12 "page_moment" = true) (k12 : PySem.W.keepIn K (.ref f12) = true)
    (a13 : PySem.W.nsIn K mainGlobals "standing" = some (some (.ref f13))) (l13 : K.lookup f13 = some ⟨oc13, od13, .func (PySem.W.fnOf "standing" "standing" (defArgs st_standing) (defBody st_standing) (defScope st_standing) .none kV13 dc13 pm13 an13 cd13 ct13), sl13⟩) (c13 : PySem.W.codeIn K cd13 "standing" = true) (k13 : PySem.W.keepIn K (.ref f13) = true)
    (a14 : PySem.W.nsIn K mainGlobals "stands_ahead" = some (some (.ref f14))) (l14 : K.lookup f14 = some ⟨oc14, od14, .func (PySem.W.fnOf "stands_ahead" "stands_ahead" (defArgs st_stands_ahead) (defBody st_stands_ahead) (defScope st_stands_ahead) .none kV14 dc14 pm14 an14 cd14 ct14), sl14⟩) (c14 : PySem.W.codeIn K cd14 "stands_ahead" = true) (k14 : PySem.W.keepIn K (.ref f14) = true)
    (a15 : PySem.W.nsIn K mainGlobals "is_book" = some (some (.ref f15))) (l15 : K.lookup f15 = some ⟨oc15, od15, .func (PySem.W.fnOf "is_book" "is_book" (defArgs st_is_book) (defBody st_is_book) (defScope st_is_book) .none kV15 dc15 pm15 an15 cd15 ct15), sl15⟩) (c15 : PySem.W.codeIn K cd15 "is_book" = true) (k15 : PySem.W.keepIn K (.ref f15) = true)
    (a16 : PySem.W.nsIn K mainGlobals "in_order" = some (some (.ref f16))) (l16 : K.lookup f16 = some ⟨oc16, od16, .func (PySem.W.fnOf "in_order" "in_order" (defArgs st_in_order) (defBody st_in_order) (defScope st_in_order) .none kV16 dc16 pm16 an16 cd16 ct16), sl16⟩) (c16 : PySem.W.codeIn K cd16 "in_order" = true) (k16 : PySem.W.keepIn K (.ref f16) = true)
    (a17 : PySem.W.nsIn K mainGlobals "joined" = some (some (.ref f17))) (l17 : K.lookup f17 = some ⟨oc17, od17, .func (PySem.W.fnOf "joined" "joined" (defArgs st_joined) (defBody st_joined) (defScope st_joined) .none kV17 dc17 pm17 an17 cd17 ct17), sl17⟩) (c17 : PySem.W.codeIn K cd17 "joined" = true) (k17 : PySem.W.keepIn K (.ref f17) = true)
    {dt18 : Addr} {do18 : Value} {dz18 : Option Addr} {di18 : Array Value} {dn18 : Nat} {dl18 : Array (Option Value)} (a18 : PySem.W.nsIn K mainGlobals "up_to" = some (some (.ref f18))) (l18 : K.lookup f18 = some ⟨oc18, od18, .func (PySem.W.fnOf "up_to" "up_to" (defArgs st_up_to) (defBody st_up_to) (defScope st_up_to) (.ref dt18) kV18 dc18 pm18 an18 cd18 ct18), sl18⟩) (c18 : PySem.W.codeIn K cd18 "up_to" = true) (k18 : PySem.W.keepIn K (.ref f18) = true) (e18 : K.lookup dt18 = some ⟨do18, dz18, .seq di18 dn18, dl18⟩) (y18 : Vals [V.non] di18.toList)
    (a19 : PySem.W.nsIn K mainGlobals "_law_feed" = some (some (.ref f19))) (l19 : K.lookup f19 = some ⟨oc19, od19, .func (PySem.W.fnOf "_law_feed" "_law_feed" (defArgs st__law_feed) (defBody st__law_feed) (defScope st__law_feed) .none kV19 dc19 pm19 an19 cd19 ct19), sl19⟩) (c19 : PySem.W.codeIn K cd19 "_law_feed" = true) (k19 : PySem.W.keepIn K (.ref f19) = true)
    (a20 : PySem.W.nsIn K mainGlobals "_law_draw" = some (some (.ref f20))) (l20 : K.lookup f20 = some ⟨oc20, od20, .func (PySem.W.fnOf "_law_draw" "_law_draw" (defArgs st__law_draw) (defBody st__law_draw) (defScope st__law_draw) .none kV20 dc20 pm20 an20 cd20 ct20), sl20⟩) (c20 : PySem.W.codeIn K cd20 "_law_draw" = true) (k20 : PySem.W.keepIn K (.ref f20) = true)
    (a21 : PySem.W.nsIn K mainGlobals "_law_names" = some (some (.ref f21))) (l21 : K.lookup f21 = some ⟨oc21, od21, .func (PySem.W.fnOf "_law_names" "_law_names" (defArgs st__law_names) (defBody st__law_names) (defScope st__law_names) .none kV21 dc21 pm21 an21 cd21 ct21), sl21⟩) (c21 : PySem.W.codeIn K cd21 "_law_names" = true) (k21 : PySem.W.keepIn K (.ref f21) = true)
    (a22 : PySem.W.nsIn K mainGlobals "_law_words" = some (some (.ref f22))) (l22 : K.lookup f22 = some ⟨oc22, od22, .func (PySem.W.fnOf "_law_words" "_law_words" (defArgs st__law_words) (defBody st__law_words) (defScope st__law_words) .none kV22 dc22 pm22 an22 cd22 ct22), sl22⟩) (c22 : PySem.W.codeIn K cd22 "_law_words" = true) (k22 : PySem.W.keepIn K (.ref f22) = true)
    (a23 : PySem.W.nsIn K mainGlobals "_law_some" = some (some (.ref f23))) (l23 : K.lookup f23 = some ⟨oc23, od23, .func (PySem.W.fnOf "_law_some" "_law_some" (defArgs st__law_some) (defBody st__law_some) (defScope st__law_some) .none kV23 dc23 pm23 an23 cd23 ct23), sl23⟩) (c23 : PySem.W.codeIn K cd23 "_law_some" = true) (k23 : PySem.W.keepIn K (.ref f23) = true)
    (a24 : PySem.W.nsIn K mainGlobals "_law_seen" = some (some (.ref f24))) (l24 : K.lookup f24 = some ⟨oc24, od24, .func (PySem.W.fnOf "_law_seen" "_law_seen" (defArgs st__law_seen) (defBody st__law_seen) (defScope st__law_seen) .none kV24 dc24 pm24 an24 cd24 ct24), sl24⟩) (c24 : PySem.W.codeIn K cd24 "_law_seen" = true) (k24 : PySem.W.keepIn K (.ref f24) = true)
    (a25 : PySem.W.nsIn K mainGlobals "_law_page" = some (some (.ref f25))) (l25 : K.lookup f25 = some ⟨oc25, od25, .func (PySem.W.fnOf "_law_page" "_law_page" (defArgs st__law_page) (defBody st__law_page) (defScope st__law_page) .none kV25 dc25 pm25 an25 cd25 ct25), sl25⟩) (c25 : PySem.W.codeIn K cd25 "_law_page" = true) (k25 : PySem.W.keepIn K (.ref f25) = true)
    (a26 : PySem.W.nsIn K mainGlobals "law" = some (some (.ref f26))) (l26 : K.lookup f26 = some ⟨oc26, od26, .func (PySem.W.fnOf "law" "law" (defArgs st_law) (defBody st_law) (defScope st_law) .none kV26 dc26 pm26 an26 cd26 ct26), sl26⟩) (c26 : PySem.W.codeIn K cd26 "law" = true) (k26 : PySem.W.keepIn K (.ref f26) = true)
    {t1 : Addr} {is1 : Array Value} {n1 : Nat} {ss1 : Array (Option Value)} (q1 : PySem.W.nsIn K mainGlobals "KINDS" = some (some (.ref t1))) (m1 : K.lookup t1 = some ⟨.type "tuple", none, .seq is1 n1, ss1⟩) (h1 : is1.size ≤ sizeLine) (v1 : Vals [V.str "print", V.str "mend", V.str "turn", V.str "mix", V.str "cut", V.str "bind", V.str "seen", V.str "lot"] is1.toList)
    {tk2 : Tok} (q2 : PySem.W.nsIn K mainGlobals "LAST_DAY" = some (some (.int 99999 tk2)))
    {tk3 : Tok} (q3 : PySem.W.nsIn K mainGlobals "LAST_NUMBER" = some (some (.int 999 tk3)))
    {tk4 : Tok} (q4 : PySem.W.nsIn K mainGlobals "LETTERS" = some (some (.str "abcdefghijklmnopqrstuvwxyz" tk4)))
    {tk5 : Tok} (q5 : PySem.W.nsIn K mainGlobals "MOST_LETTERS" = some (some (.int 8 tk5)))
    (z1 : PySem.W.nsIn K mainGlobals "all" = some none)
    (z2 : PySem.W.nsIn K mainGlobals "bool" = some none)
    (z3 : PySem.W.nsIn K mainGlobals "int" = some none)
    (z4 : PySem.W.nsIn K mainGlobals "isinstance" = some none)
    (z5 : PySem.W.nsIn K mainGlobals "len" = some none)
    (z6 : PySem.W.nsIn K mainGlobals "list" = some none)
    (z7 : PySem.W.nsIn K mainGlobals "min" = some none)
    (z8 : PySem.W.nsIn K mainGlobals "range" = some none)
    (z9 : PySem.W.nsIn K mainGlobals "set" = some none)
    (z10 : PySem.W.nsIn K mainGlobals "sorted" = some none)
    (z11 : PySem.W.nsIn K mainGlobals "str" = some none)
    (z12 : PySem.W.nsIn K mainGlobals "tuple" = some none)
    (z13 : PySem.W.nsIn K mainGlobals "zip" = some none)
    : ∃ fd : FuncData, (∀ (s : Shared) (v : Value), BindsTo s fd ⟨[v], []⟩ [("script", v)]) ∧ ∀ base : Heap, K.In base → base.Ns mainGlobals mg → FnG P w K mg base 7 fa fd ["script"] p_law := by
  have e := hfa.symm.trans (PySem.W.mg_of X G a26)
  cases e
  have F1 := fun_mk (st := st_is_number) l1 c1 k1
  have F2 := fun_mk (st := st_is_word) l2 c2 k2
  have F3 := fun_mk (st := st_rises) l3 c3 k3
  have F4 := fun_mk (st := st_are_words) l4 c4 k4
  have F5 := fun_mk (st := st_is_moment) l5 c5 k5
  have F6 := fun_mk (st := st_is_many) l6 c6 k6
  have F7 := fun_mk (st := st_is_cut) l7 c7 k7
  have F8 := fun_mk (st := st_are_looks) l8 c8 k8
  have F9 := fun_mk (st := st_are_names) l9 c9 k9
  have F10 := fun_mk (st := st_is_told) l10 c10 k10
  have F11 := fun_mk (st := st_is_page) l11 c11 k11
  have F12 := fun_mk (st := st_page_moment) l12 c12 k12
  have F13 := fun_mk (st := st_standing) l13 c13 k13
  have F14 := fun_mk (st := st_stands_ahead) l14 c14 k14
  have F15 := fun_mk (st := st_is_book) l15 c15 k15
  have F16 := fun_mk (st := st_in_order) l16 c16 k16
  have F17 := fun_mk (st := st_joined) l17 c17 k17
  have F18 := fund_mk (st := st_up_to) l18 c18 k18 e18 (by simp) y18
  have F19 := fun_mk (st := st__law_feed) l19 c19 k19
  have F20 := fun_mk (st := st__law_draw) l20 c20 k20
  have F21 := fun_mk (st := st__law_names) l21 c21 k21
  have F22 := fun_mk (st := st__law_words) l22 c22 k22
  have F23 := fun_mk (st := st__law_some) l23 c23 k23
  have F24 := fun_mk (st := st__law_seen) l24 c24 k24
  have F25 := fun_mk (st := st__law_page) l25 c25 k25
  have F26 := fun_mk (st := st_law) l26 c26 k26
  have b1 := F1.binds (ps := ["thing"]) fun _ _ _ _ _ _ us hl => match us, hl with | [_], _ => rfl
  have b2 := F2.binds (ps := ["thing"]) fun _ _ _ _ _ _ us hl => match us, hl with | [_], _ => rfl
  have b3 := F3.binds (ps := ["some"]) fun _ _ _ _ _ _ us hl => match us, hl with | [_], _ => rfl
  have b4 := F4.binds (ps := ["thing"]) fun _ _ _ _ _ _ us hl => match us, hl with | [_], _ => rfl
  have b5 := F5.binds (ps := ["thing"]) fun _ _ _ _ _ _ us hl => match us, hl with | [_], _ => rfl
  have b6 := F6.binds (ps := ["thing"]) fun _ _ _ _ _ _ us hl => match us, hl with | [_], _ => rfl
  have b7 := F7.binds (ps := ["thing"]) fun _ _ _ _ _ _ us hl => match us, hl with | [_], _ => rfl
  have b8 := F8.binds (ps := ["thing"]) fun _ _ _ _ _ _ us hl => match us, hl with | [_], _ => rfl
  have b9 := F9.binds (ps := ["thing"]) fun _ _ _ _ _ _ us hl => match us, hl with | [_], _ => rfl
  have b10 := F10.binds (ps := ["kind", "rest"]) fun _ _ _ _ _ _ us hl => match us, hl with | [_, _], _ => rfl
  have b11 := F11.binds (ps := ["thing"]) fun _ _ _ _ _ _ us hl => match us, hl with | [_], _ => rfl
  have b12 := F12.binds (ps := ["page"]) fun _ _ _ _ _ _ us hl => match us, hl with | [_], _ => rfl
  have b13 := F13.binds (ps := ["page"]) fun _ _ _ _ _ _ us hl => match us, hl with | [_], _ => rfl
  have b14 := F14.binds (ps := ["one", "other"]) fun _ _ _ _ _ _ us hl => match us, hl with | [_, _], _ => rfl
  have b15 := F15.binds (ps := ["thing"]) fun _ _ _ _ _ _ us hl => match us, hl with | [_], _ => rfl
  have b16 := F16.binds (ps := ["pages"]) fun _ _ _ _ _ _ us hl => match us, hl with | [_], _ => rfl
  have b17 := F17.binds (ps := ["one", "other"]) fun _ _ _ _ _ _ us hl => match us, hl with | [_, _], _ => rfl
  have b18 := fund_full (ps := ["book", "until"]) F18 (by simp) fun _ _ _ _ _ _ _ us its hl h2 => match us, its, hl, h2 with | [_, _], [_], _, _ => ⟨_, rfl, rfl⟩
  have b19 := F19.binds (ps := ["script"]) fun _ _ _ _ _ _ us hl => match us, hl with | [_], _ => rfl
  have b20 := F20.binds (ps := ["feed", "many"]) fun _ _ _ _ _ _ us hl => match us, hl with | [_, _], _ => rfl
  have b21 := F21.binds (ps := ["feed", "many"]) fun _ _ _ _ _ _ us hl => match us, hl with | [_, _], _ => rfl
  have b22 := F22.binds (ps := ["feed"]) fun _ _ _ _ _ _ us hl => match us, hl with | [_], _ => rfl
  have b23 := F23.binds (ps := ["feed", "words", "most"]) fun _ _ _ _ _ _ us hl => match us, hl with | [_, _, _], _ => rfl
  have b24 := F24.binds (ps := ["feed", "words"]) fun _ _ _ _ _ _ us hl => match us, hl with | [_, _], _ => rfl
  have b25 := F25.binds (ps := ["feed", "words"]) fun _ _ _ _ _ _ us hl => match us, hl with | [_, _], _ => rfl
  have b26 := F26.binds (ps := ["script"]) fun _ _ _ _ _ _ us hl => match us, hl with | [_], _ => rfl
  exact ⟨PySem.W.fnOf "law" "law" (defArgs st_law) (defBody st_law) (defScope st_law) .none kV26 dc26 pm26 an26 cd26 ct26, fun s v => .of_eq rfl, fun base _ _ => fn_law { a_is_number := f1, d_is_number := _, F_is_number := F1, g_is_number := PySem.W.mg_of X G a1, b_is_number := b1, a_is_word := f2, d_is_word := _, F_is_word := F2, g_is_word := PySem.W.mg_of X G a2, b_is_word := b2, a_rises := f3, d_rises := _, F_rises := F3, g_rises := PySem.W.mg_of X G a3, b_rises := b3, a_are_words := f4, d_are_words := _, F_are_words := F4, g_are_words := PySem.W.mg_of X G a4, b_are_words := b4, a_is_moment := f5, d_is_moment := _, F_is_moment := F5, g_is_moment := PySem.W.mg_of X G a5, b_is_moment := b5, a_is_many := f6, d_is_many := _, F_is_many := F6, g_is_many := PySem.W.mg_of X G a6, b_is_many := b6, a_is_cut := f7, d_is_cut := _, F_is_cut := F7, g_is_cut := PySem.W.mg_of X G a7, b_is_cut := b7, a_are_looks := f8, d_are_looks := _, F_are_looks := F8, g_are_looks := PySem.W.mg_of X G a8, b_are_looks := b8, a_are_names := f9, d_are_names := _, F_are_names := F9, g_are_names := PySem.W.mg_of X G a9, b_are_names := b9, a_is_told := f10, d_is_told := _, F_is_told := F10, g_is_told := PySem.W.mg_of X G a10, b_is_told := b10, a_is_page := f11, d_is_page := _, F_is_page := F11, g_is_page := PySem.W.mg_of X G a11, b_is_page := b11, a_page_moment := f12, d_page_moment := _, F_page_moment := F12, g_page_moment := PySem.W.mg_of X G a12, b_page_moment := b12, a_standing := f13, d_standing := _, F_standing := F13, g_standing := PySem.W.mg_of X G a13, b_standing := b13, a_stands_ahead := f14, d_stands_ahead := _, F_stands_ahead := F14, g_stands_ahead := PySem.W.mg_of X G a14, b_stands_ahead := b14, a_is_book := f15, d_is_book := _, F_is_book := F15, g_is_book := PySem.W.mg_of X G a15, b_is_book := b15, a_in_order := f16, d_in_order := _, F_in_order := F16, g_in_order := PySem.W.mg_of X G a16, b_in_order := b16, a_joined := f17, d_joined := _, F_joined := F17, g_joined := PySem.W.mg_of X G a17, b_joined := b17, a_up_to := f18, d_up_to := _, F_up_to := F18, g_up_to := PySem.W.mg_of X G a18, b_up_to := b18, a__law_feed := f19, d__law_feed := _, F__law_feed := F19, g__law_feed := PySem.W.mg_of X G a19, b__law_feed := b19, a__law_draw := f20, d__law_draw := _, F__law_draw := F20, g__law_draw := PySem.W.mg_of X G a20, b__law_draw := b20, a__law_names := f21, d__law_names := _, F__law_names := F21, g__law_names := PySem.W.mg_of X G a21, b__law_names := b21, a__law_words := f22, d__law_words := _, F__law_words := F22, g__law_words := PySem.W.mg_of X G a22, b__law_words := b22, a__law_some := f23, d__law_some := _, F__law_some := F23, g__law_some := PySem.W.mg_of X G a23, b__law_some := b23, a__law_seen := f24, d__law_seen := _, F__law_seen := F24, g__law_seen := PySem.W.mg_of X G a24, b__law_seen := b24, a__law_page := f25, d__law_page := _, F__law_page := F25, g__law_page := PySem.W.mg_of X G a25, b__law_page := b25, a_law := fa, d_law := _, F_law := F26, g_law := PySem.W.mg_of X G a26, b_law := b26, u_KINDS := .ref t1, v_KINDS := .ref t1, g_KINDS := PySem.W.mg_of X G q1, r_KINDS := rfl, kr_KINDS := fun _ => rep_ktup m1 rfl rfl h1 v1 (.cons (by rw [Rep]) (.cons (by rw [Rep]) (.cons (by rw [Rep]) (.cons (by rw [Rep]) (.cons (by rw [Rep]) (.cons (by rw [Rep]) (.cons (by rw [Rep]) (.cons (by rw [Rep]) .nil)))))))), x_KINDS := ⟨_, _, PySem.W.mg_of X G q1, m1, rfl, rfl, fun _ => rep_ktup m1 rfl rfl h1 v1 (.cons (by rw [Rep]) (.cons (by rw [Rep]) (.cons (by rw [Rep]) (.cons (by rw [Rep]) (.cons (by rw [Rep]) (.cons (by rw [Rep]) (.cons (by rw [Rep]) (.cons (by rw [Rep]) .nil))))))))⟩, u_LAST_DAY := .int 99999 tk2, v_LAST_DAY := .int 99999, g_LAST_DAY := PySem.W.mg_of X G q2, r_LAST_DAY := ⟨_, rfl⟩, kr_LAST_DAY := fun _ => by rw [k_LAST_DAY, Rep], u_LAST_NUMBER := .int 999 tk3, v_LAST_NUMBER := .int 999, g_LAST_NUMBER := PySem.W.mg_of X G q3, r_LAST_NUMBER := ⟨_, rfl⟩, kr_LAST_NUMBER := fun _ => by rw [k_LAST_NUMBER, Rep], u_LETTERS := .str "abcdefghijklmnopqrstuvwxyz" tk4, v_LETTERS := .str "abcdefghijklmnopqrstuvwxyz", g_LETTERS := PySem.W.mg_of X G q4, r_LETTERS := ⟨_, rfl⟩, kr_LETTERS := fun _ => by rw [k_LETTERS, Rep], u_MOST_LETTERS := .int 8 tk5, v_MOST_LETTERS := .int 8, g_MOST_LETTERS := PySem.W.mg_of X G q5, r_MOST_LETTERS := ⟨_, rfl⟩, kr_MOST_LETTERS := fun _ => by rw [k_MOST_LETTERS, Rep], z_all := PySem.W.mg_none_of X G z1, z_bool := PySem.W.mg_none_of X G z2, z_int := PySem.W.mg_none_of X G z3, z_isinstance := PySem.W.mg_none_of X G z4, z_len := PySem.W.mg_none_of X G z5, z_list := PySem.W.mg_none_of X G z6, z_min := PySem.W.mg_none_of X G z7, z_range := PySem.W.mg_none_of X G z8, z_set := PySem.W.mg_none_of X G z9, z_sorted := PySem.W.mg_none_of X G z10, z_str := PySem.W.mg_none_of X G z11, z_tuple := PySem.W.mg_none_of X G z12, z_zip := PySem.W.mg_none_of X G z13 }⟩
end PL
open PySem PySem.W PyProof.Rows
set_option maxHeartbeats 0 in
theorem PySem.Challenge.cw_cancelleaves_k13_whole_joined_thrice_holds : PySem.Challenge.rw_cancelleaves_k13_whole_joined_thrice.Holds := by
  w_on; o_law; k_head; (case hw => w_witness2)
  k_fill
  refine PL.walk_G (l := PySem.Challenge.rw_cancelleaves_k13_whole_joined_thrice) (k := 7) (x := "script") rfl rfl ⟨rfl, by decide, by decide⟩ (fun w h Y => PySem.W.kIn_of Y) ?F
  case F =>
    intro w mg fa h KX G hmg
    refine' PL.all_mk KX G hmg ?a1 ?l1 ?c1 ?k1 ?a2 ?l2 ?c2 ?k2 ?a3 ?l3 ?c3 ?k3 ?a4 ?l4 ?c4 ?k4 ?a5 ?l5 ?c5 ?k5 ?a6 ?l6 ?c6 ?k6 ?a7 ?l7 ?c7 ?k7 ?a8 ?l8 ?c8 ?k8 ?a9 ?l9 ?c9 ?k9 ?a10 ?l10 ?c10 ?k10 ?a11 ?l11 ?c11 ?k11 ?a12 ?l12 ?c12 ?k12 ?a13 ?l13 ?c13 ?k13 ?a14 ?l14 ?c14 ?k14 ?a15 ?l15 ?c15 ?k15 ?a16 ?l16 ?c16 ?k16 ?a17 ?l17 ?c17 ?k17 ?a18 ?l18 ?c18 ?k18 ?e18 ?y18 ?a19 ?l19 ?c19 ?k19 ?a20 ?l20 ?c20 ?k20 ?a21 ?l21 ?c21 ?k21 ?a22 ?l22 ?c22 ?k22 ?a23 ?l23 ?c23 ?k23 ?a24 ?l24 ?c24 ?k24 ?a25 ?l25 ?c25 ?k25 ?a26 ?l26 ?c26 ?k26 ?q1 ?m1 ?h1 ?v1 ?q2 ?q3 ?q4 ?q5 ?z1 ?z2 ?z3 ?z4 ?z5 ?z6 ?z7 ?z8 ?z9 ?z10 ?z11 ?z12 ?z13
    (case a1 => k_is)
    (case l1 => k_is)
    (case c1 => k_is)
    (case k1 => k_is)
    (case a2 => k_is)
    (case l2 => k_is)
    (case c2 => k_is)
    (case k2 => k_is)
    (case a3 => k_is)
    (case l3 => k_is)
    (case c3 => k_is)
    (case k3 => k_is)
    (case a4 => k_is)
    (case l4 => k_is)
    (case c4 => k_is)
    (case k4 => k_is)
    (case a5 => k_is)
    (case l5 => k_is)
    (case c5 => k_is)
    (case k5 => k_is)
    (case a6 => k_is)
    (case l6 => k_is)
    (case c6 => k_is)
    (case k6 => k_is)
    (case a7 => k_is)
    (case l7 => k_is)
    (case c7 => k_is)
    (case k7 => k_is)
    (case a8 => k_is)
    (case l8 => k_is)
    (case c8 => k_is)
    (case k8 => k_is)
    (case a9 => k_is)
    (case l9 => k_is)
    (case c9 => k_is)
    (case k9 => k_is)
    (case a10 => k_is)
    (case l10 => k_is)
    (case c10 => k_is)
    (case k10 => k_is)
    (case a11 => k_is)
    (case l11 => k_is)
    (case c11 => k_is)
    (case k11 => k_is)
    (case a12 => k_is)
    (case l12 => k_is)
    (case c12 => k_is)
    (case k12 => k_is)
    (case a13 => k_is)
    (case l13 => k_is)
    (case c13 => k_is)
    (case k13 => k_is)
    (case a14 => k_is)
    (case l14 => k_is)
    (case c14 => k_is)
    (case k14 => k_is)
    (case a15 => k_is)
    (case l15 => k_is)
    (case c15 => k_is)
    (case k15 => k_is)
    (case a16 => k_is)
    (case l16 => k_is)
    (case c16 => k_is)
    (case k16 => k_is)
    (case a17 => k_is)
    (case l17 => k_is)
    (case c17 => k_is)
    (case k17 => k_is)
    (case a18 => k_is)
    (case l18 => k_is)
    (case c18 => k_is)
    (case k18 => k_is)
    (case e18 => k_is)
    (case y18 => exact (.cons rfl .nil))
    (case a19 => k_is)
    (case l19 => k_is)
    (case c19 => k_is)
    (case k19 => k_is)
    (case a20 => k_is)
    (case l20 => k_is)
    (case c20 => k_is)
    (case k20 => k_is)
    (case a21 => k_is)
    (case l21 => k_is)
    (case c21 => k_is)
    (case k21 => k_is)
    (case a22 => k_is)
    (case l22 => k_is)
    (case c22 => k_is)
    (case k22 => k_is)
    (case a23 => k_is)
    (case l23 => k_is)
    (case c23 => k_is)
    (case k23 => k_is)
    (case a24 => k_is)
    (case l24 => k_is)
    (case c24 => k_is)
    (case k24 => k_is)
    (case a25 => k_is)
    (case l25 => k_is)
    (case c25 => k_is)
    (case k25 => k_is)
    (case a26 => k_is)
    (case l26 => k_is)
    (case c26 => k_is)
    (case k26 => k_is)
    (case q1 => k_is)
    (case m1 => k_is)
    (case h1 => decide)
    (case v1 => exact (.cons ⟨_, rfl⟩ (.cons ⟨_, rfl⟩ (.cons ⟨_, rfl⟩ (.cons ⟨_, rfl⟩ (.cons ⟨_, rfl⟩ (.cons ⟨_, rfl⟩ (.cons ⟨_, rfl⟩ (.cons ⟨_, rfl⟩ .nil)))))))))
    (case q2 => k_is)
    (case q3 => k_is)
    (case q4 => k_is)
    (case q5 => k_is)
    (case z1 => k_is)
    (case z2 => k_is)
    (case z3 => k_is)
    (case z4 => k_is)
    (case z5 => k_is)
    (case z6 => k_is)
    (case z7 => k_is)
    (case z8 => k_is)
    (case z9 => k_is)
    (case z10 => k_is)
    (case z11 => k_is)
    (case z12 => k_is)
    (case z13 => k_is)
